import PyProof.Rows.All
import Wide.All
import OpenK.AllK
import Wide.FinOn
import KE.KStateDown
import HandS.ForMost
import HandS.ForExc
import HandS.ExcIs
import HandS.IsInst
import HandS.Codes
import HandS.Conv
import HandS.More
import HandS.SortInts
import HandS.Strs
import HandS.SetKeys
import HandS.Flow
import HandS.NoneIn
import HandS.Defaults
import HandS.CallSlots
import HandS.Deep
import HandS.Wide
import HandS.WideBits
import HandS.Head0
import HandS.Head1
import HandS.Head2
import HandS.HeadEnd
import HandS.HeadHook1
import HandS.HeadHook2
import HandS.HeadHook3
import HandS.HeadHook4
import HandS.DictComp
import HandS.SetFor
import KE.KEqDict
import PyProof.P3Eq
import HandS.Rev
import HandS.ListEq
import HandS.DictTup
import KE.KSortTupG
import PyProof.ReprRoads
import HandS.DeepEq
import HandS.Finally
import KE.KSortedM
import PySem.Challenge.RW_forgethall_k21_ways
set_option Elab.async false
set_option linter.all false
set_option maxRecDepth 100000
set_option maxHeartbeats 4000000
/-! Own rules over the hand layer: calls by packages, fields by a known class, raising, isinstance in an except suite. -/
namespace U
open PySem PySem.Spec PyProof.Rows L2

/-! ### packages: a def, a method, a class that may be called -/
structure Cal (P : Program) (w : World) (K : PySem.W.Frag) (mg : Str → Option Value) (base : Heap) (CX : CXT) (k : Nat) (x : Str) (sp : Sp) (dvs : List V) : Prop where
  ex : ∃ (f : Addr) (fd : FuncData) (ps : List Str) (ds : List Value), FnOk P w K mg base CX k f fd ps sp ∧ mg x = some (.ref f) ∧ PySem.W.keepIn K (.ref f) = true ∧ Binds K fd ps ds ∧ Vals dvs ds
structure Met (P : Program) (w : World) (K : PySem.W.Frag) (mg : Str → Option Value) (base : Heap) (CX : CXT) (k : Nat) (C : Addr) (m : Str) (sp : Sp) (dvs : List V) : Prop where
  ex : ∃ (f : Addr) (fd : FuncData) (ps : List Str) (ds : List Value), Cls K C ∧ Meth K C m f ∧ FnOk P w K mg base CX k f fd ps sp ∧ Binds K fd ps ds ∧ Vals dvs ds
structure Mak (P : Program) (w : World) (K : PySem.W.Frag) (mg : Str → Option Value) (base : Heap) (CX : CXT) (k : Nat) (x : Str) (C : Addr) (sp : Sp) (dvs : List V) : Prop where
  ex : ∃ (f : Addr) (fd : FuncData) (ps : List Str) (ds : List Value), Mk K C f ∧ FnOk P w K mg base CX k f fd ps sp ∧ mg x = some (.ref C) ∧ Binds K fd ps ds ∧ Vals dvs ds

abbrev tCl : Sp → List V → (L2.St → XK) → TA → TE := L2.tCallSD
def tMt (C : Addr) (m : Str) (sp : Sp) (dvs : List V) (E : L2.St → XK) (ta : TE) (t : TA) : TE := fun σ H Q => ta σ H fun x H1 => ∃ a dx fs, x = .ref a ∧ H1 a = some (.ins C dx fs) ∧ fs.lookup m = none ∧
  t σ H1 fun vs H2 => sp (x :: (vs ++ dvs)) H2 Q (E σ)
def tMk (C : Addr) (sp : Sp) (dvs : List V) (E : L2.St → XK) (t : TA) : TE := fun σ H Q => t σ H fun vs H1 => ∀ x dx, H1 x = none → H1 dx = none → dx ≠ x →
  sp (.ref x :: (vs ++ dvs)) (upd (upd H1 dx (.own x)) x (.ins C dx [])) (fun v H2 => v = .non ∧ Q (.ref x) H2) (E σ)

abbrev ES0 : L2.St → XK := fun _ _ _ _ => False
theorem ps0 {X : Cx} {E : L2.St → XK} : ∀ σ, PassesAt CX0 X σ (E σ) := fun _ _ _ _ _ _ _ h => h.elim

section
variable {X : Cx} {CX : CXT} {k j : Nat} {f C : Addr} {fd : FuncData} {ps : List Str} {sp : Sp} {dvs : List V} {ds : List Value} {E : L2.St → XK} {x m : Str} {p pos apos : Pos} {e o : Expr} {es : List Expr} {ta : TE} {t : TA}
theorem pe_c (c : Cal X.prog X.w X.K X.mg X.base CX k x sp dvs) (hr : Room j X.A) (hk : k ≤ j) (hx : ∀ σ, PassesAt CX X σ (E σ)) (hg : Gl X x) (ha : PA X (e :: es) t)
    (hdb : (x == ("__debug__" : Str)) = false := by decide) (he : starEach (e :: es) X.env = (false, eval e X.env) :: starEach es X.env := by rfl) (hpl : (backTo pos (starEach es X.env)).any (·.1) = false := by rfl) :
    PE X (.Call (.Name x p) (e :: es) [] pos) (tCl sp dvs E t) := by
  obtain ⟨f, fd, ps, ds, F, hm, kp, b, d⟩ := c.ex
  exact L2.pe_callSD F (hr.mono hk) hg hm kp b d hx ha hdb he hpl
theorem pe_c0 (c : Cal X.prog X.w X.K X.mg X.base CX k x sp dvs) (hr : Room j X.A) (hk : k ≤ j) (hx : ∀ σ, PassesAt CX X σ (E σ)) (hg : Gl X x)
    (hdb : (x == ("__debug__" : Str)) = false := by decide) : PE X (.Call (.Name x p) [] [] pos) (tCl sp dvs E tNil) := by
  obtain ⟨f, fd, ps, ds, F, hm, kp, b, d⟩ := c.ex
  refine ⟨fun pins s σ H Q I h => ?_⟩
  refine wpAny_Call_Name_kw (ld_glob I hg hm ?_ hdb)
  exact PySem.W.callWith_K0 I.kIn kp (L2.run_fnSD (us := []) F (hr.mono hk) b d (hx σ) I .nil h)
theorem pe_mt {pl : Sem Bool} (c : Met X.prog X.w X.K X.mg X.base CX k C m sp dvs) (hr : Room j X.A) (hk : k ≤ j) (hx : ∀ σ, PassesAt CX X σ (E σ)) (he : PE X o ta) (ha : PA X (e :: es) t)
    (hst : starEach (e :: es) X.env = (false, eval e X.env) :: starEach es X.env := by rfl) (hpl : (backTo pos (starEach es X.env)).any (·.1) = false := by rfl)
    (ht : eval (.Call (.Attribute o m apos) (e :: es) [] pos) X.env = (do
      let ov ← eval o X.env
      standAt apos.atName
      let (f, first) ← holding [ov] (getMethod ov m pl)
      callWith pos f first (backTo pos (starEach (e :: es) X.env)) (backToKw pos (keywordEach [] X.env))) := by rfl) :
    PE X (.Call (.Attribute o m apos) (e :: es) [] pos) (tMt C m sp dvs E ta t) := by
  obtain ⟨f, fd, ps, ds, hc, hm, F, b, d⟩ := c.ex
  refine ⟨fun pins s σ H Q I h => ?_⟩
  refine PySem.W.methodCall_KW (pl := pl) (thn (he.run pins s σ H _ I h) fun u s1 ⟨x, H1, I1, rx, a, dx, fs, ex, ea, l, q⟩ => ?_) ht
  subst ex
  obtain rfl : u = Value.ref a := rx
  refine getmeth_ok I1 ea hc hm l ?_
  refine PySem.W.callWith_K (first := [.ref a]) (h₀ := X.base) I.ok.mod.kin hm.kp (thn (ha.run pos pins s1 σ H1 _ I1 q) fun us s2 ⟨vs, H2, I2, r, q2⟩ => ⟨I2.kIn, ?_⟩) hst hpl
  exact L2.run_fnSD (us := .ref a :: us) (vs := .ref a :: vs) F (hr.mono hk) b d (hx σ) I2 (.cons rfl r) q2
theorem pe_mt0 {pl : Sem Bool} (c : Met X.prog X.w X.K X.mg X.base CX k C m sp dvs) (hr : Room j X.A) (hk : k ≤ j) (hx : ∀ σ, PassesAt CX X σ (E σ)) (he : PE X o ta)
    (ht : eval (.Call (.Attribute o m apos) [] [] pos) X.env = (do
      let ov ← eval o X.env
      standAt apos.atName
      let (f, first) ← holding [ov] (getMethod ov m pl)
      callWith pos f first (backTo pos (starEach [] X.env)) (backToKw pos (keywordEach [] X.env))) := by rfl) :
    PE X (.Call (.Attribute o m apos) [] [] pos) (tMt C m sp dvs E ta tNil) := by
  obtain ⟨f, fd, ps, ds, hc, hm, F, b, d⟩ := c.ex
  refine ⟨fun pins s σ H Q I h => ?_⟩
  refine PySem.W.methodCall_KW (pl := pl) (thn (he.run pins s σ H _ I h) fun u s1 ⟨x, H1, I1, rx, a, dx, fs, ex, ea, l, q⟩ => ?_) ht
  subst ex
  obtain rfl : u = Value.ref a := rx
  refine getmeth_ok I1 ea hc hm l ?_
  exact PySem.W.callWith_K0 (first := [.ref a]) I1.kIn hm.kp (L2.run_fnSD (us := [.ref a]) (vs := [.ref a]) F (hr.mono hk) b d (hx σ) I1 (.cons rfl .nil) q)
theorem run_mk {pins : List (Addr × Obj)} {σ : L2.St} {H : Hp} {s : Shared} {Q : VK} {us : List Value} {vs : List V} (M : Mk X.K C f) (F : FnOk X.prog X.w X.K X.mg X.base CX k f fd ps sp) (hr : Room (k + 1) X.A) (hb : Binds X.K fd ps ds) (hd : Vals dvs ds)
    (hx : PassesAt CX X σ (E σ)) (I : Inv X pins σ H s) (r : Vals vs us)
    (h : ∀ x dx, H x = none → H dx = none → dx ≠ x → sp (.ref x :: (vs ++ dvs)) (upd (upd H dx (.own x)) x (.ins C dx [])) (fun v H2 => v = .non ∧ Q (.ref x) H2) (E σ)) :
    wpAny (model X.prog X.w) X.A (call (.ref C) us) (EP X pins σ Q) X.xe s := by
  have hq := h (s.heap.objs.size + 1) s.heap.objs.size (I.hok.fresh (Nat.le_succ _)) (I.hok.fresh (Nat.le_refl _)) (Nat.ne_of_lt (Nat.lt_succ_self _))
  have I2 := Inv.made (C := C) I
  have r2 : Vals (V.ref (s.heap.objs.size + 1) :: (vs ++ dvs)) (Value.ref (s.heap.objs.size + 1) :: (us ++ ds)) := .cons rfl (r.append hd)
  have hl : (Value.ref (s.heap.objs.size + 1) :: us ++ ds).length = ps.length := by
    have e := r2.length
    rw [F.len _ _ _ _ hq] at e
    exact e.symm
  refine wpAny_call (make_map (f := f) I.kIn M.makes M.init (beq_iff_eq.mp M.fn) (codeAny_mono (F.run _ X.stack _ _ ⟨Value.ref (s.heap.objs.size + 1) :: us, []⟩ (Value.ref (s.heap.objs.size + 1) :: (us ++ ds)) _ _ (E σ) (hr.make C us [])
    (I2.env0.make C us []) (hb _ (Value.ref (s.heap.objs.size + 1) :: us) I2.kIn hl) r2 hq) fun r s' hq' => ?_))
  cases r with
  | error e => exact hx pins _ _ e s' I2 hq'
  | ok fl =>
    cases fl with
    | ret u =>
      obtain ⟨v, H', I3, rv, ev, q3⟩ := I2.after hq'
      subst ev
      exact ⟨rv, ⟨V.ref (s.heap.objs.size + 1), H', I3, rfl, q3⟩⟩
    | next => exact False.elim hq'
    | brk => exact False.elim hq'
    | cont => exact False.elim hq'
theorem pe_mk (c : Mak X.prog X.w X.K X.mg X.base CX k x C sp dvs) (hr : Room j X.A) (hk : k + 1 ≤ j) (hx : ∀ σ, PassesAt CX X σ (E σ)) (hg : Gl X x) (ha : PA X (e :: es) t)
    (hdb : (x == ("__debug__" : Str)) = false := by decide) (he : starEach (e :: es) X.env = (false, eval e X.env) :: starEach es X.env := by rfl) (hpl : (backTo pos (starEach es X.env)).any (·.1) = false := by rfl) :
    PE X (.Call (.Name x p) (e :: es) [] pos) (tMk C sp dvs E t) := by
  obtain ⟨f, fd, ps, ds, M, F, hm, b, d⟩ := c.ex
  refine ⟨fun pins s σ H Q I h => ?_⟩
  refine wpAny_Call_Name_kw (ld_glob I hg hm ?_ hdb)
  refine PySem.W.callWith_K (h₀ := X.base) I.ok.mod.kin M.kp (thn (ha.run pos pins s σ H _ I h) fun us s1 ⟨vs, H1, I1, r, q⟩ => ⟨I1.kIn, ?_⟩) he hpl
  exact run_mk M F (hr.mono hk) b d (hx σ) I1 r q
theorem pe_mk0 (c : Mak X.prog X.w X.K X.mg X.base CX k x C sp dvs) (hr : Room j X.A) (hk : k + 1 ≤ j) (hx : ∀ σ, PassesAt CX X σ (E σ)) (hg : Gl X x)
    (hdb : (x == ("__debug__" : Str)) = false := by decide) : PE X (.Call (.Name x p) [] [] pos) (tMk C sp dvs E tNil) := by
  obtain ⟨f, fd, ps, ds, M, F, hm, b, d⟩ := c.ex
  refine ⟨fun pins s σ H Q I h => ?_⟩
  refine wpAny_Call_Name_kw (ld_glob I hg hm ?_ hdb)
  exact PySem.W.callWith_K0 I.kIn M.kp (run_mk (us := []) M F (hr.mono hk) b d (hx σ) I .nil h)
end

/-! ### a field of an instance of a known class -/
def tFd (C : Addr) (ta : TE) (f : Str) : TE := fun σ H Q => ta σ H fun x H1 => ∃ a dx fs v, x = .ref a ∧ H1 a = some (.ins C dx fs) ∧ fs.lookup f = some v ∧ Q v H1
def sFd (C : Addr) (ta tv : TE) (f : Str) : TS := fun D σ H => tv σ H fun y H1 => ta σ H1 fun x H2 => ∃ a dx fs, x = .ref a ∧ H2 a = some (.ins C dx fs) ∧ fs.length < 1000 ∧ D.nx σ (upd H2 a (.ins C dx (putF f y fs)))
/-- e.f += value, whole numbers -/
def sFdAdd (C : Addr) (ta tv : TE) (f : Str) : TS := fun D σ H => ta σ H fun x H1 => ∃ a dx fs i, x = .ref a ∧ H1 a = some (.ins C dx fs) ∧ fs.lookup f = some (.int i) ∧
  tv σ H1 fun y H2 => ∃ j dx' fs', y = .int j ∧ H2 a = some (.ins C dx' fs') ∧ fs'.length < 1000 ∧ D.nx σ (upd H2 a (.ins C dx' (putF f (.int (i + j)) fs')))
section
variable {X : Cx} {o e value : Expr} {f : Str} {pos pos' tpos : Pos} {ta tv : TE} {C : Addr}
theorem pe_fd (c : Cls X.K C) (n : NoAttr X.K C f) (he : PE X e ta) (hb : attributeBase e f X.env (eval e X.env) = eval e X.env := by rfl) : PE X (.Attribute e f pos) (tFd C ta f) := by
  refine ⟨fun pins s σ H Q I h => ?_⟩
  refine attr_of hb (thn (he.run pins s σ H _ I h) fun u s1 ⟨x, H1, I1, rx, a, dx, fs, v, ex, ea, l, q⟩ => ?_)
  subst ex
  obtain rfl : u = Value.ref a := rx
  exact getattr_ok I1 ea c n l fun u' s2 I2 ru => ⟨v, H1, I2, ru, q⟩
theorem ps_fd (c : Cls X.K C) (n : NoAttr X.K C f) (ha : PE X o ta) (hv : PE X value tv) (hs : swapsWith value (some (.Attribute o f pos')) pos.line X.env = pure false := by rfl) : PS X (.Assign [.Attribute o f pos'] value pos) (sFd C ta tv f) := by
  refine ⟨fun pins s σ H D I h => ?_⟩
  refine plainObj_wpAny_Assign_Attribute (thn (hv.run pins s σ H _ I h) fun u s1 ⟨y, H1, I1, ry, q⟩ => thn (ha.run pins s1 σ H1 _ I1 q) fun ov s2 ⟨x, H2, I2, rx, a, dx, fs, ex, ea, l, q2⟩ => ?_) hs
  subst ex
  obtain rfl : ov = Value.ref a := rx
  exact setattr_ok I2 ea c n l ry fun s3 I3 => ⟨σ, _, I3, q2⟩
theorem ps_fdadd (c : Cls X.K C) (n : NoAttr X.K C f) (ha : PE X o ta) (hv : PE X value tv) : PS X (.AugAssign (.Attribute o f tpos) .Add value pos) (sFdAdd C ta tv f) := by
  refine ⟨fun pins s σ H D I h => ?_⟩
  refine wpAny_AugAssign_AttributeAny (thn (ha.run pins s σ H _ I h) fun ov s1 ⟨x, H1, I1, rx, a, dx, fs, i, ex, ea, l, q⟩ => ?_)
  subst ex
  obtain rfl : ov = Value.ref a := rx
  refine getattr_ok I1 ea c n l fun u s2 I2 ru => thn (hv.run pins s2 σ H1 _ I2 q) fun w3 s3 ⟨y, H2, I3, ry, j, dx', fs', ey, ea', l', q3⟩ => ?_
  subst ey
  refine thn (in_add (X := X) pins s3 σ H2 (.int i) (.int j) u w3 (fun z H3 => z = .int (i + j) ∧ H3 = H2) I3 ru ry ⟨i, j, rfl, rfl, rfl, rfl⟩) fun w4 s4 ⟨z, H3, I4, rz, ez, eH⟩ => ?_
  subst ez
  subst eH
  exact setattr_ok I4 ea' c n l' rz fun s5 I5 => ⟨σ, _, I5, q3⟩
end

/-! ### constants of the module -/
section
variable {X : Cx} {x : Str} {pos : Pos}
theorem pe_gi {i : Int} (hg : Gl X x) (h : ∃ t, X.mg x = some (.int i t)) (hd : (x == ("__debug__" : Str)) = false := by decide) : PE X (.Name x pos) (tC (.int i)) := by
  obtain ⟨t, h⟩ := h
  exact pe_glob hg h ⟨t, rfl⟩ hd
theorem pe_gs {z : Str} (hg : Gl X x) (h : ∃ t, X.mg x = some (.str z t)) (hd : (x == ("__debug__" : Str)) = false := by decide) : PE X (.Name x pos) (tC (.str z)) := by
  obtain ⟨t, h⟩ := h
  exact pe_glob hg h ⟨t, rfl⟩ hd
theorem pe_gr {a : Addr} (hg : Gl X x) (h : X.mg x = some (.ref a)) (hd : (x == ("__debug__" : Str)) = false := by decide) : PE X (.Name x pos) (tC (.ref a)) := pe_glob hg h rfl hd
theorem pe_ty {T : String} (hg : Gl X x) (hm : X.mg x = none) (hv : bootBuiltins x = some (.type T)) (hn : x ≠ "__name__" := by decide) (hd : (x == ("__debug__" : Str)) = false := by decide) : PE X (.Name x pos) (tC (.ty T)) := pe_bltn hg hm hv rfl hn hd
end

/-! ### raising: own classes over HallError, made with a text -/
/-- what the written part says of an error class -/
structure ErrC (K : PySem.W.Frag) (C : Addr) : Prop where
  x : PySem.W.excIn K C He.veBase "ValueError.__new__" = true
  k : PySem.W.keepIn K (.ref C) = true
  b : PySem.W.subIn K (.ref C) (.type "BaseException") = some true
  t : PySem.W.typeIn K (.ref C) = some (.type "type")
def tRs (C : Addr) (W : WX) : TS := fun _ σ H => W (.ref C) none σ H
theorem ps_rs {X : Cx} {C : Addr} {W : WX} {x m : Str} {j : Nat} {p p2 pos pos2 : Pos} (hc : X.calm = true) (tk : Takes X W) (T : ErrC X.K C) (gC : X.mg x = some (.ref C)) (hg : Gl X x) (hdb : (x == ("__debug__" : Str)) = false := by decide) :
    PS X (.Raise (some (.Call (.Name x p) [.Constant (.str m) j p2] [] pos)) none pos2) (tRs C W) :=
  ps_raise hc tk (pmk_own PySem.F.excBase_ValueError T.x gC T.k (raises_own T.b T.t) hg hdb)

/-! ### isinstance of a caught error -/
def rIsX (K : PySem.W.Frag) (a : Addr) (cls : Value) (d : Option Addr) : List V → Hp → VK → Prop := fun xs H Q => ∃ (D : Addr) (c : V) (cv : Value) (b : Bool), cls = .ref D ∧ d = none ∧ ExcC K D ∧ xs = [.ref a, c] ∧ ClsV c cv ∧ PySem.W.kitOne K (.ref D) cv = some b ∧ Q (.bl b) H
def rIsXT (K : PySem.W.Frag) (a : Addr) (cls : Value) (d : Option Addr) : List V → Hp → VK → Prop := fun xs H Q => ∃ (D tp : Addr) (cs : List V) (us : List Value) (b : Bool), cls = .ref D ∧ d = none ∧ ExcC K D ∧ xs = [.ref a, .ref tp] ∧ H tp = some (.tup cs) ∧ Paired ClsV cs us ∧ PySem.W.kitAny K (.ref D) us = some b ∧ Q (.bl b) H
section
variable {X : Cx} {a : Addr} {oe : Obj} {cls : Value} {d : Option Addr} {pn : List (Addr × Obj)}
theorem inst_exc {pins : List (Addr × Obj)} {s : Shared} {σ : L2.St} {H : Hp} {D : Addr} (hz : Zc (.ref D) none oe) (hf : ∃ vs, oe.data = .fields vs) (I : Inv (X.suite a ((a, oe) :: pn)) pins σ H s) : PySem.W.InstAt s.heap a oe D none := by
  obtain ⟨hget, _⟩ := I.pin (a, oe) (List.mem_append.mpr (.inl List.mem_cons_self))
  obtain ⟨vs, hv⟩ := hf
  obtain ⟨oc, od, oda, osl⟩ := oe
  obtain ⟨h1, h2⟩ := hz
  dsimp only at h1 h2 hv
  subst h1 h2 hv
  exact ⟨hget, rfl, rfl, trivial⟩
theorem call_isX (hz : Zc cls d oe) (hf : ∃ vs, oe.data = .fields vs) : CallR (X.suite a ((a, oe) :: pn)) (.builtin "isinstance") (rIsX X.K a cls d) := by
  intro pins s σ H xs us Q I r h
  obtain ⟨D, c, cv, b, rfl, rfl, C, rfl, hcv, e, q⟩ := h
  obtain ⟨u1, u2, rfl, r1, r2⟩ := vals2 r
  have e2 := hcv.eq r2
  subst e2
  cases (show u1 = Value.ref a from r1)
  exact PySem.W.kia_one (PySem.W.handS_kitx_exc C.hg C.hk C.hs C.hd C.ha C.hn C.ht C.hm) I.kIn (inst_exc hz hf I) e (fun z => nomatch z) fun tk => ⟨.bl b, H, I.kept (t' := tk) fun _ _ z => z, rfl, q⟩
theorem call_isXT (hz : Zc cls d oe) (hf : ∃ vs, oe.data = .fields vs) : CallR (X.suite a ((a, oe) :: pn)) (.builtin "isinstance") (rIsXT X.K a cls d) := by
  intro pins s σ H xs us Q I r h
  obtain ⟨D, tp, cs, ws, b, rfl, rfl, C, rfl, hT, k, e, q⟩ := h
  obtain ⟨u1, u2, rfl, r1, r2⟩ := vals2 r
  cases (show u2 = Value.ref tp from r2)
  cases (show u1 = Value.ref a from r1)
  obtain ⟨_, its, rv, o, h1, h2, n, h3⟩ := (show ObjOk X.prog X.w H s.heap tp (.tup cs) from I.hok tp _ hT)
  have e3 := ClsV.all k rv
  subst e3
  obtain ⟨oc, od, dt, sl⟩ := o
  simp only at h2 h3
  subst h2 h3
  exact PySem.W.kia_tup (PySem.W.handS_kitx_exc C.hg C.hk C.hs C.hd C.ha C.hn C.ht C.hm) I.kIn (inst_exc hz hf I) h1 e (fun z => nomatch z) fun tk => ⟨.bl b, H, I.kept (t' := tk) fun _ _ z => z, rfl, q⟩
end
end U

set_option Elab.async false
set_option linter.all false
set_option maxRecDepth 100000
set_option maxHeartbeats 4000000
/-! Names for the readings, so that readings can be printed by a program. -/
namespace U
open PySem PySem.Spec PyProof.Rows L2
abbrev rAddI : R2 := rI0 fun i j => .int (i + j)
abbrev rSubI : R2 := rI0 fun i j => .int (i - j)
abbrev rMulI : R2 := rI CMul fun i j => .int (i * j)
abbrev rFdivI : R2 := rI CDivW fun i j => .int (i / j)
abbrev rModI : R2 := rI (fun _ j => 0 < j) fun i j => .int (i % j)
abbrev rPowI : R2 := rI CPow fun i j => .int (i ^ j.toNat)
abbrev rLtI : R2 := rI0 fun i j => .bl (decide (i < j))
abbrev rLeI : R2 := rI0 fun i j => .bl (decide (i ≤ j))
abbrev rGtI : R2 := rI0 fun i j => .bl (decide (j < i))
abbrev rGeI : R2 := rI0 fun i j => .bl (decide (j ≤ i))
abbrev rIsNn : R2 := fun x y H Q => y = .non ∧ Q (.bl (decide (x = .non))) H
abbrev rNotNn : R2 := fun x y H Q => y = .non ∧ Q (.bl (!decide (x = .non))) H
abbrev rAddS : R2 := fun x y H Q => ∃ i j, x = .str i ∧ y = .str j ∧ i.length + j.length ≤ sizeLine ∧ Q (.str (i ++ j)) H
abbrev rInSg : R2 := fun x y H Q => ∃ (c : Nat) (z : Str), x = .str ⟨#[c]⟩ ∧ y = .str z ∧ Q (.bl (decide (c ∈ z.cps.toList))) H
abbrev rNiSg : R2 := fun x y H Q => ∃ (c : Nat) (z : Str), x = .str ⟨#[c]⟩ ∧ y = .str z ∧ Q (.bl (!decide (c ∈ z.cps.toList))) H
abbrev RC := List V → Hp → VK → Prop
abbrev RM := V → List V → Hp → VK → Prop
abbrev rAbs : RC := fun xs H Q => ∃ i, xs = [.int i] ∧ Q (.int (if i < 0 then -i else i)) H
abbrev rMax2 : RC := fun xs H Q => ∃ i j, xs = [.int i, .int j] ∧ Q (.int (if j > i then j else i)) H
abbrev rMin2 : RC := fun xs H Q => ∃ i j, xs = [.int i, .int j] ∧ Q (.int (if j < i then j else i)) H
abbrev rDivmod : RC := fun xs H Q => ∃ i j, xs = [.int i, .int j] ∧ CDivP i j ∧ ∀ p, H p = none → Q (.ref p) (upd H p (.tup [.int (i / j), .int (i % j)]))
theorem two200 : (2 : Nat) ^ 200 = 1606938044258990275541962092341162602522202993782792835301376 := by decide
theorem cdw {i j : Int} (h0 : 0 < j) (h1 : j ≤ 1000000000000000000000000000000000000000000000000000000000000) : CDivW i j := by
  refine wide_div (b := 200) h0 ?_ (by decide) (by decide)
  rw [two200]
  omega
theorem cdp {i j : Int} (h0 : 0 < j) (h1 : j ≤ 1000000000000000000000000000000000000000000000000000000000000) : CDivP i j := ⟨h0, PyProof.noPylong_of_log2 (cdw (i := i) h0 h1).2⟩
abbrev rLenSeq (K : PySem.W.Frag) : RC := fun xs H Q => ∃ p ys, xs = [.ref p] ∧ (SqL K H p ys ∨ SqT K H p ys) ∧ Q (.int ys.length) H
abbrev rLenStr : RC := fun xs H Q => ∃ z, xs = [.str z] ∧ z.length ≤ sizeLine ∧ Q (.int z.length) H
abbrev rLenDc : RC := fun xs H Q => ∃ a kvs, xs = [V.ref a] ∧ H a = some (.dK kvs) ∧ Q (.int kvs.length) H
abbrev rListOf (K : PySem.W.Frag) : RC := fun xs H Q => ∃ p ys, xs = [.ref p] ∧ (SqL K H p ys ∨ SqT K H p ys) ∧ ∀ l, H l = none → Q (.ref l) (upd H l (.lst ys))
abbrev rTupleOf (K : PySem.W.Frag) : RC := fun xs H Q => ∃ p ys, xs = [.ref p] ∧ ((SqL K H p ys ∧ ∀ l, H l = none → Q (.ref l) (upd H l (.tup ys))) ∨ (SqT K H p ys ∧ Q (.ref p) H))
abbrev rStrInt : RC := fun xs H Q => ∃ i, xs = [.int i] ∧ i.natAbs.log2 < 1920 ∧ Q (.str (toString i)) H
abbrev rInt1 : RC := fun xs H Q => (∃ i, xs = [.int i] ∧ Q (.int i) H) ∨ ∃ k, xs = [.bl k] ∧ Q (.int (if k then 1 else 0)) H
abbrev rIntStr : RC := fun xs H Q => ∃ a n, xs = [.str a] ∧ PySem.intText? a = some n ∧ a.length ≤ 640 ∧ Q (.int n) H
abbrev mJoin (K : PySem.W.Frag) : RM := fun x xs H Q => ∃ a p, ∃ ys : List Str, x = .str a ∧ xs = [.ref p] ∧ (SqL K H p (ys.map V.str) ∨ SqT K H p (ys.map V.str)) ∧
  (ys.map (·.length)).sum + ys.length * a.length ≤ 16777216 ∧ Q (.str (Txt.join a ys)) H
abbrev mPartition : RM := fun x xs H Q => ∃ a b, x = .str a ∧ xs = [.str b] ∧ (b.length == 0) = false ∧ a.length ≤ sizeLine ∧
  ∀ p, H p = none → Q (.ref p) (upd H p (.tup [.str (Txt.partition a b).1, .str (Txt.partition a b).2.1, .str (Txt.partition a b).2.2]))
abbrev mSplit : RM := fun x xs H Q => ∃ a b, x = .str a ∧ xs = [.str b] ∧ (b.length == 0) = false ∧ a.length + 2 ≤ sizeLine ∧ rNewStrs (Txt.split a b) H Q
abbrev mStarts : RM := fun x xs H Q => ∃ a b, x = .str a ∧ xs = [.str b] ∧ Q (.bl (Txt.startswith a b)) H
abbrev mEnds : RM := fun x xs H Q => ∃ a b, x = .str a ∧ xs = [.str b] ∧ Q (.bl (Txt.endswith a b)) H
abbrev rMulS : R2 := fun x y H Q => ∃ a n, x = .str a ∧ y = .int n ∧ MulOk a n ∧ Q (.str (Txt.mul a n)) H
theorem op_mulS {X : Cx} : OpR X (binaryOp .Mult) rMulS := by
  intro pins s σ H x y v u Q I rx ry h
  obtain ⟨a, n, rfl, rfl, ok, q⟩ := h
  obtain ⟨t, rfl⟩ := rx
  obtain ⟨t', rfl⟩ := ry
  exact SB.mul ok fun t2 k => ⟨.str _, H, I.tok k, ⟨t2, rfl⟩, q⟩

/-! ### d.keys() as a value; sorted(d.keys()) -/
def KeysO (p d : Addr) : HO := .ext fun h => PySem.W.KdlKeysView h p d
def tKeysV (td : TE) : TE := fun σ H Q => td σ H fun x H1 => ∃ d kvs, x = .ref d ∧ Rd H1 d (.dK kvs) ∧ ∀ p, H1 p = none → Q (.ref p) (upd H1 p (KeysO p d))
theorem pe_keysV {X : Cx} {e : Expr} {td : TE} {apos cpos : Pos} (he : PE X e td) (hbase : attributeBase e "keys" X.env (eval e X.env) = eval e X.env := by rfl) (hline : (apos.endLine == cpos.line) = true := by rfl) : PE X (.Call (.Attribute e "keys" apos) [] [] cpos) (tKeysV td) := by
  refine ⟨fun pins s σ H Q I h => ?_⟩
  refine wpAny_Call_method (T := "dict") (id := "dict.keys") hbase rfl hline F.plainAttrs_dict F.slot_dict_keys F.type_dict_keys (thn (he.run pins s σ H _ I h) fun u s1 ⟨x, H1, I1, rx, d, kvs, ex, hd, q⟩ => ?_)
  subst ex
  obtain rfl : u = Value.ref d := rx
  obtain ⟨z, hs, vs, rel, dd⟩ := dk_rd I1.hok hd
  refine ⟨dd.typeIs, dd.mapOf.noDict, ?_⟩
  have ho : (s1.heap.push { cls := .type "dict_keys", data := .fields #[.ref d] }).get? s1.heap.objs.size = some { cls := .type "dict_keys", data := .fields #[.ref d] } := Heap.get?_push_size _ rfl
  have I2 : Inv X pins σ (upd H1 s1.heap.objs.size (KeysO s1.heap.objs.size d)) { s1 with heap := s1.heap.push { cls := .type "dict_keys", data := .fields #[.ref d] } } :=
    I1.laid (t' := s1.toks) (fun b ob q => Heap.get?_push_of_some _ q) (Nat.le_refl _) ⟨⟨_, ho, rfl, rfl⟩, ⟨_, ho⟩, fun h1 h2 ⟨o, e1, e2⟩ k => ⟨o, k o e1, e2⟩⟩
  show wpAny _ _ (callWith cpos (.builtin "dict.keys") [.ref d] [] []) _ X.xe s1
  exact method_meetsIn F.slot_dict_keys F.entry_dict_keys rfl (PySem.evalArgs_none ⟨rfl, dd.typeIs, F.args_dict_keys_1 _, _, PySem.W.kdl_meets_keys (mixKind X.prog X.w) d hs, ⟨vs, dd⟩, ⟨.ref s1.heap.objs.size, _, I2, rfl, q _ (I1.hok.fresh (Nat.le_refl _))⟩⟩)
/-- sorted(d.keys()), fewer than 64 whole numbers -/
abbrev rSortedKV : RC := fun xs H Q => ∃ (a d : Addr) (kvs : List (Key × V)) (ks : List Int), xs = [.ref a] ∧ H a = some (KeysO a d) ∧ Rd H d (.dK kvs) ∧ kvs.map (·.1) = ks.map Sum.inl ∧ ks.length < 64 ∧
  ∀ (ys : List Int) (p : Addr), ys.Perm ks → ys.Pairwise (· ≤ ·) → H p = none → Q (.ref p) (upd H p (.lst (ys.map V.int)))
theorem call_sortedKV {X : Cx} (hcalm : X.calm = true) : CallR X (.builtin "sorted") rSortedKV := by
  intro pins s σ H xs us Q I r q
  obtain ⟨a, d, kvs, ks, ex, ha, hd, hks, h64, q⟩ := q
  subst ex
  obtain ⟨u, eu, rx⟩ := vals1 r
  subst eu
  cases rx
  obtain ⟨z, lo, vs, rel, dd⟩ := dk_rd I.hok hd
  obtain ⟨ep, hat⟩ := dd.dictAt
  obtain ⟨view, _, _⟩ := (show ObjOk X.prog X.w H s.heap a (KeysO a d) from I.hok a _ ha)
  have hkeys : vs.map (·.1) = ks.map Sum.inl := rel.keys.symm.trans hks
  have hl : vs.length = ks.length := by
    have e := congrArg List.length hkeys
    rw [List.length_map, List.length_map] at e
    exact e
  have h16 : vs.length ≤ sizeLine := by rw [hl, sizeLine_eq]; omega
  refine Calls.call_function_entry PyProof.Rows.kind_sorted PyProof.Rows.plain_sorted PyProof.Rows.entry_sorted (PyProof.Rows.args_sorted1 _) ?_
  unfold Builtin.«sorted»
  refine wpAny_bind (m := checkCount "sorted" 1 1 _) (wpAny_pure ?_)
  refine wpAny_bind (PySem.W.kdu_collect (A := X.A.in1) (PySem.W.kdl_keys (r := a) (d := d) (knd := mixKind X.prog X.w) (kvs := vs) (ep := ep)) (I.ok.hd hcalm) ⟨view, hat⟩ h16 fun h' tk acc hk hacc => ?_)
  have hal : acc.toList.length = ks.length := by rw [Array.length_toList, hacc.1, hl]
  have hS : IntsAre acc.toList ks := ints_each hal fun j v e => by
    obtain ⟨k, x, e1, e2⟩ := hacc.2 j v (by rw [← Array.getElem?_toList]; exact e)
    have e3 : (vs.map (·.1))[j]? = some k := by rw [List.getElem?_map, e1]; rfl
    rw [hkeys, List.getElem?_map] at e3
    cases e4 : ks[j]? with
    | none => rw [e4] at e3; cases e3
    | some y =>
      rw [e4] at e3
      have e5 : Sum.inl y = k := Option.some.inj e3
      subst e5
      rcases keyIs_shape (show keyIs (Sum.inl y) v = true from e2) with ⟨i, t, ek, ev⟩ | ⟨z, t, ek, ev⟩
      · cases ek
        exact ⟨y, t, rfl, ev⟩
      · cases ek
  have I1 : Inv X pins σ H { s with heap := h', toks := tk } := I.kept hk
  refine wpAny_bind (wpAny_newList ?_ (by rw [hal, sizeLine_eq]; omega))
  have hoL : (h'.push (seqObj "list" acc.toList.toArray 0)).get? h'.objs.size = some (seqObj "list" acc.toList.toArray 0) := Heap.get?_push_size _ rfl
  show wpAny _ _ _ _ _ { s with heap := h'.push (seqObj "list" acc.toList.toArray 0), toks := tk }
  refine wpAny_bind (wpAny_holding (wpAny_call_entry PyProof.Rows.slot_list_sort ⟨_, hoL, rfl⟩ PyProof.Rows.entry_list_sort
    (PyProof.Rows.list_sort_tree (s := { s with heap := h'.push (seqObj "list" acc.toList.toArray 0), toks := tk }) hoL hS (by rw [hal]; exact h64) fun out ys g1 g2 g3 => ⟨_, rfl, ?_⟩) (PyProof.Rows.args_list_sort _)))
  obtain ⟨e', he'⟩ := PyProof.Rows.sortedHeap_at (vs := acc.toList) (out := out) hoL
  have hlen : (ys.map V.int).length ≤ sizeLine := by
    rw [List.length_map, g2.length_eq]
    exact Nat.le_trans (Nat.le_of_lt h64) (by decide)
  refine wpAny_pure ⟨_, rfl, .ref h'.objs.size, upd H h'.objs.size (.lst (ys.map V.int)), I1.laid (t' := tk) (fun b u e => ?_) (Nat.le_refl _)
    (show ObjOk X.prog X.w _ _ _ (.lst (ys.map V.int)) from ⟨hlen, out.toList, e', vals_of_ints g1, by rw [Array.toArray_toList]; exact he'⟩), rfl, q ys _ g2 g3 (I1.hok.fresh (Nat.le_refl _))⟩
  have hb : b < h'.objs.size := Heap.lt_size e
  rw [PyProof.Rows.sortedHeap_old (Nat.ne_of_lt hb) (by rw [size_push']; exact Nat.lt_succ_of_lt hb)]
  exact Heap.get?_push_of_some _ e

/-! ### errors -/
theorem psL {X : Cx} : ∀ σ, PassesAt (L2.CX X.prog X.w) X σ (ES0 σ) := fun _ _ _ _ _ _ _ h => by
  obtain ⟨_, _, _, _, _, _, _, _, _, _, _, _, z⟩ := h
  exact z.elim
def errNames : List Str := ["NoName", "BadKind", "NoText", "NoPerson", "Taken", "NoKind", "NoMatter", "NoThing", "NoWay", "NoRows", "NoDay", "NoHold", "NoTelling", "NoAnswer", "Answered"]
def excB (K : PySem.W.Frag) (D : Addr) : Bool :=
  He.eqO (PySem.W.findIn K (.ref D) "__getattribute__") (some (some (.builtin "BaseException.__getattribute__"))) && (He.eqO (PySem.W.findIn K (.ref D) "__getattr__") (some none) &&
  (decide (PySem.W.subIn K (.ref D) (.type "BaseException") = some true) && (PySem.W.hasDictIn K D && (He.eqO (PySem.W.findIn K (.ref D) "__class__") (some (some (.builtin "object.__class__"))) &&
  (He.eqO (PySem.W.specialIn K (.builtin "object.__class__") "__get__") (some (some (.builtin "getset_descriptor.__get__"))) && (decide (PySem.W.takesIn K (.builtin "object.__class__") = some true) && decide (PySem.W.mroIn K D (.type "object") = some true)))))))
theorem excB_ok {K : PySem.W.Frag} {D : Addr} (h : excB K D = true) : ExcC K D := by
  obtain ⟨h1, h⟩ := He.ba h
  obtain ⟨h2, h⟩ := He.ba h
  obtain ⟨h3, h⟩ := He.ba h
  obtain ⟨h4, h⟩ := He.ba h
  obtain ⟨h5, h⟩ := He.ba h
  obtain ⟨h6, h⟩ := He.ba h
  obtain ⟨h7, h8⟩ := He.ba h
  exact ⟨He.eqO_ok h1, He.eqO_ok h2, of_decide_eq_true h3, h4, He.eqO_ok h5, He.eqO_ok h6, of_decide_eq_true h7, of_decide_eq_true h8⟩
/-- what is told of the error classes -/
structure ErrK (K : PySem.W.Frag) : Prop where
  exc : ∀ x ∈ errNames, ExcC K (He.ga K x)
  exm : ∀ x ∈ errNames, PySem.W.exmOne K (.ref (He.ga K x)) (.ref (He.ga K "HallError")) = some true
  kit : ∀ x ∈ errNames, ∀ y ∈ errNames, PySem.W.kitOne K (.ref (He.ga K x)) (.ref (He.ga K y)) = some (decide (x = y))
  kitH : ∀ x ∈ errNames, PySem.W.kitOne K (.ref (He.ga K x)) (.ref (He.ga K "HallError")) = some true
  kitV : ∀ x ∈ errNames, PySem.W.kitOne K (.ref (He.ga K x)) (.type "ValueError") = some true
def errB (K : PySem.W.Frag) : Bool := errNames.all fun x => excB K (He.ga K x) && (decide (PySem.W.exmOne K (.ref (He.ga K x)) (.ref (He.ga K "HallError")) = some true) &&
  ((errNames.all fun y => decide (PySem.W.kitOne K (.ref (He.ga K x)) (.ref (He.ga K y)) = some (decide (x = y)))) && (decide (PySem.W.kitOne K (.ref (He.ga K x)) (.ref (He.ga K "HallError")) = some true) && decide (PySem.W.kitOne K (.ref (He.ga K x)) (.type "ValueError") = some true))))
theorem errB_ok {K : PySem.W.Frag} (h : errB K = true) : ErrK K := by
  have h1 := List.all_eq_true.mp h
  refine ⟨fun x hx => excB_ok (He.ba (h1 x hx)).1, fun x hx => of_decide_eq_true (He.ba (He.ba (h1 x hx)).2).1, fun x hx y hy => ?_, fun x hx => ?_, fun x hx => ?_⟩
  · exact of_decide_eq_true (List.all_eq_true.mp (He.ba (He.ba (He.ba (h1 x hx)).2).2).1 y hy)
  · exact of_decide_eq_true (He.ba (He.ba (He.ba (He.ba (h1 x hx)).2).2).2).1
  · exact of_decide_eq_true (He.ba (He.ba (He.ba (He.ba (h1 x hx)).2).2).2).2
end U

set_option Elab.async false
set_option linter.all false
set_option maxRecDepth 100000
set_option maxHeartbeats 4000000
/-! Helpers for the readings: what stays, comprehensions whose element leaves the heap alone, texts, types. -/
namespace U
open PySem PySem.Spec PyProof.Rows L2

/-! ### what stays -/
/-- all that was tracked stays, but what stands at l -/
structure Keep (l : List Addr) (H H' : Hp) : Prop where
  k : ∀ b o, H b = some o → b ∉ l → H' b = some o
theorem Keep.refl {l : List Addr} {H : Hp} : Keep l H H := ⟨fun _ _ h _ => h⟩
theorem Keep.trans {l : List Addr} {H H1 H2 : Hp} (a : Keep l H H1) (b : Keep l H1 H2) : Keep l H H2 := ⟨fun c o h n => b.k c o (a.k c o h n) n⟩
theorem Keep.same {l : List Addr} {H H1 : Hp} (a : Same H H1) : Keep l H H1 := ⟨fun c o h _ => a c o h⟩
theorem Keep.mono {l l' : List Addr} {H H1 : Hp} (a : Keep l H H1) (h : ∀ x, x ∈ l → x ∈ l') : Keep l' H H1 := ⟨fun c o e n => a.k c o e fun z => n (h c z)⟩
theorem Keep.put {l : List Addr} {H H1 : Hp} {p : Addr} {o : HO} (a : Keep l H H1) (h : p ∈ l) : Keep l H (upd H1 p o) := ⟨fun c u e n => by
  have z : c ≠ p := fun z => n (by rw [z]; exact h)
  rw [upd_ne z]
  exact a.k c u e n⟩
theorem Keep.new {l : List Addr} {H H1 : Hp} {p : Addr} {o : HO} (a : Keep l H H1) (h : H p = none) : Keep l H (upd H1 p o) := ⟨fun c u e n => by
  rw [upd_ne (ne_of_none e h)]
  exact a.k c u e n⟩
theorem Keep.free {l : List Addr} {H H1 : Hp} {p : Addr} (a : Keep l H H1) (n : p ∉ l) (h : H1 p = none) : H p = none := by
  cases e : H p with
  | none => rfl
  | some o =>
    rw [a.k p o e n] at h
    cases h
/-- what wasn't there ahead may be changed: all as before -/
theorem Keep.drop {p : Addr} {H0 H H1 : Hp} (a : Keep [p] H H1) (s : Same H0 H) (n : H0 p = none) : Same H0 H1 := fun c o e => a.k c o (s c o e) (by
  intro z
  rw [List.mem_singleton.mp z, n] at e
  cases e)
theorem Keep.seq {K : PySem.W.Frag} {l : List Addr} {H H1 : Hp} {a : Addr} {xs : List V} (k : Keep l H H1) (n : a ∉ l) (h : SqL K H a xs) : SqL K H1 a xs := by
  rcases h with (h | ⟨o, h⟩) | h
  · exact .inl (.inl (k.k _ _ h n))
  · exact .inl (.inr ⟨o, k.k _ _ h n⟩)
  · exact .inr h
theorem same_new {H : Hp} {p : Addr} {o : HO} (h : H p = none) : Same H (upd H p o) := fun c u e => by
  rw [upd_ne (ne_of_none e h)]
  exact e
theorem Same.new {H H1 : Hp} {p : Addr} {o : HO} (a : Same H H1) (h : H1 p = none) : Same H (upd H1 p o) := a.trans (same_new h)
theorem _root_.L2.Same.new {H H1 : Hp} {p : Addr} {o : HO} (a : Same H H1) (h : H1 p = none) : Same H (upd H1 p o) := a.trans (same_new h)
/-- an object that H doesn't know may change -/
theorem Same.mut {H H1 : Hp} {p : Addr} {o : HO} (a : Same H H1) (h : H p = none) : Same H (upd H1 p o) := fun c u e => by
  rw [upd_ne (ne_of_none e h)]
  exact a c u e
theorem seq_upd {K : PySem.W.Frag} {H : Hp} {a p : Addr} {xs : List V} {o : HO} (h : SqL K H a xs) (n : H p = none) : SqL K (upd H p o) a xs := (same_new n).seq h
theorem Same.seqT {K : PySem.W.Frag} {H H' : Hp} {a : Addr} {xs : List V} (e : Same H H') (h : SqT K H a xs) : SqT K H' a xs := by
  rcases h with (h | ⟨o, h⟩) | h
  · exact .inl (.inl (e _ _ h))
  · exact .inl (.inr ⟨o, e _ _ h⟩)
  · exact .inr h

/-! ### slots -/
theorem wipe1 {σ : L2.St} {j : Nat} {v : Option V} : wipe ((wipe σ [j]).set j v) [j] = wipe σ [j] := by
  show ((σ.set j none).set j v).set j none = σ.set j none
  rw [List.set_set, List.set_set]

/-! ### comprehensions whose test and element leave the heap alone -/
section
variable {K : PySem.W.Frag} {tt : TT} {te : TE} {σ : L2.St} {H1 : Hp} {D : Addr} {Q : Hp → Prop} {j : Nat}
/-- over a text -/
theorem lc_str {x : Str} {g : TG} {vs : List Nat} (Pv : Nat → Hp → Prop) (h0 : Pv 0 (upd H1 D (.lst [])))
    (hs : ∀ i c H, x.cps[i]? = some c → Pv i H → g (.str ⟨#[c]⟩) (wipe σ vs) H fun σ2 H2 => wipe σ2 vs = wipe σ vs ∧ tt σ2 H2 fun b H3 =>
      if b = true then te σ2 H3 fun y H4 => ∃ acc, H4 D = some (.lst acc) ∧ acc.length < sizeLine ∧ Pv (i + 1) (upd H4 D (.lst (acc ++ [y]))) else Pv (i + 1) H3) (hd : ∀ H, Pv x.cps.size H → Q H) :
    ∃ W : Nat → Nat → Hp → Prop, (∃ m, W 0 m (upd H1 D (.lst []))) ∧ ∀ i m H, W i m H →
      ((Its x).stop i H ∧ Q H) ∨ ((Its x).go i H ∧ ∃ Nx : Hp → Prop, (∀ H', Nx H' → ∃ m', m' < m ∧ W (i + 1) m' H') ∧ ∀ y H', (Its x).yld i H y H' → g y (wipe σ vs) H' fun σ2 H2 => wipe σ2 vs = wipe σ vs ∧ tt σ2 H2 fun b H3 =>
        if b = true then te σ2 H3 fun y H4 => ∃ acc, H4 D = some (.lst acc) ∧ acc.length < sizeLine ∧ Nx (upd H4 D (.lst (acc ++ [y]))) else Nx H3) := by
  refine ⟨fun i m H => m = x.cps.size - i ∧ i ≤ x.cps.size ∧ Pv i H, ⟨x.cps.size, by simp, Nat.zero_le _, h0⟩, ?_⟩
  rintro i m H ⟨rfl, hi, p⟩
  by_cases hlt : i < x.cps.size
  · refine .inr ⟨hlt, Pv (i + 1), fun H' p' => ⟨x.cps.size - (i + 1), by omega, rfl, hlt, p'⟩, fun y H' z => ?_⟩
    obtain ⟨e, c, hc, rfl⟩ := z
    subst e
    exact hs i c _ hc p
  · have e : i = x.cps.size := by omega
    subst e
    exact .inl ⟨Nat.le_refl _, hd H p⟩
theorem take_snoc {α : Type} {l : List α} {i : Nat} {x : α} (h : l[i]? = some x) : l.take (i + 1) = l.take i ++ [x] := by
  rw [List.take_add_one, h]
  rfl
theorem lcs_fm {x : Str} (p : Nat → Bool) (f : Nat → V) (hx : x.cps.size ≤ 1000000)
    (ht : ∀ c acc (R : Bool → Hp → Prop), c ∈ x.cps.toList → R (p c) (upd H1 D (.lst acc)) → tt ((wipe σ [j]).set j (some (.str ⟨#[c]⟩))) (upd H1 D (.lst acc)) R)
    (he : ∀ c acc (R : VK), c ∈ x.cps.toList → p c = true → R (f c) (upd H1 D (.lst acc)) → te ((wipe σ [j]).set j (some (.str ⟨#[c]⟩))) (upd H1 D (.lst acc)) R)
    (hd : Q (upd H1 D (.lst ((x.cps.toList.filter p).map f)))) :
    ∃ W : Nat → Nat → Hp → Prop, (∃ m, W 0 m (upd H1 D (.lst []))) ∧ ∀ i m H, W i m H →
      ((Its x).stop i H ∧ Q H) ∨ ((Its x).go i H ∧ ∃ Nx : Hp → Prop, (∀ H', Nx H' → ∃ m', m' < m ∧ W (i + 1) m' H') ∧ ∀ y H', (Its x).yld i H y H' → gName j y (wipe σ [j]) H' fun σ2 H2 => wipe σ2 [j] = wipe σ [j] ∧ tt σ2 H2 fun b H3 =>
        if b = true then te σ2 H3 fun y H4 => ∃ acc, H4 D = some (.lst acc) ∧ acc.length < sizeLine ∧ Nx (upd H4 D (.lst (acc ++ [y]))) else Nx H3) := by
  refine lc_str (g := gName j) (vs := [j]) (fun i H => H = upd H1 D (.lst (((x.cps.toList.take i).filter p).map f))) (by simp) (fun i c H hc e => ?_) (fun H e => ?_)
  · subst e
    have hc' : x.cps.toList[i]? = some c := by rw [Array.getElem?_toList]; exact hc
    have hm : c ∈ x.cps.toList := List.mem_of_getElem? hc'
    refine ⟨wipe1, ht c _ _ hm ?_⟩
    have hlen : (((x.cps.toList.take i).filter p).map f).length < sizeLine := by
      rw [List.length_map, sizeLine_eq]
      have h1 := List.length_filter_le p (x.cps.toList.take i)
      rw [List.length_take] at h1
      have h2 : i < x.cps.toList.length := (List.getElem?_eq_some_iff.mp hc').1
      rw [Array.length_toList] at h2
      omega
    by_cases hp : p c = true
    · rw [hp]
      refine iteT (he c _ _ hm hp ⟨_, upd_same, hlen, ?_⟩)
      rw [upd_upd, take_snoc hc', List.filter_append, List.map_append]
      simp [hp]
    · have hp' : p c = false := by simpa using hp
      rw [hp']
      refine iteF ?_
      rw [take_snoc hc', List.filter_append, List.map_append]
      simp [hp']
  · rw [e, ← Array.length_toList, List.take_length]
    exact hd
/-- over a list -/
theorem lcl_fm {a : Addr} {xs : List V} (p : V → Bool) (f : V → V) (hs : SqL K H1 a xs) (hD : H1 D = none) (hx : xs.length ≤ 1000000)
    (ht : ∀ v acc (R : Bool → Hp → Prop), v ∈ xs → R (p v) (upd H1 D (.lst acc)) → tt ((wipe σ [j]).set j (some v)) (upd H1 D (.lst acc)) R)
    (he : ∀ v acc (R : VK), v ∈ xs → p v = true → R (f v) (upd H1 D (.lst acc)) → te ((wipe σ [j]).set j (some v)) (upd H1 D (.lst acc)) R)
    (hd : Q (upd H1 D (.lst ((xs.filter p).map f)))) :
    ∃ W : Nat → Nat → Hp → Prop, (∃ m, W 0 m (upd H1 D (.lst []))) ∧ ∀ i m H, W i m H →
      ((Itl K a).stop i H ∧ Q H) ∨ ((Itl K a).go i H ∧ ∃ Nx : Hp → Prop, (∀ H', Nx H' → ∃ m', m' < m ∧ W (i + 1) m' H') ∧ ∀ y H', (Itl K a).yld i H y H' → gName j y (wipe σ [j]) H' fun σ2 H2 => wipe σ2 [j] = wipe σ [j] ∧ tt σ2 H2 fun b H3 =>
        if b = true then te σ2 H3 fun y H4 => ∃ acc, H4 D = some (.lst acc) ∧ acc.length < sizeLine ∧ Nx (upd H4 D (.lst (acc ++ [y]))) else Nx H3) := by
  refine lc_list (g := gName j) (vs := [j]) (xs := xs) (fun i H => H = upd H1 D (.lst (((xs.take i).filter p).map f))) (by simp) (fun i H _ e => by rw [e]; exact seq_upd hs hD) (fun i c H hc e => ?_) (fun H e => ?_)
  · subst e
    have hm : c ∈ xs := List.mem_of_getElem? hc
    refine ⟨wipe1, ht c _ _ hm ?_⟩
    have hlen : (((xs.take i).filter p).map f).length < sizeLine := by
      rw [List.length_map, sizeLine_eq]
      have h1 := List.length_filter_le p (xs.take i)
      rw [List.length_take] at h1
      have h2 : i < xs.length := (List.getElem?_eq_some_iff.mp hc).1
      omega
    by_cases hp : p c = true
    · rw [hp]
      refine iteT (he c _ _ hm hp ⟨_, upd_same, hlen, ?_⟩)
      rw [upd_upd, take_snoc hc, List.filter_append, List.map_append]
      simp [hp]
    · have hp' : p c = false := by simpa using hp
      rw [hp']
      refine iteF ?_
      rw [take_snoc hc, List.filter_append, List.map_append]
      simp [hp']
  · rw [e, List.take_length]
    exact hd
theorem lcs_m {x : Str} (f : Nat → V) (hx : x.cps.size ≤ 1000000)
    (he : ∀ c acc (R : VK), c ∈ x.cps.toList → R (f c) (upd H1 D (.lst acc)) → te ((wipe σ [j]).set j (some (.str ⟨#[c]⟩))) (upd H1 D (.lst acc)) R)
    (hd : Q (upd H1 D (.lst (x.cps.toList.map f)))) :
    ∃ W : Nat → Nat → Hp → Prop, (∃ m, W 0 m (upd H1 D (.lst []))) ∧ ∀ i m H, W i m H →
      ((Its x).stop i H ∧ Q H) ∨ ((Its x).go i H ∧ ∃ Nx : Hp → Prop, (∀ H', Nx H' → ∃ m', m' < m ∧ W (i + 1) m' H') ∧ ∀ y H', (Its x).yld i H y H' → gName j y (wipe σ [j]) H' fun σ2 H2 => wipe σ2 [j] = wipe σ [j] ∧ tYes σ2 H2 fun b H3 =>
        if b = true then te σ2 H3 fun y H4 => ∃ acc, H4 D = some (.lst acc) ∧ acc.length < sizeLine ∧ Nx (upd H4 D (.lst (acc ++ [y]))) else Nx H3) := by
  refine lcs_fm (fun _ => true) f hx (fun c acc R _ r => r) (fun c acc R hc _ r => he c acc R hc r) ?_
  rw [List.filter_eq_self.mpr (fun _ _ => rfl)]
  exact hd
theorem lcl_m {a : Addr} {xs : List V} (f : V → V) (hs : SqL K H1 a xs) (hD : H1 D = none) (hx : xs.length ≤ 1000000)
    (he : ∀ v acc (R : VK), v ∈ xs → R (f v) (upd H1 D (.lst acc)) → te ((wipe σ [j]).set j (some v)) (upd H1 D (.lst acc)) R)
    (hd : Q (upd H1 D (.lst (xs.map f)))) :
    ∃ W : Nat → Nat → Hp → Prop, (∃ m, W 0 m (upd H1 D (.lst []))) ∧ ∀ i m H, W i m H →
      ((Itl K a).stop i H ∧ Q H) ∨ ((Itl K a).go i H ∧ ∃ Nx : Hp → Prop, (∀ H', Nx H' → ∃ m', m' < m ∧ W (i + 1) m' H') ∧ ∀ y H', (Itl K a).yld i H y H' → gName j y (wipe σ [j]) H' fun σ2 H2 => wipe σ2 [j] = wipe σ [j] ∧ tYes σ2 H2 fun b H3 =>
        if b = true then te σ2 H3 fun y H4 => ∃ acc, H4 D = some (.lst acc) ∧ acc.length < sizeLine ∧ Nx (upd H4 D (.lst (acc ++ [y]))) else Nx H3) := by
  refine lcl_fm (fun _ => true) f hs hD hx (fun c acc R _ r => r) (fun c acc R hc _ r => he c acc R hc r) ?_
  rw [List.filter_eq_self.mpr (fun _ _ => rfl)]
  exact hd
end

/-! ### data -/
theorem dpAll_ints {K : PySem.W.Frag} {H : Hp} : ∀ ns : List Int, DpAll K H (ns.map V.int) (ns.map PyData.int)
  | [] => .nil
  | n :: r => .cons (.int n) (dpAll_ints r)
theorem dpAll_strs {K : PySem.W.Frag} {H : Hp} : ∀ ns : List Str, DpAll K H (ns.map V.str) (ns.map PyData.str)
  | [] => .nil
  | n :: r => .cons (.str n) (dpAll_strs r)

theorem strOk_of {z : Str} (h : ∀ c ∈ z.cps.toList, c < 1114112) : PyData.strOk z = true := by
  unfold PyData.strOk
  rw [← Array.all_toList]
  exact List.all_eq_true.mpr fun c hc => decide_eq_true (h c hc)
theorem canLay_strs : ∀ {l : List Str}, (∀ z ∈ l, ∀ c ∈ z.cps.toList, c < 1114112) → PyData.canLayAll0 (l.map PyData.str) = true
  | [], _ => rfl
  | z :: r, h => by
    show (PyData.strOk z && PyData.canLayAll0 (r.map PyData.str)) = true
    rw [strOk_of (h z (List.mem_cons_self ..)), canLay_strs fun y hy => h y (List.mem_cons_of_mem _ hy)]
    rfl
theorem depth_strs : ∀ l : List Str, PyData.depthAll (l.map PyData.str) = 0
  | [] => by simp [PyData.depthAll]
  | z :: r => by
    rw [List.map_cons, PyData.depthAll, depth_strs r]
    simp [PyData.depth]
theorem shaped_strs {l : List Str} (h : ∀ z ∈ l, ∀ c ∈ z.cps.toList, c < 1114112) : SeqAt.shaped (.list (l.map PyData.str)) = true := by
  unfold SeqAt.shaped
  have e1 : PyData.canLay0 (.list (l.map PyData.str)) = true := canLay_strs h
  have e2 : PyData.depth (.list (l.map PyData.str)) = 1 := by rw [PyData.depth, depth_strs]
  rw [e1, e2]
  rfl
theorem canLay_ints : ∀ l : List Int, PyData.canLayAll0 (l.map PyData.int) = true
  | [] => rfl
  | z :: r => by
    show (true && PyData.canLayAll0 (r.map PyData.int)) = true
    rw [canLay_ints r]
    rfl
theorem depth_ints : ∀ l : List Int, PyData.depthAll (l.map PyData.int) = 0
  | [] => by simp [PyData.depthAll]
  | z :: r => by
    rw [List.map_cons, PyData.depthAll, depth_ints r]
    simp [PyData.depth]
theorem shaped_ints (l : List Int) : SeqAt.shaped (.list (l.map PyData.int)) = true := by
  unfold SeqAt.shaped
  have e1 : PyData.canLay0 (.list (l.map PyData.int)) = true := canLay_ints l
  have e2 : PyData.depth (.list (l.map PyData.int)) = 1 := by rw [PyData.depth, depth_ints]
  rw [e1, e2]
  rfl
theorem eqv_nil (xs : List PyData) : PyData.eqv (.list xs) (.list []) = xs.isEmpty := by
  rw [PyData.eqv]
  cases xs with
  | nil => simp [PyData.eqvAll]
  | cons x r => simp [PyData.eqvAll]

/-! ### the letters -/
abbrev abc : Str := "abcdefghijklmnopqrstuvwxyz"
theorem abc_len : abc.cps.toList.length = 26 := by decide +kernel
theorem abc_size : abc.length = 26 := by decide +kernel

theorem abc_at {d : Int} (h0 : 0 ≤ d) (h1 : d < 26) : ∃ c, atI abc.cps.toList d = some c ∧ c ∈ abc.cps.toList := by
  obtain ⟨j, rfl⟩ : ∃ j : Nat, d = (j : Int) := ⟨d.toNat, by omega⟩
  have hj : j < abc.cps.toList.length := by rw [abc_len]; omega
  exact ⟨abc.cps.toList[j], atI_nat (List.getElem?_eq_getElem hj), List.getElem_mem hj⟩
/-- an item of a written text at a place within -/
theorem str_at {z : Str} {n : Nat} (hn : z.cps.toList.length = n) {d : Int} (h0 : 0 ≤ d) (h1 : d < n) : ∃ c, atI z.cps.toList d = some c ∧ c ∈ z.cps.toList := by
  obtain ⟨j, rfl⟩ : ∃ j : Nat, d = (j : Int) := ⟨d.toNat, by omega⟩
  have hj : j < z.cps.toList.length := by omega
  exact ⟨z.cps.toList[j], atI_nat (List.getElem?_eq_getElem hj), List.getElem_mem hj⟩
theorem joinL_one : ∀ cs : List Nat, TL.joinL [] (cs.map fun c => [c]) = cs
  | [] => rfl
  | [c] => rfl
  | c :: d :: r => by
    show [c] ++ ([] ++ TL.joinL [] ((d :: r).map fun c => [c])) = c :: d :: r
    rw [joinL_one (d :: r)]
    rfl
/-- "".join of single signs -/
theorem join_signs (cs : List Nat) : Txt.join "" (cs.map fun c => (⟨#[c]⟩ : Str)) = SX.S cs := by
  have e := SX.join_S [] (cs.map fun c => [c])
  rw [joinL_one, List.map_map] at e
  exact e
theorem signs_len : ∀ cs : List Nat, ((cs.map fun c => (⟨#[c]⟩ : Str)).map (·.length)).sum = cs.length
  | [] => rfl
  | c :: r => by
    rw [List.map_cons, List.map_cons, List.sum_cons, signs_len r, List.length_cons]
    show 1 + r.length = r.length + 1
    omega

/-! ### names -/
def isNmS (z : Str) : Bool := decide (1 ≤ z.length) && decide (z.length ≤ 8) && z.cps.toList.all fun c => decide (c ∈ abc.cps.toList)
def isNm : V → Bool
  | .str z => isNmS z
  | _ => false

/-! ### a value whose type is known -/
structure TxOk (z : Str) : Prop where
  len : z.length ≤ 100000
  ok : ∀ c ∈ z.cps.toList, c < 1114112
def isStrV : V → Bool
  | .str _ => true
  | _ => false
/-- a text in bounds, or something of a built-in type that is no text -/
def Kn (K : PySem.W.Frag) (H : Hp) (v : V) : Prop := (∃ z, v = .str z ∧ TxOk z) ∨ (isStrV v = false ∧ ∃ T : String, TyX K H v (.type T) ∧ T ∈ ["int", "bool", "NoneType", "list", "tuple", "dict"])
theorem _root_.L2.TyX.same {K : PySem.W.Frag} {H H' : Hp} {v : V} {t : Value} (s : Same H H') (h : TyX K H v t) : TyX K H' v t := by
  cases h with
  | base h =>
    cases h with
    | non => exact .base .non
    | bl x => exact .base (.bl x)
    | int i => exact .base (.int i)
    | str x => exact .base (.str x)
    | flt x => exact .base (.flt x)
    | lst e => exact .base (.lst (s _ _ e))
    | frz e => exact .base (.frz (s _ _ e))
    | tup e => exact .base (.tup (s _ _ e))
    | dK e => exact .base (.dK (s _ _ e))
    | dT e => exact .base (.dT (s _ _ e))
    | ins e cl ha hn htk hm => exact .base (.ins (s _ _ e) cl ha hn htk hm)
  | byt b => exact .byt b
  | set e => exact .set (s _ _ e)
  | kList e c => exact .kList e c
  | kTuple e c => exact .kTuple e c
  | kDict e c => exact .kDict e c
  | fTuple e => exact .fTuple (s _ _ e)
  | fDict e => exact .fDict (s _ _ e)
theorem Kn.same {K : PySem.W.Frag} {H H' : Hp} {v : V} (s : Same H H') (h : Kn K H v) : Kn K H' v := by
  rcases h with h | ⟨h1, T, h2, h3⟩
  · exact .inl h
  · exact .inr ⟨h1, T, TyX.same s h2, h3⟩
theorem kit_str {T : String} (h : T ∈ ["int", "bool", "NoneType", "list", "tuple", "dict"]) : kitB T "str" = some false := by
  simp only [List.mem_cons, List.not_mem_nil, or_false] at h
  rcases h with rfl | rfl | rfl | rfl | rfl | rfl <;> decide +kernel
theorem kit_str_str : kitB "str" "str" = some true := by decide +kernel
section
variable {K : PySem.W.Frag} {H : Hp}
theorem Kn.str {z : Str} (h : TxOk z) : Kn K H (.str z) := .inl ⟨z, rfl, h⟩
theorem Kn.int (i : Int) : Kn K H (.int i) := .inr ⟨rfl, "int", .base (.int i), by simp⟩
theorem Kn.bl (b : Bool) : Kn K H (.bl b) := .inr ⟨rfl, "bool", .base (.bl b), by simp⟩
theorem Kn.non : Kn K H .non := .inr ⟨rfl, "NoneType", .base .non, by simp⟩
theorem Kn.lst {a : Addr} {xs : List V} (h : H a = some (.lst xs)) : Kn K H (.ref a) := .inr ⟨rfl, "list", .base (.lst h), by simp⟩
theorem Kn.tup {a : Addr} {xs : List V} (h : H a = some (.tup xs)) : Kn K H (.ref a) := .inr ⟨rfl, "tuple", .base (.tup h), by simp⟩
theorem Kn.dct {a : Addr} {kvs : List (Key × V)} (h : H a = some (.dK kvs)) : Kn K H (.ref a) := .inr ⟨rfl, "dict", .base (.dK h), by simp⟩
end
/-- isinstance(v, str): the type and the answer -/
theorem Kn.isS (K : PySem.W.Frag) {H : Hp} {v : V} (kn : Kn K H v) : ∃ T : String, TyX K H v (.type T) ∧ PySem.W.kitOne K (.type T) (.type "str") = some (isStrV v) := by
  rcases kn with ⟨z, rfl, h⟩ | ⟨h1, T, ty, ht⟩
  · exact ⟨_, .base (.str z), kit_ty kit_str_str⟩
  · exact ⟨T, ty, by rw [h1]; exact kit_ty (kit_str ht)⟩
theorem Kn.tx {K : PySem.W.Frag} {H : Hp} {z : Str} (kn : Kn K H (.str z)) : TxOk z := by
  rcases kn with ⟨z', e, h⟩ | ⟨h1, _⟩
  · cases e
    exact h
  · cases h1
theorem isNm_notStr {v : V} (h : isStrV v = false) : isNm v = false := by
  cases v with
  | str z => cases h
  | _ => rfl
theorem isStrV_str {v : V} (h : isStrV v = true) : ∃ z, v = .str z := by
  cases v with
  | str z => exact ⟨z, rfl⟩
  | _ => cases h
theorem isNm_str {v : V} (h : isNm v = true) : ∃ z, v = .str z := by
  cases v with
  | str z => exact ⟨z, rfl⟩
  | _ => cases h
theorem TxOk.cut {z : Str} (h : TxOk z) (lo hi : Option Int) : TxOk (cutS z lo hi) := ⟨Nat.le_trans (cutS_length z lo hi) h.1, fun c hc => h.2 c (List.mem_of_mem_drop (List.mem_of_mem_take (by simpa [cutS] using hc)))⟩
theorem str_cat_toList (a b : Str) : (a ++ b).cps.toList = a.cps.toList ++ b.cps.toList := TL.tl_append a b
theorem str_cat_len (a b : Str) : (a ++ b).length = a.length + b.length := by
  have e := congrArg List.length (str_cat_toList a b)
  rw [List.length_append] at e
  simpa [Str.length] using e
theorem TxOk.cat {a b : Str} {n m : Nat} (ha : TxOk a) (hb : TxOk b) (la : a.length ≤ n) (lb : b.length ≤ m) (h : n + m ≤ 100000) : TxOk (a ++ b) := ⟨by rw [str_cat_len]; omega, fun c hc => by
  rw [str_cat_toList] at hc
  rcases List.mem_append.mp hc with hc | hc
  · exact ha.2 c hc
  · exact hb.2 c hc⟩
theorem one_ok {c : Nat} (h : c < 1114112) : TxOk ⟨#[c]⟩ := ⟨(by show 1 ≤ 100000; decide), fun d hd => by
  have e : d = c := by simpa using hd
  rw [e]
  exact h⟩
theorem nil_ok : TxOk "" := ⟨Nat.zero_le _, fun c hc => by
  have e0 : ("" : Str).cps.toList = [] := by decide +kernel
  rw [e0] at hc
  cases hc⟩

/-! ### errors, by their names -/
theorem clsv_errs (K : PySem.W.Frag) : ∀ ys : List Str, Paired ClsV (ys.map fun y => V.ref (He.ga K y)) (ys.map fun y => Value.ref (He.ga K y))
  | [] => .nil
  | y :: r => .cons (.own _) (clsv_errs K r)
theorem kitAny_errs {K : PySem.W.Frag} (EK : ErrK K) {x : Str} (hx : x ∈ errNames) : ∀ ys : List Str, (∀ y ∈ ys, y ∈ errNames) → PySem.W.kitAny K (.ref (He.ga K x)) (ys.map fun y => Value.ref (He.ga K y)) = some (ys.any fun y => decide (x = y))
  | [], _ => rfl
  | y :: r, h => by
    have ih := kitAny_errs EK hx r fun z hz => h z (List.mem_cons_of_mem _ hz)
    have h1 := EK.kit x hx y (h y (List.mem_cons_self ..))
    refine kitAny_cons (b := decide (x = y)) h1 (fun e => ?_) (fun e => ?_)
    · show PySem.W.kitAny K (.ref (He.ga K x)) (r.map fun y => Value.ref (He.ga K y)) = some (decide (x = y) || r.any fun y => decide (x = y))
      rw [ih, e]
      rfl
    · show (decide (x = y) || r.any fun y => decide (x = y)) = true
      rw [e]
      rfl

/-! ### all but one object -/
def off (p : Addr) (H : Hp) : Hp := fun b => if b = p then none else H b
theorem off_at {p b : Addr} {H : Hp} {o : HO} (h : H b = some o) (n : b ≠ p) : off p H b = some o := by
  unfold off
  rw [if_neg n]
  exact h
theorem off_same {p : Addr} {H : Hp} : Same (off p H) H := fun b o h => by
  unfold off at h
  split at h
  · cases h
  · exact h
theorem Keep.off {p : Addr} {H H' : Hp} (k : Keep [p] H H') : Same (off p H) (U.off p H') := fun b o h => by
  have n : b ≠ p := fun e => by
    unfold U.off at h
    rw [if_pos e] at h
    cases h
  exact off_at (k.k b o (off_same _ _ h) (by simp [n])) n
theorem off_of_same {p : Addr} {H H' : Hp} (s : Same H H') : Same (off p H) (off p H') := (Keep.same s).off

/-! ### data in the heap -/
mutual
theorem Dp.same {K : PySem.W.Frag} {H H' : Hp} (s : Same H H') : ∀ {v : V} {d : PyData}, Dp K H v d → Dp K H' v d
  | _, _, .non => .non
  | _, _, .bl b => .bl b
  | _, _, .int i => .int i
  | _, _, .str x => .str x
  | _, _, .lst h hs => .lst (s.seq h) (DpAll.same s hs)
  | _, _, .tup h hs => .tup (Same.seqT s h) (DpAll.same s hs)
theorem DpAll.same {K : PySem.W.Frag} {H H' : Hp} (s : Same H H') : ∀ {vs : List V} {ds : List PyData}, DpAll K H vs ds → DpAll K H' vs ds
  | _, _, .nil => .nil
  | _, _, .cons h hs => .cons (Dp.same s h) (DpAll.same s hs)
end
def tyD : PyData → String
  | .none => "NoneType"
  | .bool _ => "bool"
  | .int _ => "int"
  | .str _ => "str"
  | .list _ => "list"
  | .tuple _ => "tuple"
  | .dict _ => "dict"
theorem _root_.L2.Dp.ty {K : PySem.W.Frag} {H : Hp} {v : V} {d : PyData} (h : Dp K H v d) : TyX K H v (.type (tyD d)) := by
  cases h with
  | non => exact .base .non
  | bl b => exact .base (.bl b)
  | int i => exact .base (.int i)
  | str x => exact .base (.str x)
  | lst h _ =>
    rcases h with (h | ⟨o, h⟩) | h
    · exact .base (.lst h)
    · exact .base (.frz h)
    · obtain ⟨o, its, n, hk, hc, _⟩ := h
      exact .kList hk hc
  | tup h _ =>
    rcases h with (h | ⟨o, h⟩) | h
    · exact .base (.tup h)
    · exact .fTuple h
    · obtain ⟨o, its, n, hk, hc, _⟩ := h
      exact .kTuple hk hc
structure Dt (K : PySem.W.Frag) (H : Hp) (v : V) (d : PyData) : Prop where
  dp : Dp K H v d
  sh : SeqAt.shaped d = true
theorem Dt.same {K : PySem.W.Frag} {H H' : Hp} {v : V} {d : PyData} (s : Same H H') (h : Dt K H v d) : Dt K H' v d := ⟨Dp.same s h.dp, h.sh⟩
theorem Dt.of_off {K : PySem.W.Frag} {p : Addr} {H : Hp} {v : V} {d : PyData} (h : Dt K (off p H) v d) : Dt K H v d := h.same off_same
theorem Kn.of_off {K : PySem.W.Frag} {p : Addr} {H : Hp} {v : V} (h : Kn K (off p H) v) : Kn K H v := Kn.same off_same h
def noDict : PyData → Bool
  | .dict _ => false
  | _ => true
theorem _root_.L2.Dp.nd {K : PySem.W.Frag} {H : Hp} {v : V} {d : PyData} (h : Dp K H v d) : noDict d = true := by
  cases h <;> rfl
def isIntD : PyData → Bool
  | .int _ => true
  | .bool _ => true
  | _ => false
def isBoolD : PyData → Bool
  | .bool _ => true
  | _ => false
def isStrD : PyData → Bool
  | .str _ => true
  | _ => false
def isTupD : PyData → Bool
  | .tuple _ => true
  | _ => false
def tyNames : List String := ["NoneType", "bool", "int", "str", "list", "tuple", "dict"]
theorem tyD_mem (d : PyData) : tyD d ∈ tyNames := by
  cases d <;> simp [tyD, tyNames]
theorem kit7_int : ∀ T ∈ tyNames, kitB T "int" = some (T == "int" || T == "bool") := by decide +kernel
theorem kit7_bool : ∀ T ∈ tyNames, kitB T "bool" = some (T == "bool") := by decide +kernel
theorem kit7_str : ∀ T ∈ tyNames, kitB T "str" = some (T == "str") := by decide +kernel
theorem kit7_tup : ∀ T ∈ tyNames, kitB T "tuple" = some (T == "tuple") := by decide +kernel
theorem kit7_list : ∀ T ∈ tyNames, kitB T "list" = some (T == "list") := by decide +kernel
theorem kit7_dict : ∀ T ∈ tyNames, kitB T "dict" = some (T == "dict") := by decide +kernel
theorem kitD_int {d : PyData} (h : noDict d = true) : kitB (tyD d) "int" = some (isIntD d) := by
  rw [kit7_int _ (tyD_mem d)]
  cases d <;> rfl
theorem kitD_bool {d : PyData} (h : noDict d = true) : kitB (tyD d) "bool" = some (isBoolD d) := by
  rw [kit7_bool _ (tyD_mem d)]
  cases d <;> rfl
theorem kitD_str {d : PyData} (h : noDict d = true) : kitB (tyD d) "str" = some (isStrD d) := by
  rw [kit7_str _ (tyD_mem d)]
  cases d <;> rfl
theorem kitD_tup {d : PyData} (h : noDict d = true) : kitB (tyD d) "tuple" = some (isTupD d) := by
  rw [kit7_tup _ (tyD_mem d)]
  cases d <;> rfl

/-! ### menus: an item of a written list at a drawn place -/
theorem menu {xs : List V} {n : Nat} {d : Int} (P : V → Prop) (hn : xs.length = n) (h0 : 0 ≤ d) (h1 : d < n) (all : ∀ v ∈ xs, P v) : ∃ v, atI xs d = some v ∧ P v := by
  obtain ⟨j, rfl⟩ : ∃ j : Nat, d = (j : Int) := ⟨d.toNat, by omega⟩
  have hj : j < xs.length := by omega
  exact ⟨xs[j], atI_nat (List.getElem?_eq_getElem hj), all _ (List.getElem_mem hj)⟩
theorem Dt.int {K : PySem.W.Frag} {H : Hp} (i : Int) : Dt K H (.int i) (.int i) := ⟨.int i, rfl⟩
theorem Dt.bl {K : PySem.W.Frag} {H : Hp} (i : Bool) : Dt K H (.bl i) (.bool i) := ⟨.bl i, rfl⟩
theorem Dt.non {K : PySem.W.Frag} {H : Hp} : Dt K H .non .none := ⟨.non, rfl⟩
theorem Dt.str {K : PySem.W.Frag} {H : Hp} {z : Str} (h : TxOk z) : Dt K H (.str z) (.str z) := ⟨.str z, by
  unfold SeqAt.shaped
  have e : PyData.canLay0 (.str z) = true := strOk_of h.ok
  rw [e]
  rfl⟩
theorem shaped_parts {d : PyData} (h : SeqAt.shaped d = true) : d.canLay0 = true ∧ d.depth ≤ 64 := ⟨SeqAt.canLay_of_shaped h, SeqAt.depth_of_shaped h⟩
/-- data of some depth -/
structure Dd (n : Nat) (d : PyData) : Prop where
  lay : d.canLay0 = true
  dep : d.depth ≤ n
theorem Dd.sh {n : Nat} {d : PyData} (h : Dd n d) (hn : n ≤ 64) : SeqAt.shaped d = true := by
  unfold SeqAt.shaped
  rw [h.lay, decide_eq_true (Nat.le_trans h.dep hn)]
  rfl
theorem Dd.list {n : Nat} {ds : List PyData} (h : ∀ d ∈ ds, Dd n d) : Dd (n + 1) (.list ds) := by
  constructor
  · show PyData.canLayAll0 ds = true
    induction ds with
    | nil => rfl
    | cons x r ih =>
      show (x.canLay0 && PyData.canLayAll0 r) = true
      rw [(h x (List.mem_cons_self ..)).lay, ih fun y hy => h y (List.mem_cons_of_mem _ hy)]
      rfl
  · rw [PyData.depth]
    have e : PyData.depthAll ds ≤ n := by
      induction ds with
      | nil => simp [PyData.depthAll]
      | cons x r ih =>
        rw [PyData.depthAll]
        exact Nat.max_le.mpr ⟨(h x (List.mem_cons_self ..)).dep, ih fun y hy => h y (List.mem_cons_of_mem _ hy)⟩
    omega
theorem Dd.tuple {n : Nat} {ds : List PyData} (h : ∀ d ∈ ds, Dd n d) : Dd (n + 1) (.tuple ds) := by
  have q := Dd.list h
  exact ⟨q.lay, by have := q.dep; simp only [PyData.depth] at this ⊢; exact this⟩
theorem Dd.int (i : Int) : Dd 0 (.int i) := ⟨rfl, by simp [PyData.depth]⟩
theorem Dd.str {z : Str} (h : TxOk z) : Dd 0 (.str z) := ⟨strOk_of h.ok, by simp [PyData.depth]⟩
theorem Dd.none : Dd 0 .none := ⟨rfl, by simp [PyData.depth]⟩
theorem Dd.bool (b : Bool) : Dd 0 (.bool b) := ⟨rfl, by simp [PyData.depth]⟩
theorem Dd.mono {n m : Nat} {d : PyData} (h : Dd n d) (k : n ≤ m) : Dd m d := ⟨h.lay, Nat.le_trans h.dep k⟩
end U

set_option Elab.async false
set_option linter.all false
set_option maxRecDepth 100000
set_option maxHeartbeats 4000000
/-! Text += text; isinstance of own classes; small facts of texts. -/
namespace U
open PySem PySem.Spec PyProof.Rows L2
theorem iteE {c : Bool} {A B : Prop} (h : c = false) (b : B) : if c = true then A else B := by
  rw [h]
  exact iteF b
abbrev ipS : TIp := rAddS
theorem ip_addS {X : Cx} : PIp X .Add ipS := iop_add_str
/-- what isinstance asks of an own class -/
structure InsK (K : PySem.W.Frag) (C : Addr) : Prop where
  cl : Cls K C
  ha : PySem.W.findIn K (.ref C) "__class__" = some (some (.builtin "object.__class__"))
  hn : PySem.W.specialIn K (.builtin "object.__class__") "__get__" = some (some (.builtin "getset_descriptor.__get__"))
  htk : PySem.W.takesIn K (.builtin "object.__class__") = some true
  hm : PySem.W.mroIn K C (.type "object") = some true
  kit : PySem.W.kitOne K (.ref C) (.ref C) = some true
def insB (K : PySem.W.Frag) (x : Str) : Bool := (He.Fa.cls x).ok K && (He.eqO (PySem.W.findIn K (.ref (He.ga K x)) "__class__") (some (some (.builtin "object.__class__"))) &&
  (He.eqO (PySem.W.specialIn K (.builtin "object.__class__") "__get__") (some (some (.builtin "getset_descriptor.__get__"))) && (decide (PySem.W.takesIn K (.builtin "object.__class__") = some true) &&
  (decide (PySem.W.mroIn K (He.ga K x) (.type "object") = some true) && decide (PySem.W.kitOne K (.ref (He.ga K x)) (.ref (He.ga K x)) = some true)))))
theorem insB_ok {K : PySem.W.Frag} {x : Str} (h : insB K x = true) : InsK K (He.ga K x) := by
  obtain ⟨h1, h⟩ := He.ba h
  obtain ⟨h2, h⟩ := He.ba h
  obtain ⟨h3, h⟩ := He.ba h
  obtain ⟨h4, h⟩ := He.ba h
  obtain ⟨h5, h6⟩ := He.ba h
  exact ⟨He.cls_ok h1, He.eqO_ok h2, He.eqO_ok h3, of_decide_eq_true h4, of_decide_eq_true h5, of_decide_eq_true h6⟩
theorem InsK.ty {K : PySem.W.Frag} {C : Addr} (h : InsK K C) {H : Hp} {a dx : Addr} {fs : List (Str × V)} (e : H a = some (.ins C dx fs)) : TyX K H (.ref a) (.ref C) := .base (.ins e h.cl h.ha h.hn h.htk h.hm)
theorem lit_ok {z : Str} (h : z.length ≤ 100000 ∧ ∀ c ∈ z.cps.toList, c < 1114112) : TxOk z := ⟨h.1, h.2⟩
theorem str_beq (a x : Str) : (a == x) = decide (x = a) := by
  by_cases h : x = a
  · rw [decide_eq_true h, h]
    exact beq_self_eq_true a
  · rw [decide_eq_false h]
    exact beq_eq_false_iff_ne.mpr fun e => h e.symm
theorem str_eq_nil {z : Str} : z = "" ↔ z.length = 0 := ⟨fun e => by rw [e]; rfl, fun e => by
  obtain ⟨a⟩ := z
  have e1 : a.size = 0 := e
  have e2 : a = #[] := Array.eq_empty_of_size_eq_zero e1
  rw [e2]
  rfl⟩
theorem partition_len (z y : Str) : (Txt.partition z y).1.length ≤ z.length ∧ (Txt.partition z y).2.1.length ≤ z.length ∧ (Txt.partition z y).2.2.length ≤ z.length := PyProof.Rows.fact_partition z y
theorem partition_ok {z : Str} (h : TxOk z) (y : Str) : TxOk (Txt.partition z y).1 ∧ TxOk (Txt.partition z y).2.1 ∧ TxOk (Txt.partition z y).2.2 := by
  have hl := partition_len z y
  have hs := PySem.StrLaws.partition_sum z y
  have hm : ∀ c, c ∈ (Txt.partition z y).1.cps.toList ∨ c ∈ (Txt.partition z y).2.1.cps.toList ∨ c ∈ (Txt.partition z y).2.2.cps.toList → c ∈ z.cps.toList := fun c hc => by
    rw [← hs, str_cat_toList, str_cat_toList, List.mem_append, List.mem_append]
    rcases hc with h | h | h
    · exact .inl (.inl h)
    · exact .inl (.inr h)
    · exact .inr h
  exact ⟨⟨Nat.le_trans hl.1 h.1, fun c hc => h.2 c (hm c (.inl hc))⟩, ⟨Nat.le_trans hl.2.1 h.1, fun c hc => h.2 c (hm c (.inr (.inl hc)))⟩, ⟨Nat.le_trans hl.2.2 h.1, fun c hc => h.2 c (hm c (.inr (.inr hc)))⟩⟩
def optV : Option Int → V
  | none => .non
  | some n => .int n
theorem flat_opt (o : Option Int) : flatV (optV o) = true := by cases o <;> rfl
/-- list(d.keys()) -/
abbrev rListKV : RC := fun xs H Q => ∃ (a d : Addr) (kvs : List (Key × V)), xs = [.ref a] ∧ H a = some (KeysO a d) ∧ Rd H d (.dK kvs) ∧ ∀ p, H p = none → Q (.ref p) (upd H p (.lst (kvs.map fun kv => kV kv.1)))
theorem call_listKV {X : Cx} (hcalm : X.calm = true) : CallR X (.type "list") rListKV := by
  intro pins s σ H xs us Q I r q
  obtain ⟨a, d, kvs, ex, ha, hd, q⟩ := q
  subst ex
  obtain ⟨u, eu, rx⟩ := vals1 r
  subst eu
  cases rx
  obtain ⟨z, lo, vs, rel, dd⟩ := dk_rd I.hok hd
  obtain ⟨ep, hat⟩ := dd.dictAt
  obtain ⟨view, _, _⟩ := (show ObjOk X.prog X.w H s.heap a (KeysO a d) from I.hok a _ ha)
  have ek : (kvs.map fun kv => kV kv.1) = vs.map fun p => kV p.1 := by
    have e := congrArg (List.map kV) rel.keys
    rw [List.map_map, List.map_map] at e
    exact e
  refine PySem.W.kdl_call (PySem.W.kdl_keys (r := a) (d := d) (knd := mixKind X.prog X.w) (kvs := vs) (ep := ep)) (I.ok.hd hcalm) ⟨view, hat⟩ (by rw [← rel.length]; exact z) fun h' tk acc c' hk hD hacc => ?_
  have hv : Vals (vs.map fun p => kV p.1) acc.toList := keys_at (by rw [Array.length_toList]; exact hacc.1) fun j v e => hacc.2 j v (by rw [← Array.getElem?_toList]; exact e)
  refine ⟨.ref s.heap.objs.size, upd H s.heap.objs.size (.lst (kvs.map fun kv => kV kv.1)), I.laid (t' := tk) hk (Nat.le_refl _)
    (show ObjOk X.prog X.w _ _ _ (.lst (kvs.map fun kv => kV kv.1)) from ⟨by rw [List.length_map]; exact z, acc.toList, c', by rw [ek]; exact hv, by rw [Array.toArray_toList]; exact hD⟩), rfl, q _ (I.hok.fresh (Nat.le_refl _))⟩
/-- a comprehension over a dict's keys -/
theorem lck_fm {tt : TT} {te : TE} {σ : L2.St} {H1 : Hp} {D : Addr} {Q : Hp → Prop} {j : Nat} {d : Addr} {o : Obj} {kvs : List (Key × V)} (p : Key × V → Bool) (f : Key × V → V) (hd0 : H1 d = some (.frz o (.dK kvs))) (hD : H1 D = none) (hx : kvs.length ≤ 1000000)
    (ht : ∀ kv acc (R : Bool → Hp → Prop), kv ∈ kvs → R (p kv) (upd H1 D (.lst acc)) → tt ((wipe σ [j]).set j (some (kV kv.1))) (upd H1 D (.lst acc)) R)
    (he : ∀ kv acc (R : VK), kv ∈ kvs → p kv = true → R (f kv) (upd H1 D (.lst acc)) → te ((wipe σ [j]).set j (some (kV kv.1))) (upd H1 D (.lst acc)) R)
    (hd : Q (upd H1 D (.lst ((kvs.filter p).map f)))) :
    ∃ W : Nat → Nat → Hp → Prop, (∃ m, W 0 m (upd H1 D (.lst []))) ∧ ∀ i m H, W i m H →
      ((Itk d o kvs).stop i H ∧ Q H) ∨ ((Itk d o kvs).go i H ∧ ∃ Nx : Hp → Prop, (∀ H', Nx H' → ∃ m', m' < m ∧ W (i + 1) m' H') ∧ ∀ y H', (Itk d o kvs).yld i H y H' → gName j y (wipe σ [j]) H' fun σ2 H2 => wipe σ2 [j] = wipe σ [j] ∧ tt σ2 H2 fun b H3 =>
        if b = true then te σ2 H3 fun y H4 => ∃ acc, H4 D = some (.lst acc) ∧ acc.length < sizeLine ∧ Nx (upd H4 D (.lst (acc ++ [y]))) else Nx H3) := by
  refine ⟨fun i m H => m = kvs.length - i ∧ i ≤ kvs.length ∧ H = upd H1 D (.lst (((kvs.take i).filter p).map f)), ⟨kvs.length, by simp, Nat.zero_le _, by simp⟩, ?_⟩
  rintro i m H ⟨rfl, hi, rfl⟩
  have hfz : (upd H1 D (.lst (((kvs.take i).filter p).map f))) d = some (.frz o (.dK kvs)) := by
    rw [upd_ne (ne_of_none hd0 hD)]
    exact hd0
  by_cases hlt : i < kvs.length
  · refine .inr ⟨⟨hfz, hlt⟩, fun H' => H' = upd H1 D (.lst (((kvs.take (i + 1)).filter p).map f)), fun H' p' => ⟨kvs.length - (i + 1), by omega, rfl, hlt, p'⟩, fun y H' z => ?_⟩
    obtain ⟨e, k, v, hk, rfl⟩ := z
    subst e
    have hm : (k, v) ∈ kvs := List.mem_of_getElem? hk
    refine ⟨wipe1, ht (k, v) _ _ hm ?_⟩
    have hlen : (((kvs.take i).filter p).map f).length < sizeLine := by
      rw [List.length_map, sizeLine_eq]
      have h1 := List.length_filter_le p (kvs.take i)
      rw [List.length_take] at h1
      omega
    by_cases hp : p (k, v) = true
    · rw [hp]
      refine iteT (he (k, v) _ _ hm hp ⟨_, upd_same, hlen, ?_⟩)
      rw [upd_upd, take_snoc hk, List.filter_append, List.map_append]
      simp [hp]
    · have hp' : p (k, v) = false := by simpa using hp
      rw [hp']
      refine iteF ?_
      rw [take_snoc hk, List.filter_append, List.map_append]
      simp [hp']
  · have e : i = kvs.length := by omega
    subst e
    refine .inl ⟨⟨hfz, Nat.le_refl _⟩, ?_⟩
    rw [List.take_length]
    exact hd
/-- a comprehension over a list whose element may lay new things -/
theorem lcl_s {K : PySem.W.Frag} {te : TE} {σ : L2.St} {H1 : Hp} {D : Addr} {Q : Hp → Prop} {j : Nat} {a : Addr} {xs : List V} (f : V → V) (hs : SqL K H1 a xs) (hD : H1 D = none) (hx : xs.length ≤ 1000000)
    (he : ∀ v H', v ∈ xs → Same H1 H' → ∀ R : VK, (∀ H'', Same H' H'' → R (f v) H'') → te ((wipe σ [j]).set j (some v)) H' R)
    (hd : ∀ H', Same H1 H' → H' D = some (.lst (xs.map f)) → Q H') :
    ∃ W : Nat → Nat → Hp → Prop, (∃ m, W 0 m (upd H1 D (.lst []))) ∧ ∀ i m H, W i m H →
      ((Itl K a).stop i H ∧ Q H) ∨ ((Itl K a).go i H ∧ ∃ Nx : Hp → Prop, (∀ H', Nx H' → ∃ m', m' < m ∧ W (i + 1) m' H') ∧ ∀ y H', (Itl K a).yld i H y H' → gName j y (wipe σ [j]) H' fun σ2 H2 => wipe σ2 [j] = wipe σ [j] ∧ tYes σ2 H2 fun b H3 =>
        if b = true then te σ2 H3 fun y H4 => ∃ acc, H4 D = some (.lst acc) ∧ acc.length < sizeLine ∧ Nx (upd H4 D (.lst (acc ++ [y]))) else Nx H3) := by
  refine lc_list (g := gName j) (vs := [j]) (xs := xs) (fun i H => Same H1 H ∧ H D = some (.lst ((xs.take i).map f))) ⟨same_new hD, by rw [upd_same]; simp⟩ (fun i H _ e => e.1.seq hs) (fun i c H hc e => ?_) (fun H e => ?_)
  · obtain ⟨s1, hl⟩ := e
    refine ⟨wipe1, he c H (List.mem_of_getElem? hc) s1 _ fun H4 s4 => ⟨_, s4 _ _ hl, ?_, ?_, ?_⟩⟩
    · rw [List.length_map, List.length_take, sizeLine_eq]
      omega
    · exact U.Same.mut (s1.trans s4) hD
    · rw [upd_same, take_snoc hc, List.map_append]
      rfl
  · refine hd H e.1 ?_
    rw [e.2, List.take_length]
/-- what is told of some error classes -/
structure ErrL (l : List Str) (K : PySem.W.Frag) : Prop where
  exc : ∀ x ∈ l, ExcC K (He.ga K x)
  exm : ∀ x ∈ l, PySem.W.exmOne K (.ref (He.ga K x)) (.ref (He.ga K "HallError")) = some true
  kit : ∀ x ∈ l, ∀ y ∈ l, PySem.W.kitOne K (.ref (He.ga K x)) (.ref (He.ga K y)) = some (decide (x = y))
  kitH : ∀ x ∈ l, PySem.W.kitOne K (.ref (He.ga K x)) (.ref (He.ga K "HallError")) = some true
  kitV : ∀ x ∈ l, PySem.W.kitOne K (.ref (He.ga K x)) (.type "ValueError") = some true
def errLB (l : List Str) (K : PySem.W.Frag) : Bool := l.all fun x => excB K (He.ga K x) && (decide (PySem.W.exmOne K (.ref (He.ga K x)) (.ref (He.ga K "HallError")) = some true) &&
  ((l.all fun y => decide (PySem.W.kitOne K (.ref (He.ga K x)) (.ref (He.ga K y)) = some (decide (x = y)))) && (decide (PySem.W.kitOne K (.ref (He.ga K x)) (.ref (He.ga K "HallError")) = some true) && decide (PySem.W.kitOne K (.ref (He.ga K x)) (.type "ValueError") = some true))))
theorem errLB_ok {l : List Str} {K : PySem.W.Frag} (h : errLB l K = true) : ErrL l K := by
  have h1 := List.all_eq_true.mp h
  refine ⟨fun x hx => excB_ok (He.ba (h1 x hx)).1, fun x hx => of_decide_eq_true (He.ba (He.ba (h1 x hx)).2).1, fun x hx y hy => ?_, fun x hx => ?_, fun x hx => ?_⟩
  · exact of_decide_eq_true (List.all_eq_true.mp (He.ba (He.ba (He.ba (h1 x hx)).2).2).1 y hy)
  · exact of_decide_eq_true (He.ba (He.ba (He.ba (He.ba (h1 x hx)).2).2).2).1
  · exact of_decide_eq_true (He.ba (He.ba (He.ba (He.ba (h1 x hx)).2).2).2).2
end U

set_option Elab.async false
set_option linter.all false
set_option maxRecDepth 100000
set_option maxHeartbeats 4000000
/-! Dicts of data compared (both answers); set(list of whole numbers). -/
namespace U
open PySem PySem.Spec PyProof.Rows L2
/-- a dict of data -/
def DcAt (K : PySem.W.Frag) (H : Hp) (a : Addr) (ds : List (Key × PyData)) : Prop := ∃ kvs, H a = some (.dK kvs) ∧ Paired (fun (kv : Key × V) (kd : Key × PyData) => kv.1 = kd.1 ∧ Dp K H kv.2 kd.2) kvs ds
def dcLook (ds : List (Key × PyData)) (k : Key) : Option PyData := (ds.find? fun q => decide (q.1 = k)).map (·.2)
def hitD (es : List (Key × PyData)) (q : Key × PyData) : Bool := match dcLook es q.1 with
  | some e => PyData.eqv q.2 e
  | none => false
def eqDc (ds es : List (Key × PyData)) : Bool := (ds.length == es.length) && ds.all (hitD es)
theorem dc_val {K : PySem.W.Frag} {H : Hp} {kvs : List (Key × V)} {ds : List (Key × PyData)} (h : Paired (fun (kv : Key × V) (kd : Key × PyData) => kv.1 = kd.1 ∧ Dp K H kv.2 kd.2) kvs ds) (k : Key) :
    (valV kvs k = none ∧ dcLook ds k = none) ∨ ∃ v d, valV kvs k = some v ∧ dcLook ds k = some d ∧ Dp K H v d ∧ (k, d) ∈ ds := by
  induction h with
  | nil => exact .inl ⟨rfl, rfl⟩
  | @cons p q ps qs hd _ ih =>
    obtain ⟨e1, e2⟩ := hd
    by_cases c : q.1 = k
    · right
      refine ⟨p.2, q.2, ?_, ?_, e2, ?_⟩
      · unfold valV
        rw [List.find?_cons, decide_eq_true (e1.trans c)]
        rfl
      · unfold dcLook
        rw [List.find?_cons, decide_eq_true c]
        rfl
      · rw [← c]
        exact List.mem_cons_self ..
    · have n1 : valV (p :: ps) k = valV ps k := by
        unfold valV
        rw [List.find?_cons, decide_eq_false (by rw [e1]; exact c)]
      have n2 : dcLook (q :: qs) k = dcLook qs k := by
        unfold dcLook
        rw [List.find?_cons, decide_eq_false c]
      rw [n1, n2]
      rcases ih with h | ⟨v, d, h1, h2, h3, h4⟩
      · exact .inl h
      · exact .inr ⟨v, d, h1, h2, h3, List.mem_cons_of_mem _ h4⟩
section
variable {X : Cx} {pins : List (Addr × Obj)} {σ : L2.St} {H : Hp} {s : Shared}
theorem dc_hits (I : Inv X pins σ H s) {A : Around} (hu : A.units + 64 < cLine) {ls : List (Key × V)} {vb : List (Key × Value)} {es : List (Key × PyData)} (rb : KV ls vb) (pb : Paired (fun (kv : Key × V) (kd : Key × PyData) => kv.1 = kd.1 ∧ Dp X.K H kv.2 kd.2) ls es) (sb : ∀ q ∈ es, SeqAt.shaped q.2 = true)
    {ks : List (Key × V)} {ds : List (Key × PyData)} (pa : Paired (fun (kv : Key × V) (kd : Key × PyData) => kv.1 = kd.1 ∧ Dp X.K H kv.2 kd.2) ks ds) : (∀ q ∈ ds, SeqAt.shaped q.2 = true) → ∀ {va : List (Key × Value)}, KV ks va → PySem.W.KeqHits A s vb va (ds.all (hitD es)) := by
  induction pa with
  | nil =>
    intro _ va ra
    unfold KV at ra
    cases ra
    exact .nil
  | @cons p q ps qs h _ ih =>
    intro sa va ra
    unfold KV at ra
    cases ra with
    | cons r1 rr =>
      rename_i w ws
      obtain ⟨k, v⟩ := w
      obtain ⟨a1, a2⟩ := r1
      obtain ⟨b1, b2⟩ := h
      have ek : q.1 = k := b1.symm.trans a1
      have rest := ih (fun z hz => sa z (List.mem_cons_of_mem _ hz)) (show KV ps ws from rr)
      show PySem.W.KeqHits A s vb ((k, v) :: ws) (hitD es q && qs.all (hitD es))
      have rv := rb.val k
      rcases dc_val pb k with ⟨n1, n2⟩ | ⟨u, d, n1, n2, n3, n4⟩
      · rw [n1] at rv
        have e0 : hitD es q = false := by
          unfold hitD
          rw [ek, n2]
        rw [e0]
        refine .miss ?_
        cases hv : valueAt vb k with
        | none => rfl
        | some y =>
          rw [hv] at rv
          exact (show False from rv).elim
      · rw [n1] at rv
        obtain ⟨y, hy, ry⟩ := rv.some_of
        have e0 : hitD es q = PyData.eqv q.2 d := by
          unfold hitD
          rw [ek, n2]
        rw [e0]
        obtain ⟨as, r1⟩ := Dp.reads I q.2 p.2 v b2 a2
        obtain ⟨bs, r2⟩ := Dp.reads I d u y n3 ry
        have s1 := sa q (List.mem_cons_self ..)
        have s2 := sb (k, d) n4
        exact .hit hy (SeqAt.eqAt_reads _ _ _ _ _ _ _ _ r1 r2 (SeqAt.canLay_of_shaped s1) (SeqAt.canLay_of_shaped s2) (SeqAt.room_of_shaped s1 hu)) rest
end
def rEqC (K : PySem.W.Frag) : R2 := fun x y H Q => ∃ a b ds es, x = .ref a ∧ y = .ref b ∧ DcAt K H a ds ∧ DcAt K H b es ∧ (∀ q ∈ ds, SeqAt.shaped q.2 = true) ∧ (∀ q ∈ es, SeqAt.shaped q.2 = true) ∧ Q (.bl (eqDc ds es)) H
def rNeC (K : PySem.W.Frag) : R2 := fun x y H Q => ∃ a b ds es, x = .ref a ∧ y = .ref b ∧ DcAt K H a ds ∧ DcAt K H b es ∧ (∀ q ∈ ds, SeqAt.shaped q.2 = true) ∧ (∀ q ∈ es, SeqAt.shaped q.2 = true) ∧ Q (.bl (!eqDc ds es)) H
section
variable {X : Cx}
theorem paired_len {α β : Type} {R : α → β → Prop} {xs : List α} {ys : List β} (h : Paired R xs ys) : xs.length = ys.length := by
  induction h with
  | nil => rfl
  | cons _ _ ih => rw [List.length_cons, List.length_cons, ih]
theorem op_eqC (hu : X.A.units + 100 < cLine) : OpR X (compareOp .Eq) (rEqC X.K) := by
  intro pins s σ H x y v u Q I rx ry h
  obtain ⟨a, b, ds, es, rfl, rfl, ⟨ks, ea, pa⟩, ⟨ls, eb, pb⟩, sa, sb, q⟩ := h
  cases (show v = Value.ref a from rx)
  cases (show u = Value.ref b from ry)
  obtain ⟨_, ya, va, ra, da⟩ := dk_of I.hok ea
  obtain ⟨_, yb, vb, rb, db⟩ := dk_of I.hok eb
  refine PySem.W.keq_eq (knd := mixKind X.prog X.w) ya yb da db (by omega) (fun _ => dc_hits I (A := X.A.in1) (by show X.A.units + 1 + 64 < cLine; omega) rb pb sb pa sa ra) (fin_bl I q ?_)
  rw [← ra.length, ← rb.length, paired_len pa, paired_len pb]
  rfl
theorem op_neC (hu : X.A.units + 100 < cLine) : OpR X (compareOp .NotEq) (rNeC X.K) := by
  intro pins s σ H x y v u Q I rx ry h
  obtain ⟨a, b, ds, es, rfl, rfl, ⟨ks, ea, pa⟩, ⟨ls, eb, pb⟩, sa, sb, q⟩ := h
  cases (show v = Value.ref a from rx)
  cases (show u = Value.ref b from ry)
  obtain ⟨_, ya, va, ra, da⟩ := dk_of I.hok ea
  obtain ⟨_, yb, vb, rb, db⟩ := dk_of I.hok eb
  refine PySem.W.keq_ne (knd := mixKind X.prog X.w) ya yb da db (by omega) (fun _ => dc_hits I (A := X.A.in1) (by show X.A.units + 1 + 64 < cLine; omega) rb pb sb pa sa ra) (fin_bl I q ?_)
  rw [← ra.length, ← rb.length, paired_len pa, paired_len pb]
  rfl
end

/-! ### set(list of whole numbers) -/
section
variable {P : Program} {w : World} {A : Around} {E : Value → Shared → Prop} {s : Shared}
/-- a new set is empty, and can be walked -/
abbrev set0 (w : World) : Obj := { cls := .type "set", dict := none, data := .set #[] 0 (.fresh 0 0 (!w.params.followText "set-order")) }
/-- the filling of a new set (at the heap's end) from a list -/
theorem fill_list {l : Addr} {items : Array Value} (ns : List Int) {R : Result → Shared → Prop} (hh : A.handled = none) (hl : s.heap.IsList l items) (hi : IntsAre items.toList ns) (hb : ns.length + 1 < scanBound)
    (h : ∀ (h' : Heap) (tk c : Nat), SetR w h' s.heap.objs.size (fun j => decide (j ∈ ns)) c → c ≤ ns.length → (∀ b o, s.heap.get? b = some o → h'.get? b = some o) → R (.ok (.ret .none)) { s with heap := h', toks := tk }) :
    codeAny (model P w) A (.builtin "set.update.loop" ⟨[.ref s.heap.objs.size, .ref (s.heap.push (set0 w)).objs.size], []⟩) R { s with heap := (s.heap.push (set0 w)).push { cls := .type "list_iterator", data := .fields #[.ref l, .int 0 0] } } := by
  have inL : l < s.heap.objs.size := by
    obtain ⟨o, ho, _⟩ := hl
    exact Heap.lt_size ho
  have many : items.size = ns.length := by
    rw [← Array.length_toList]
    exact IntsAre.length hi
  have grown : (s.heap.push (set0 w)).objs.size = s.heap.objs.size + 1 := Heap.size_push ..
  have l1 : (s.heap.push (set0 w)).IsList l items := hl.push _
  have apart : l ≠ (s.heap.push (set0 w)).objs.size := by
    rw [grown]
    exact Nat.ne_of_lt (Nat.lt_succ_of_lt inL)
  have hd : A.in1.handled = none := by simpa using hh
  refine set_update_ints ((Walks.list hd _ l apart items).toS) s.heap.objs.size (by simp only [List.mem_cons, List.not_mem_nil, or_false, not_or]; rw [grown]; exact ⟨Nat.ne_of_lt (Nat.lt_succ_self _), Nat.ne_of_gt inL⟩) ns many hb (fun i v hv => ?_) items.size 0 _ rfl (Nat.zero_le _)
    ⟨⟨_, Heap.get?_push_size _ rfl, rfl, rfl⟩, l1.push _⟩ ⟨0, Nat.le_refl 0, setR_new_at (Heap.get?_push_of_some _ (Heap.get?_push_size _ rfl))⟩ fun s' c moved hc hS => ?_
  · have lt : i < ns.length := by
      rw [← many]
      exact (Array.getElem?_eq_some_iff.mp hv).1
    obtain ⟨t, e⟩ := IntsAre.int_at hi i v (by rw [Array.getElem?_toList]; exact hv)
    refine ⟨ns[i], t, List.getElem?_eq_getElem lt, ?_⟩
    rw [e, List.getD_eq_getElem?_getD, List.getElem?_eq_getElem lt]
    rfl
  · have e1 := moved.gens
    have e2 := moved.drawn
    have e3 := moved.os
    obtain ⟨h', g', d', tk', os'⟩ := s'
    cases e1
    cases e2
    cases e3
    refine h h' tk' c hS (by omega) fun b o e => moved.heap b o ?_ (Heap.get?_push_of_some _ (Heap.get?_push_of_some _ e))
    have lt := Heap.lt_size e
    simp only [List.mem_cons, List.not_mem_nil, or_false, not_or]
    rw [grown]
    exact ⟨Nat.ne_of_lt lt, Nat.ne_of_lt (Nat.lt_succ_of_lt lt)⟩
/-- what set.__init__(new set, list) does -/
theorem init_list {l : Addr} {items : Array Value} (ns : List Int) {Q : Shared → Prop} (hh : A.handled = none) (hl : s.heap.IsList l items) (hi : IntsAre items.toList ns) (hb : ns.length + 1 < scanBound)
    (h : ∀ (h' : Heap) (tk c : Nat), SetR w h' s.heap.objs.size (fun j => decide (j ∈ ns)) c → c ≤ ns.length → (∀ b o, s.heap.get? b = some o → h'.get? b = some o) → Q { s with heap := h', toks := tk }) :
    codeAny (model P w) A (.call (.builtin "set.__init__") ⟨[.ref s.heap.objs.size, .ref l], []⟩) (wants (fun r s₂ => r = .none ∧ Q s₂) E) { s with heap := s.heap.push (set0 w) } := by
  have at0 : (s.heap.push (set0 w)).get? s.heap.objs.size = some (set0 w) := Heap.get?_push_size _ rfl
  have ty : Shared.TypeIs { s with heap := s.heap.push (set0 w) } (.ref s.heap.objs.size) "set" := ⟨_, at0, rfl⟩
  have hl1 := hl.push (set0 w)
  refine codeAny_call_builtin F.called_set.init.plain F.entry_set_init (check_set_init_1 ty ?_)
  have go : ∀ {R : Result → Shared → Prop}, (∀ s', Q s' → R (.ok (.ret .none)) s') → codeAny (model P w) A.in1 (.builtin "set.update.loop" ⟨[.ref s.heap.objs.size, .ref (s.heap.push (set0 w)).objs.size], []⟩) R { s with heap := (s.heap.push (set0 w)).push { cls := .type "list_iterator", data := .fields #[.ref l, .int 0 0] } } := fun {R} k =>
    fill_list ns (by simp [hh]) hl hi hb fun h' tk c hS hc hk => k _ (h h' tk c hS hc hk)
  obtain ⟨ol, hol, hcl, nl, hdl⟩ := hl1
  obtain ⟨ocls, odict, odata, oslots⟩ := ol
  dsimp only at hcl hdl
  cases hcl
  cases hdl
  have noSet := F.sub_list_set
  have noFrozen := F.sub_list_frozenset
  have noDict : (Value.type "list" == Value.type "dict") = false := by decide
  unfold Builtin.«set.__init__» noKeywords Builtin.Frozenset.updateFrom
  generalize hPI : pyIter = PI
  wp_walk
  subst hPI
  refine wpAny_pyIter_list (hl.push (set0 w)) (wpAny_bind (wpAny_runValue (go fun s' q => ?_)))
  exact wpAny_pure (wpAny_pure ⟨rfl, q⟩)
theorem call_setL {l : Addr} {items : Array Value} (ns : List Int) {Q : Value → Shared → Prop} (hh : A.handled = none) (hl : s.heap.IsList l items) (hi : IntsAre items.toList ns) (hb : ns.length + 1 < scanBound)
    (h : ∀ (h' : Heap) (tk c : Nat), SetR w h' s.heap.objs.size (fun j => decide (j ∈ ns)) c → c ≤ ns.length → (∀ b o, s.heap.get? b = some o → h'.get? b = some o) → Q (.ref s.heap.objs.size) { s with heap := h', toks := tk }) :
    wpAny (model P w) A (call (.type "set") [.ref l]) Q E s := by
  have ft := F.called_set
  obtain ⟨c, tl, hmro⟩ := ft.mro
  have hmade := ft.made
  have hsub := ft.sub
  have hnt := ft.notType
  have hcc := ft.canCreate
  have hct := F.typeCall_set_1 (.ref l)
  have hli := ft.init.lookup
  have hbi := ft.init.bind (.ref s.heap.objs.size)
  have at0 : (s.heap.push (set0 w)).get? s.heap.objs.size = some (set0 w) := Heap.get?_push_size _ rfl
  have ty : Shared.TypeIs { s with heap := s.heap.push (set0 w) } (.ref s.heap.objs.size) "set" := ⟨_, at0, rfl⟩
  refine wpAny_call (codeAny_of_tree ?_)
  show wpAny _ _ (callAny (.type "set") _) _ _ _
  refine wpAny_pure ⟨Code.quiet_builtin _ (by decide +kernel), codeAny_builtin F.entry_type_call ?_⟩
  rw [Around.under_plain (weight_type_call_type "set" [.ref l] []) rfl]
  repeat (any_goals (first | assumption | wp_step))
  refine codeAny_mono (code_set_led1 (.ref l) (E := E) (Q₁ := fun obj s₁ => obj = .ref s.heap.objs.size ∧ s₁ = { s with heap := s.heap.push (set0 w) }) ⟨rfl, rfl⟩) fun r s₁ hr => ?_
  cases r with
  | error e => exact hr
  | ok fl =>
    cases fl with
    | next => exact hr.elim
    | brk => exact hr.elim
    | cont => exact hr.elim
    | ret obj =>
      obtain ⟨e1, e2⟩ := hr
      subst e1
      subst e2
      repeat (any_goals (first | assumption | wp_step))
      refine codeAny_mono (init_list ns (Q := fun s₂ => Q (.ref s.heap.objs.size) s₂) (E := E) (by simp [hh]) hl hi hb h) fun r₂ s₂ hr₂ => ?_
      cases r₂ with
      | error e => exact hr₂
      | ok fl₂ =>
        cases fl₂ with
        | next => exact hr₂.elim
        | brk => exact hr₂.elim
        | cont => exact hr₂.elim
        | ret r =>
          obtain ⟨e3, q⟩ := hr₂
          subst e3
          repeat (any_goals (first | assumption | wp_step))
end
/-- set(list) of whole numbers, fewer than a thousand -/
def rSetL (K : PySem.W.Frag) (w : World) : RC := fun xs H Q => ∃ (l : Addr) (ns : List Int), xs = [.ref l] ∧ SqL K H l (ns.map V.int) ∧ ns.length ≤ 1000 ∧ ∀ p c, H p = none → c ≤ ns.length → (∃ ks : List Int, ks.Nodup ∧ ks.length = c ∧ ∀ k ∈ ks, k ∈ ns) → Q (.ref p) (upd H p (SetO w p (fun j => decide (j ∈ ns)) c))
theorem setR_list {w : World} {h : Heap} {a : Addr} {ns : List Int} {c : Nat} (R : SetR w h a (fun j => decide (j ∈ ns)) c) : ∃ ks : List Int, ks.Nodup ∧ ks.length = c ∧ ∀ k ∈ ks, k ∈ ns := by
  obtain ⟨o, es, ep, t, _, _, _, _, nd, mem, _, _, sz, _⟩ := R
  refine ⟨es.toList.map keyOf, nd, by rw [List.length_map, Array.length_toList]; exact sz, fun k hk => of_decide_eq_true ((mem k).mpr hk)⟩
theorem cr_setL {X : Cx} (hc : X.calm = true) : CallR X (.type "set") (rSetL X.K X.w) := by
  intro pins s σ H xs us Q I r h
  obtain ⟨l, ns, rfl, hs, hl, q⟩ := h
  rw [Vals.ref1 r]
  obtain ⟨its, rv, pl, _⟩ := I.list hs
  refine call_setL ns (I.ok.hd hc) pl.isList (ints_of_vals rv) (by unfold scanBound; omega) fun h' tk c R hcn k => ?_
  exact ⟨.ref s.heap.objs.size, upd H s.heap.objs.size (SetO X.w s.heap.objs.size (fun j => decide (j ∈ ns)) c), I.laid (t' := tk) k (Nat.le_refl _) (setO_new R), rfl, q _ c (I.hok.fresh (Nat.le_refl _)) hcn (setR_list R)⟩
end U

set_option Elab.async false
set_option linter.all false
set_option maxRecDepth 100000
set_option maxHeartbeats 4000000
/-! list(reversed(a list)); a dict that a call made, walked; lists compared with []. -/
namespace U
open PySem PySem.Spec PyProof.Rows L2
section
variable {prog : Program} {w : World} {A : Around} {E : Value → Shared → Prop} {s : Shared}
/-- a list that is empty takes all that a walk from behind gives -/
theorem take_rev {it l S : Addr} {items : Array Value} {c₀ : Nat} {R : Result → Shared → Prop} (hh : A.handled = none) (hit : s.heap.IsRevIter it l ((items.size : Int) - 1)) (hl : s.heap.IsList l items) (hne : l ≠ it) (hn : items.size ≤ sizeLine)
    (hS : s.heap.get? S = some { cls := .type "list", data := .seq #[] c₀ }) (nSi : S ≠ it) (nSl : S ≠ l)
    (hR : ∀ (h' : Heap) (tk : Nat) (acc : Array Value) (c : Nat), (∀ b o, b ≠ it → b ≠ S → s.heap.get? b = some o → h'.get? b = some o) → h'.get? S = some { cls := .type "list", dict := none, data := .seq acc c, slots := #[] } → ItemsOf (fun i v => items[items.size - 1 - i]? = some v) acc items.size → R (.ok (.ret .none)) { s with heap := h', toks := tk }) :
    wpAny (model prog w) A.in1 (Builtin.List.listExtendWith (.ref S) (.ref it) .none)
      (fun fin s' => match fin with | .done f => R (.ok f) s' | .again c' => c'.quiet = true ∧ codeAny (model prog w) A c' R s') (fun e s' => R (.error e) s') s := by
  have ty : s.TypeIs (.ref it) "list_reverseiterator" := hit.typeIs
  have other : Builtin.List.listSameRef (.ref S) (.ref it) = false := by simp [Builtin.List.listSameRef, nSi]
  have far : S ∉ [it, l] := by simp only [List.mem_cons, List.not_mem_nil, or_false, not_or]; exact ⟨nSi, nSl⟩
  unfold Builtin.List.listExtendWith
  refine wpAny_bind (wpAny_typeOf ty ?_)
  rw [if_neg (by rw [other]; decide)]
  refine wpAny_bind (wpAny_pyIter_revIter hit (wpAny_bind (wpAny_holding ?_)))
  unfold Builtin.List.listLengthHint
  refine wpAny_bind (wpAny_specialOf ty RT.nolen_lri ?_)
  show wpAny _ A.in1 (specialOf (Value.ref it) (Str.ofString "__length_hint__") >>= _) _ _ _
  refine wpAny_bind (wpAny_specialOf ty RT.hint_lri ?_)
  generalize hid : ("list_reverseiterator.__length_hint__" : String) = id0
  wp_delta
  rw [show splitId id0 = some ("list_reverseiterator", "__length_hint__") from by subst hid; decide +kernel]
  subst hid
  refine wpAny_bind (wpAny_isInstance (b := true) ty (by rw [isSubtype_type]; kernel_rfl) (wpAny_pure ?_))
  rw [if_neg (by decide)]
  have z : ((items.size : Nat) : Int) - 1 - ((0 : Nat) : Int) = (items.size : Int) - 1 := by omega
  refine wpAny_pure ⟨plainId_quiet F.plain_extend_loop _, codeAny_extend_loopS ((Walks.listRev (prog := prog) (w := w) (A := A.in1) hh it l hne items).toS) hn _ far _ items.size 0 _ _ _ rfl (Nat.zero_le _) ⟨Nat.zero_le _, by rw [z]; exact hit, hl⟩ hS (ItemsOf.nil _) fun s' acc c moved at' got => ?_⟩
  rw [Moved.eq_with moved]
  refine hR s'.heap s'.toks acc c (fun b o b1 b2 e => moved.heap b o (fun m => ?_) e) at' got
  rcases List.mem_cons.mp m with e' | m
  · exact b2 e'
  · exact b1 (List.mem_singleton.mp m)
theorem call_list_rev {it l : Addr} {items : Array Value} {Q : Value → Shared → Prop} (hh : A.handled = none) (hit : s.heap.IsRevIter it l ((items.size : Int) - 1)) (hl : s.heap.IsList l items) (hne : l ≠ it) (hn : items.size ≤ sizeLine)
    (hQ : ∀ (h' : Heap) (tk : Nat) (acc : Array Value) (c : Nat), (∀ b o, b ≠ it → s.heap.get? b = some o → h'.get? b = some o) → h'.get? s.heap.objs.size = some { cls := .type "list", dict := none, data := .seq acc c, slots := #[] } → ItemsOf (fun i v => items[items.size - 1 - i]? = some v) acc items.size →
      Q (.ref s.heap.objs.size) { s with heap := h', toks := tk }) : wpAny (model prog w) A (call (.type "list") [.ref it]) Q E s := by
  obtain ⟨oi, hoi, _⟩ := id hit
  obtain ⟨ol, hol, _⟩ := id hl
  have li := Heap.lt_size hoi
  have ll := Heap.lt_size hol
  refine callType_codes (Q₁ := fun obj s₁ => obj = .ref s.heap.objs.size ∧ s₁ = { s with heap := s.heap.push { cls := .type "list", data := .seq #[] } }) F.called_list (F.typeCall_list_1 _) F.entry_list_init (code_list_new _ ⟨rfl, rfl⟩) fun obj s₁ h₁ => ?_
  obtain ⟨rfl, rfl⟩ := h₁
  have hS : (s.heap.push { cls := .type "list", data := .seq #[] }).get? s.heap.objs.size = some { cls := .type "list", data := .seq #[] } := Heap.get?_push_size _ rfl
  refine ⟨⟨_, hS, rfl⟩, F.args_list_init_2 _ _, ?_⟩
  show wpAny _ A.in1.in1 (do let old ← Builtin.List.listItems (.ref s.heap.objs.size); Builtin.List.listUpdate (.ref s.heap.objs.size) (fun _ => #[]); letGo old.toList.reverse; Builtin.List.listExtendWith (.ref s.heap.objs.size) (.ref it) .none) _ _ _
  refine wpAny_bind ?_
  unfold Builtin.List.listItems
  refine wpAny_bind (wpAny_seqItems hS rfl (wpAny_pure ?_))
  refine wpAny_bind (wpAny_updateSeq hS rfl ?_)
  have hS2 := Heap.get?_update_self (Obj.mapSeq (fun _ => (#[] : Array Value))) hS rfl
  refine wpAny_bind (wpAny_letGo ?_)
  have keep : ∀ b o, s.heap.get? b = some o → ((s.heap.push { cls := .type "list", data := .seq #[] }).update s.heap.objs.size (Obj.mapSeq fun _ => (#[] : Array Value))).get? b = some o := fun b o e =>
    (Heap.get?_update_other _ _ (Nat.ne_of_gt (Heap.lt_size e))).trans (Heap.get?_push_of_some _ e)
  refine take_rev (A := A.in1) (by simpa using hh) (hit.at fun o e => keep it o e) (hl.at fun o e => keep l o e) hne hn hS2 (Nat.ne_of_gt li) (Nat.ne_of_gt ll) fun h' tk acc c k at' got => ?_
  exact ⟨rfl, hQ h' tk acc c (fun b o nb e => k b o nb (Nat.ne_of_lt (Heap.lt_size e)) (keep b o e)) at' got⟩
end
/-- list(reversed(x)), x a list: a new list -/
def tLstRev (K : PySem.W.Frag) (te : TE) : TE := fun σ H Q => te σ H fun v H1 => ∃ (a : Addr) (xs : List V), v = .ref a ∧ SqL K H1 a xs ∧ ∀ q, H1 q = none → Q (.ref q) (upd H1 q (.lst xs.reverse))
theorem pe_lstRev {X : Cx} {e : Expr} {te : TE} {p p2 pos pos2 : Pos} (hc : X.calm = true) (hg : Gl X "list") (hm : X.mg "list" = none) (hg2 : Gl X "reversed") (hm2 : X.mg "reversed" = none) (he : PE X e te)
    (hs : starEach [e] X.env = (false, eval e X.env) :: starEach [] X.env := by rfl)
    (hs2 : starEach [.Call (.Name "reversed" p2) [e] [] pos2] X.env = (false, eval (.Call (.Name "reversed" p2) [e] [] pos2) X.env) :: starEach [] X.env := by rfl) :
    PE X (.Call (.Name "list" p) [.Call (.Name "reversed" p2) [e] [] pos2] [] pos) (tLstRev X.K te) := by
  refine ⟨fun pins s σ H Q I h => ?_⟩
  refine Call_ (ld_blt I hg hm boot_list (callWith_type1 (args_cons (Call_ (ld_blt I hg2 hm2 boot_reversed (callWith_type1 (args_cons (thn (he.run pins s σ H _ I h) fun u s1 hu => args_nil ?_) hs) hs rfl))) hs2) hs2 rfl))
  obtain ⟨v, H1, J, r1, a, xs, rfl, hq, q⟩ := hu
  obtain rfl : u = Value.ref a := r1
  obtain ⟨its, rv, pl, hz⟩ := J.list hq
  refine call_reversed_list pl.isList (args_nil ?_)
  obtain ⟨ol, hol, _⟩ := id pl.isList
  refine call_list_rev (s := { s1 with heap := s1.heap.push (revObj a ((its.toArray.size : Int) - 1)) }) (J.ok.hd hc) ⟨_, Heap.get?_push_size _ rfl, rfl, rfl⟩ (pl.isList.push _) (Nat.ne_of_lt (Heap.lt_size hol)) (by rw [List.size_toArray, ← rv.length]; exact hz) fun h' tk acc c k at' got => ?_
  have big : s1.heap.objs.size ≤ (s1.heap.push (revObj a ((its.toArray.size : Int) - 1))).objs.size := by
    rw [Heap.size_push]
    exact Nat.le_succ _
  refine ⟨.ref _, upd H1 _ (.lst xs.reverse), J.laid (t' := tk) (fun b o e => k b o (Nat.ne_of_lt (Heap.lt_size e)) (Heap.get?_push_of_some _ e)) big
    (show ObjOk X.prog X.w _ _ _ (.lst xs.reverse) from ⟨by rw [List.length_reverse]; exact hz, acc.toList, c, RT.vals_rev rv got, by rw [Array.toArray_toList]; exact at'⟩), rfl, q _ (J.hok.fresh big)⟩
/-- a dict that an expression gives, locked from then on -/
def tLocked (td : TE) : TE := fun σ H Q => td σ H fun x H1 => ∃ d kvs, x = .ref d ∧ H1 d = some (.dK kvs) ∧ ∀ o, Q x (upd H1 d (.frz o (.dK kvs)))
theorem pe_locked {X : Cx} {e : Expr} {td : TE} (he : PE X e td) : PE X e (tLocked td) := by
  refine ⟨fun pins s σ H Q I h => thn (he.run pins s σ H _ I h) fun u s1 hu => ?_⟩
  obtain ⟨x, H1, J, rx, d, kvs, ex, hd, q⟩ := hu
  obtain ⟨od, J2⟩ := J.lock hd trivial
  exact ⟨x, _, J2, rx, q od⟩
/-- a list compared with a list that may be empty: only when one of them is -/
def rEqL0 (K : PySem.W.Frag) : R2 := fun x y H Q => ∃ a b xs, x = .ref a ∧ y = .ref b ∧ SqL K H a xs ∧ SqL K H b [] ∧ Q (.bl xs.isEmpty) H
theorem op_eqL0 {X : Cx} (hu : X.A.units + 100 < cLine) : OpR X (compareOp .Eq) (rEqL0 X.K) := by
  intro pins s σ H x y v u Q I rx ry h
  obtain ⟨a, b, xs, rfl, rfl, ha, hb, q⟩ := h
  cases (show v = Value.ref a from rx)
  cases (show u = Value.ref b from ry)
  obtain ⟨us, r1, p1, _⟩ := I.list ha
  obtain ⟨ws, r2, p2, _⟩ := I.list hb
  cases xs with
  | nil =>
    have e1 : us = [] := List.length_eq_zero_iff.mp r1.length.symm
    have e2 : ws = [] := List.length_eq_zero_iff.mp r2.length.symm
    subst e1
    subst e2
    refine SeqAt.rcP_lists (e := fun _ => true) p1.isList p2.isList rfl (by omega) (fun j h1 => absurd h1 (Nat.not_lt_zero j)) _ _ ?_
    exact ⟨.bl true, H, I, rfl, q⟩
  | cons z zs =>
    refine SeqAt.RcAt.lists_lengths p1.isList p2.isList ?_ (by omega) _ _ _ _ ⟨.bl false, H, I, rfl, q⟩
    have l1 := r1.length
    have l2 := r2.length
    rw [List.size_toArray, List.size_toArray, ← l1, ← l2]
    rfl
theorem hu100 {k : Nat} {A : Around} (hr : Room k A) : A.units + 100 < cLine := by
  have := hr.un
  omega
abbrev rSortedDI : RC := fun xs H Q => ∃ (a : Addr) (kvs : List (Key × V)) (ks : List Int), xs = [.ref a] ∧ Rd H a (.dK kvs) ∧ kvs.map (·.1) = ks.map Sum.inl ∧ ks.length < 64 ∧
  ∀ (ys : List Int) (p : Addr), ys.Perm ks → ys.Pairwise (· ≤ ·) → H p = none → Q (.ref p) (upd H p (.lst (ys.map V.int)))
end U

set_option Elab.async false
set_option linter.all false
set_option maxRecDepth 100000
set_option maxHeartbeats 4000000
/-! d.items() as a value; sorted(d.items()), whole numbers as keys. -/
namespace U
open PySem PySem.Spec PyProof.Rows L2
open PySem.W (KatTups KatLex kat_lt kat_cons kat_go kat_yes kat_no kat_nil kat_kind)
def tItemsV (td : TE) : TE := fun σ H Q => td σ H fun x H1 => ∃ d kvs, x = .ref d ∧ Rd H1 d (.dK kvs) ∧ ∀ p, H1 p = none → Q (.ref p) (upd H1 p (DX.itemsO p d))
theorem raw_of {P : Program} {w : World} {H : Hp} {h : Heap} {d : Addr} {kvs : List (Key × V)} (ok : HOk P w H h) (hd : Rd H d (.dK kvs)) : kvs.length ≤ sizeLine ∧ (d == sysModules) = false ∧ ∃ (vs : List (Key × Value)) (es : Array DictEntry) (ep : Nat), KV kvs vs ∧ DT.Raw h d es ep ∧ Pairs (mixKind P w) es.toList vs := by
  obtain ⟨z, hs, vs, rel, o, es, ep, h1, h2, h3, _, h5, _⟩ := dk_rd ok hd
  exact ⟨z, hs, vs, es, ep, rel, ⟨o, h1, h2, h3⟩, h5⟩
theorem pe_itemsV {X : Cx} {e : Expr} {td : TE} {apos cpos : Pos} (he : PE X e td) (hbase : attributeBase e "items" X.env (eval e X.env) = eval e X.env := by rfl) (hline : (apos.endLine == cpos.line) = true := by rfl) : PE X (.Call (.Attribute e "items" apos) [] [] cpos) (tItemsV td) := by
  refine ⟨fun pins s σ H Q I h => ?_⟩
  refine wpAny_Call_method (T := "dict") (id := "dict.items") hbase rfl hline F.plainAttrs_dict F.slot_dict_items F.type_dict_items (thn (he.run pins s σ H _ I h) fun u s1 ⟨x, H1, I1, rx, d, kvs, ex, hd, q⟩ => ?_)
  subst ex
  obtain rfl : u = Value.ref d := rx
  obtain ⟨_, hs, vs0, _, dd⟩ := dk_rd I1.hok hd
  obtain ⟨z, _, vs, es, ep, rel, raw, _⟩ := raw_of I1.hok hd
  refine ⟨dd.typeIs, dd.mapOf.noDict, ?_⟩
  have ho : (s1.heap.push { cls := .type "dict_items", data := .fields #[.ref d] }).get? s1.heap.objs.size = some { cls := .type "dict_items", data := .fields #[.ref d] } := Heap.get?_push_size _ rfl
  have I2 : Inv X pins σ (upd H1 s1.heap.objs.size (DX.itemsO s1.heap.objs.size d)) { s1 with heap := s1.heap.push { cls := .type "dict_items", data := .fields #[.ref d] } } :=
    I1.laid (t' := s1.toks) (fun b ob q => Heap.get?_push_of_some _ q) (Nat.le_refl _) (DX.itemsO_ok ho)
  show wpAny _ _ (callWith cpos (.builtin "dict.items") [.ref d] [] []) _ X.xe s1
  exact method_meetsIn F.slot_dict_items F.entry_dict_items rfl (PySem.evalArgs_none ⟨rfl, dd.typeIs, F.args_dict_items_1 _, _, DT.meetsItems (es := es) (ep := ep) hs, raw, ⟨.ref s1.heap.objs.size, _, I2, rfl, q _ (I1.hok.fresh (Nat.le_refl _))⟩⟩)
/-! ### the sort -/
def numAt : List Addr → List Int → Addr → Option Int
  | a :: as, k :: ks, b => if a = b then some k else numAt as ks b
  | _, _, _ => none
theorem numAt_of : ∀ {as : List Addr} {ks : List Int} {j : Nat} {b : Addr} {k : Int}, as.Nodup → as[j]? = some b → ks[j]? = some k → numAt as ks b = some k
  | a :: as, k0 :: ks, 0, b, k, _, h1, h2 => by
    cases h1
    cases h2
    exact if_pos rfl
  | a :: as, k0 :: ks, j + 1, b, k, nd, h1, h2 => by
    rw [List.nodup_cons] at nd
    have hb : as[j]? = some b := h1
    have : a ≠ b := fun e => nd.1 (by rw [e]; exact List.mem_of_getElem? hb)
    show (if a = b then some k0 else numAt as ks b) = some k
    rw [if_neg this]
    exact numAt_of nd.2 hb h2
theorem numAt_back : ∀ {as : List Addr} {ks : List Int} {b : Addr} {k : Int}, numAt as ks b = some k → ∃ j : Nat, as[j]? = some b ∧ ks[j]? = some k
  | [], _, _, _, h => by cases h
  | a :: as, [], _, _, h => by cases h
  | a :: as, k0 :: ks, b, k, h => by
    by_cases c : a = b
    · have : (if a = b then some k0 else numAt as ks b) = some k := h
      rw [if_pos c] at this
      cases this
      exact ⟨0, by rw [c]; rfl, rfl⟩
    · have : (if a = b then some k0 else numAt as ks b) = some k := h
      rw [if_neg c] at this
      obtain ⟨j, h1, h2⟩ := numAt_back this
      exact ⟨j + 1, h1, h2⟩
def refNum (as : List Addr) (ks : List Int) : Value → Option Int
  | .ref b => numAt as ks b
  | _ => none
@[reducible] def numKind (as : List Addr) (ks : List Int) : PyProof.Rows.KeyKind where
  α := Int
  blt a b := decide (a < b)
  irrefl a := decide_eq_false (Int.lt_irrefl a)
  trans a b c h1 h2 := decide_eq_true (Int.lt_trans (of_decide_eq_true h1) (of_decide_eq_true h2))
  negTrans a b c h := by
    have := of_decide_eq_true h
    by_cases z : a < b
    · exact .inl (decide_eq_true z)
    · exact .inr (decide_eq_true (by omega))
  total a b h1 h2 := by
    have := of_decide_eq_false h1
    have := of_decide_eq_false h2
    omega
  keyOf := refNum as ks
  dflt := 0
/-- what the sort compares: a number, anything -/
structure PrsAt (h : Heap) (as : List Addr) (ks : List Int) (qs : List Addr) : Prop where
  ad : as.Nodup
  kd : ks.Nodup
  at_ : ∀ (j : Nat) (b : Addr), as[j]? = some b → ∃ (i : Int) (t : Tok) (q : Addr), ks[j]? = some i ∧ qs[j]? = some q ∧ h.get? b = some { cls := .type "tuple", data := .seq #[.int i t, .ref q] }
theorem PrsAt.keep {h h' : Heap} {as : List Addr} {ks : List Int} {qs : List Addr} (x : PrsAt h as ks qs) (k : ∀ b o, h.get? b = some o → o.cls = .type "tuple" → h'.get? b = some o) : PrsAt h' as ks qs :=
  ⟨x.ad, x.kd, fun j b hj => by
    obtain ⟨i, t, q, h1, h2, h3⟩ := x.at_ j b hj
    exact ⟨i, t, q, h1, h2, k _ _ h3 rfl⟩⟩
section
variable {prog : Program} {w : World} {A : Around} {E : Value → Shared → Prop} {s : Shared}
theorem eqBool_one {q : Addr} {Q : Bool → Shared → Prop} (h : Q true s) : wpAny (model prog w) A (eqBool (.ref q) (.ref q)) Q E s := by
  unfold eqBool
  refine wpAny_holding ?_
  show wpAny _ _ (if (Value.ref q == Value.ref q) = true then _ else _) Q E s
  rw [if_pos (by simp)]
  exact wpAny_bind (wpAny_rule (wpAny_pure h))
theorem prs_lt {as : List Addr} {ks : List Int} {qs : List Addr} (x : PrsAt s.heap as ks qs) : PyProof.Rows.G.LtAt prog w s (numKind as ks) (tuples' true) := by
  intro A E u v a b Q hu hv hq
  cases u with
  | ref bu =>
    cases v with
    | ref bv =>
      obtain ⟨i, i1, i2⟩ := numAt_back (show numAt as ks bu = some a from hu)
      obtain ⟨j, j1, j2⟩ := numAt_back (show numAt as ks bv = some b from hv)
      obtain ⟨a', t, q, e1, e2, e3⟩ := x.at_ i bu i1
      obtain ⟨b', t', q', f1, f2, f3⟩ := x.at_ j bv j1
      obtain rfl : a = a' := Option.some.inj (i2.symm.trans e1)
      obtain rfl : b = b' := Option.some.inj (j2.symm.trans f1)
      have hq : Q (decide (a < b)) s := hq
      refine kat_lt e3 rfl f3 rfl ?_
      show KatLex prog w A true false Q [(Value.int a t, Value.int b t'), (Value.ref q, Value.ref q')] 0 s
      refine kat_cons (wpAny_eqBool_int (kat_go (fun e => ?_) fun e => ?_))
      · have e : a = b := eq_of_beq e
        subst e
        have ij : i = j := (List.getElem?_inj (List.getElem?_eq_some_iff.mp e1).1 x.kd).mp (e1.trans f1.symm)
        subst ij
        obtain rfl : q = q' := Option.some.inj (e2.symm.trans f2)
        rw [decide_eq_false (Int.lt_irrefl a)] at hq
        exact kat_yes (kat_cons (eqBool_one (kat_go (fun _ => kat_yes (kat_nil hq)) fun e => by cases e)))
      · refine kat_no ?_
        show wpAny _ _ (oneLt' true _ _) _ _ _
        exact oneLt_int hq
    | _ => cases hv
  | _ => cases hu
theorem prs_firsts {h : Heap} : ∀ (as : List Addr), (∀ b ∈ as, ∃ (i : Int) (t : Tok) (q : Addr), h.get? b = some { cls := .type "tuple", data := .seq #[.int i t, .ref q] }) → ∃ fs : List Value, KatTups h (as.map Value.ref) fs ∧ fs.length = as.length ∧ ∀ f ∈ fs, ∃ i t, f = Value.int i t
  | [], _ => ⟨[], .nil, rfl, fun f hf => by cases hf⟩
  | b :: as, x => by
    obtain ⟨fs, k, hl, hi⟩ := prs_firsts as fun c hc => x c (List.mem_cons_of_mem _ hc)
    obtain ⟨i, t, q, e⟩ := x b (List.mem_cons_self ..)
    refine ⟨.int i t :: fs, KatTups.cons e rfl rfl rfl k, by rw [List.length_cons, List.length_cons, hl], fun f hf => ?_⟩
    rcases List.mem_cons.mp hf with rfl | hf
    · exact ⟨i, t, rfl⟩
    · exact hi f hf
theorem prs_kind {as : List Addr} {ks : List Int} {qs : List Addr} {Q : SortKind → Shared → Prop} (h2 : 2 ≤ (as.map Value.ref).length) (x : PrsAt s.heap as ks qs) (h : Q (tuples' true) s) : wpAny (model prog w) A (keyKind' (as.map Value.ref).toArray) Q E s := by
  obtain ⟨fs, k, hl, hi⟩ := prs_firsts as fun b hb => by
    obtain ⟨j, hj⟩ := List.mem_iff_getElem?.mp hb
    obtain ⟨i, t, q, _, _, e⟩ := x.at_ j b hj
    exact ⟨i, t, q, e⟩
  rw [List.length_map] at h2
  refine kat_kind (T := Value.type "int") k (by omega) (fun f hf => ?_) rfl h
  obtain ⟨i, t, rfl⟩ := hi f hf
  exact PySem.W.Looks.of_pure rfl
end
/-! ### the rule -/
def keyNum : Key → Int
  | .inl i => i
  | .inr _ => 0
/-- sorted(d.items()): whole numbers as keys, objects as values; each pair is a new tuple -/
def rSortIt : RC := fun xs H Q => ∃ (p a : Addr) (kvs : List (Key × V)) (ks : List Int) (qs : List Addr), xs = [.ref p] ∧ H p = some (DX.itemsO p a) ∧ Rd H a (.dK kvs) ∧ kvs = (ks.zip qs).map (fun z => (Sum.inl z.1, V.ref z.2)) ∧ ks.length = qs.length ∧ ks.Nodup ∧
  ∀ (H' : Hp) (l : Addr) (zs : List (Addr × (Int × Addr))), Same H H' → H l = none → (zs.map (·.2)).Perm (ks.zip qs) → (zs.map (·.2)).Pairwise (fun e f => e.1 ≤ f.1) → H' l = some (.lst (zs.map fun z => V.ref z.1)) →
    (∀ z ∈ zs, H z.1 = none ∧ H' z.1 = some (.tup [.int z.2.1, .ref z.2.2])) → Q (.ref l) H'
theorem pairs_at {P : Program} {w : World} : ∀ {es : List DictEntry} {vs : List (Key × Value)}, Pairs (mixKind P w) es vs → ∀ {j : Nat} {e : DictEntry}, es[j]? = some e → ∃ kv, vs[j]? = some kv ∧ keyIs kv.1 e.key = true ∧ e.val = kv.2
  | _, _, .nil, j, e, h => by cases h
  | _, _, .cons h1 h2 r, 0, e, h => by
    cases h
    exact ⟨_, rfl, h1, h2⟩
  | _, _, .cons h1 h2 r, j + 1, e, h => pairs_at r (j := j) h
theorem cr_sortIt {X : Cx} (hc : X.calm = true) : CallR X (.builtin "sorted") rSortIt := by
  intro pins s σ H xs us Q I r h
  obtain ⟨p, a, kvs, ks, qs, rfl, hp, ha, ekv, lkq, knd, q⟩ := h
  obtain rfl := Vals.ref1 r
  have view : s.heap.IsItemsView p a := (show ObjOk X.prog X.w H s.heap p (DX.itemsO p a) from I.hok p _ hp).1
  obtain ⟨z, _, vs, es, ep, rel, raw, prs⟩ := raw_of I.hok ha
  have lk : kvs.length = ks.length := by rw [ekv, List.length_map, List.length_zip, ← lkq, Nat.min_self]
  have lv : kvs.length = vs.length := Paired.length rel
  have le : es.size = vs.length := by
    rw [← Array.length_toList]
    exact prs.length
  refine DT.sortedI (es := es) (ep := ep) (I.ok.hd hc) view raw (by omega) fun h' tk as hk hlt hl hG => ?_
  have nd : as.Nodup := List.Pairwise.imp (fun h => Nat.ne_of_lt h) hG.rise
  have lak : as.length = ks.length := by omega
  -- the pairs that were made
  have pr : PrsAt h' as ks qs := ⟨nd, knd, fun j b hj => by
    obtain ⟨e, he, hg⟩ := hG.pairs j b hj
    obtain ⟨kv, hkv, e1, e2⟩ := pairs_at prs (j := j) (e := e) (by rw [Array.getElem?_toList]; exact he)
    obtain ⟨kv0, h0, r1, r2⟩ := DX.pget rel hkv
    rw [ekv, List.getElem?_map] at h0
    cases hz : (ks.zip qs)[j]? with
    | none => rw [hz] at h0; cases h0
    | some y =>
      rw [hz] at h0
      cases h0
      obtain ⟨h1, h2⟩ := List.getElem?_zip_eq_some.mp hz
      have r1 : Sum.inl y.1 = kv.1 := r1
      have r2 : kv.2 = Value.ref y.2 := r2
      rw [← r1] at e1
      rcases keyIs_shape e1 with ⟨i, t, ek, ev⟩ | ⟨z, t, ek, ev⟩
      · cases ek
        refine ⟨y.1, t, y.2, h1, h2, ?_⟩
        rw [hg, ev, e2, r2]
      · cases ek⟩
  -- the heap of the sort
  have hob : (h'.push { cls := .type "list", data := .seq (as.map Value.ref).toArray }).get? h'.objs.size = some (seqObj "list" (as.map Value.ref).toArray 0) := Heap.get?_push_size _ rfl
  have kb : ∀ b o, s.heap.get? b = some o → (h'.push { cls := .type "list", data := .seq (as.map Value.ref).toArray }).get? b = some o := fun b o e => Heap.get?_push_of_some _ (hk b o e)
  have ne0 : ∀ b o, h'.get? b = some o → b ≠ h'.objs.size := fun b o e => Nat.ne_of_lt (Heap.lt_size e)
  have ka : ∀ b o, h'.get? b = some o → (h'.push { cls := .type "list", data := .seq (as.map Value.ref).toArray }).get? b = some o := fun b o e => Heap.get?_push_of_some _ e
  generalize h'.push { cls := .type "list", data := .seq (as.map Value.ref).toArray } = h2 at hob kb ka ⊢
  have pr6 : PrsAt (PyProof.Rows.G.sortHeap6 h2 h'.objs.size (as.map Value.ref)) as ks qs := (pr.keep fun b o e _ => ka b o e).keep (PyProof.Rows.G.keeps_sort6 hob)
  have keyed : KeysOf (numKind as ks) (pairsOf (as.map Value.ref)) := by
    intro y hy
    rw [pairsOf_toList] at hy
    obtain ⟨b, hb, e⟩ := List.mem_map.mp (mem_zip_self hy).2
    obtain ⟨j, hj⟩ := List.mem_iff_getElem?.mp hb
    obtain ⟨i, _, _, h1, _⟩ := pr.at_ j b hj
    refine ⟨i, ?_⟩
    rw [← e]
    exact numAt_of nd hj h1
  refine wpAny_call_entry PyProof.Rows.slot_list_sort ⟨_, hob, rfl⟩ PyProof.Rows.entry_list_sort
    (PyProof.Rows.G.list_sort_treeG (s := { s with heap := h2, toks := tk }) (κ := numKind as ks) (kd := tuples' true) hob keyed (prs_lt (s := { s with heap := PyProof.Rows.G.sortHeap6 h2 h'.objs.size (as.map Value.ref), toks := tk }) pr6)
      (fun h2' _ hQ => prs_kind (s := { s with heap := PyProof.Rows.G.sortHeap6 h2 h'.objs.size (as.map Value.ref), toks := tk }) h2' pr6 hQ) (by rw [List.length_map, sizeLine_eq]; rw [sizeLine_eq] at z; omega) fun st' o2 o3 _ => ⟨.none, rfl, ?_⟩) (PyProof.Rows.args_list_sort _)
  show EP X pins σ Q (.ref h'.objs.size) { s with heap := sortedHeap h2 h'.objs.size (as.map Value.ref) ((arrOf st').map (·.2)), toks := tk }
  have o2l : (arrOf st').toList.Perm ((as.map Value.ref).zip (as.map Value.ref)) := by
    rw [← pairsOf_toList]
    exact o2.toList
  have lz : as.length = (ks.zip qs).length := by rw [List.length_zip, ← lkq, Nat.min_self, lak]
  obtain ⟨zs, pz, ez⟩ := perm_lift (fun z : Addr × (Int × Addr) => (Value.ref z.1, Value.ref z.1)) o2l (as.zip (ks.zip qs)) (DX.zip_self Value.ref as (ks.zip qs) lz)
  have idx : ∀ z ∈ zs, ∃ j : Nat, as[j]? = some z.1 ∧ (ks.zip qs)[j]? = some z.2 := fun z hz => by
    obtain ⟨j, hj⟩ := List.mem_iff_getElem?.mp (pz.mem_iff.mp hz)
    exact ⟨j, List.getElem?_zip_eq_some.mp hj⟩
  have hout : ((arrOf st').map (·.2)).toList = zs.map fun z => Value.ref z.1 := by
    rw [Array.toList_map, ← ez, List.map_map]
    rfl
  have hperm : (zs.map (·.2)).Perm (ks.zip qs) := by
    have e := pz.map (·.2)
    have m2 : (as.zip (ks.zip qs)).map (·.2) = ks.zip qs := List.map_snd_zip (by rw [lz]; exact Nat.le_refl _)
    rw [m2] at e
    exact e
  have hsort : (zs.map (·.2)).Pairwise (fun e f => e.1 ≤ f.1) := by
    have k2 : KeysOf (numKind as ks) (arrOf st') := fun y hy => keyed y (by rw [pairsOf_toList]; exact o2l.mem_iff.mp hy)
    have s2 : SortedToK (numKind as ks) (arrOf st') (arrOf st').size := by
      rw [o2.size_eq]
      exact o3
    have s3 := keyLe_of_sorted k2 s2
    rw [← ez, List.pairwise_map] at s3
    rw [List.pairwise_map]
    refine List.Pairwise.imp_of_mem (fun {x y} hx hy h => ?_) s3
    obtain ⟨i, i1, i2⟩ := idx x hx
    obtain ⟨j, j1, j2⟩ := idx y hy
    obtain ⟨u, v, eu, ev, le⟩ := h
    have eu : numAt as ks x.1 = some u := eu
    have ev : numAt as ks y.1 = some v := ev
    rw [numAt_of nd i1 (List.getElem?_zip_eq_some.mp i2).1] at eu
    rw [numAt_of nd j1 (List.getElem?_zip_eq_some.mp j2).1] at ev
    cases eu
    cases ev
    have le : decide (y.2.1 < x.2.1) = false := le
    have := of_decide_eq_false le
    omega
  generalize (arrOf st').map (·.2) = out at hout ⊢
  -- behind the sort
  have kF : ∀ b o, b ≠ h'.objs.size → h2.get? b = some o → (sortedHeap h2 h'.objs.size (as.map Value.ref) out).get? b = some o := fun b o hb e => (PyProof.Rows.sortedHeap_old hb (Heap.lt_size e)).trans e
  have kS : ∀ b o, s.heap.get? b = some o → (sortedHeap h2 h'.objs.size (as.map Value.ref) out).get? b = some o := fun b o e => kF b o (ne0 _ _ (hk b o e)) (kb b o e)
  obtain ⟨eF, heF⟩ := PyProof.Rows.sortedHeap_at (vs := as.map Value.ref) (out := out) hob
  have I1 : Inv X pins σ H { s with heap := sortedHeap h2 h'.objs.size (as.map Value.ref) out, toks := tk } := I.kept (t' := tk) kS
  have hn0 : H h'.objs.size = none := I.hok.fresh (Nat.le_of_lt hlt)
  have hlen : (zs.map fun z => V.ref z.1).length ≤ sizeLine := by
    have e := hperm.length_eq
    rw [List.length_map] at e
    rw [List.length_map]
    omega
  have rv : Vals (zs.map fun z => V.ref z.1) out.toList := by
    rw [hout]
    exact vals_maps (fun z : Addr × (Int × Addr) => V.ref z.1) (fun z => Value.ref z.1) zs fun _ _ => rfl
  have I2 : Inv X pins σ (upd H h'.objs.size (.lst (zs.map fun z => V.ref z.1))) { s with heap := sortedHeap h2 h'.objs.size (as.map Value.ref) out, toks := tk } :=
    I1.take (h' := sortedHeap h2 h'.objs.size (as.map Value.ref) out) (t' := tk) (fun b ob _ e => e) (I.fpOk (Nat.le_of_lt hlt) hn0) ⟨hlen, out.toList, eF, rv, heF⟩
  obtain ⟨H2, I3, g, qt⟩ := DX.takeT (P := fun b vs => ∃ (j : Nat) (e : Int × Addr), as[j]? = some b ∧ (ks.zip qs)[j]? = some e ∧ vs = [.int e.1, .ref e.2]) I as _ I2 nd fun b hb => by
    obtain ⟨j, hj⟩ := List.mem_iff_getElem?.mp hb
    obtain ⟨i, t, y, h1, h3, hg⟩ := pr.at_ j b hj
    have hbl : s.heap.objs.size ≤ b := Nat.le_of_lt (hG.above b hb)
    refine ⟨hbl, ?_, [.int i, .ref y], ⟨j, (i, y), hj, List.getElem?_zip_eq_some.mpr ⟨h1, h3⟩, rfl⟩, fun H3 => ⟨(by show 2 ≤ sizeLine; decide), [Value.int i t, Value.ref y], .cons ⟨t, rfl⟩ (.cons rfl .nil), ⟨_, kF _ _ (ne0 _ _ hg) (ka _ _ hg), rfl, 0, rfl⟩⟩⟩
    rw [upd_ne (ne0 _ _ hg)]
    exact I.hok.fresh hbl
  have gr : Same H H2 := fun b o e => g b o (by rw [upd_ne (ne_of_none e hn0)]; exact e)
  refine ⟨.ref h'.objs.size, H2, I3, rfl, q H2 h'.objs.size zs gr hn0 hperm hsort (g _ _ upd_same) fun y hy => ?_⟩
  obtain ⟨i, i1, i2⟩ := idx y hy
  obtain ⟨vs, ⟨j, e, j1, j2, ev⟩, hH⟩ := qt y.1 (List.mem_of_getElem? i1)
  have eij : i = j := (List.getElem?_inj (List.getElem?_eq_some_iff.mp i1).1 nd).mp (i1.trans j1.symm)
  subst eij
  obtain rfl : e = y.2 := Option.some.inj (j2.symm.trans i2)
  rw [ev] at hH
  exact ⟨I.hok.fresh (Nat.le_of_lt (hG.above _ (List.mem_of_getElem? i1))), hH⟩
end U

set_option Elab.async false
set_option linter.all false
set_option maxRecDepth 100000
set_option maxHeartbeats 4000000
/-! Defs that run while no repr is under way: the promise FnG is FnOk's, with the one thing more that is known of what stands around (no guard), so that repr of lists, tuples and dicts can be told within. -/
namespace U
open PySem PySem.Spec PyProof.Rows L2
theorem guards_deeper {A : Around} {env : Env} (h : A.guards = some []) : (A.deeper env).guards = some [] := by
  first | exact h | (simp [Around.deeper, h])
structure FnG (P : Program) (w : World) (K : PySem.W.Frag) (mg : Str → Option Value) (base : Heap) (CX : CXT) (k : Nat) (f : Addr) (fd : FuncData) (ps : List Str) (sp : Sp) : Prop where
  len : ∀ vs H Q E, sp vs H Q E → vs.length = ps.length
  run : ∀ (A : Around) (outer : List Env) (s : Shared) (H : Hp) (args : Args) (us : List Value) (vs : List V) (Q : VK) (E : XK), Room k A → A.guards = some [] → Env0 P w K mg base A outer s H → BindsTo s fd args (ps.zip us) → Vals vs us → sp vs H Q E →
    codeAny (model P w) A (.call (.ref f) args) (CR CX outer P w H s Q E) s
theorem FnG.of {P : Program} {w : World} {K : PySem.W.Frag} {mg : Str → Option Value} {base : Heap} {CX : CXT} {k : Nat} {f : Addr} {fd : FuncData} {ps : List Str} {sp : Sp} (F : FnOk P w K mg base CX k f fd ps sp) : FnG P w K mg base CX k f fd ps sp :=
  ⟨F.len, fun A outer s H args us vs Q E hr _ => F.run A outer s H args us vs Q E hr⟩
section
variable {P : Program} {w : World} {K : PySem.W.Frag} {mg : Str → Option Value} {base : Heap} {CX : CXT} {k : Nat} {x qual : Str} {params : Arguments} {body : List Stmt} {scope : Scope} {dvs : List V} {kws : List (Str × V)} {f : Addr} {fd : FuncData} {N ps : List Str} {sp : Sp}
theorem okG (F : FunD K x qual params body scope dvs kws f fd) (S : FnScope N ps scope) (len : ∀ vs H Q E, sp vs H Q E → vs.length = ps.length)
    (hbody : ∀ (cdv : Value) (A : Around) (outer : List Env) (s : Shared) (H : Hp) (vs : List V) (Q : VK) (E : XK), Room k (A.deeper (envOfC qual scope s.heap.objs.size f cdv)) → (A.deeper (envOfC qual scope s.heap.objs.size f cdv)).guards = some [] → sp vs H Q E →
      ∃ t, PSs (cxOf CX P w K mg base N qual scope f cdv A outer s H E) body t ∧ t { nx := fun _ H' => Q .non H', rt := Q } (start N vs) H) : FnG P w K mg base CX (k + 1) f fd ps sp := by
  obtain ⟨oc, od, dV, kV, doc, pm, an, cdv, ct, osl, rfl, lk, hcd, _, _⟩ := F.ex
  refine ⟨len, fun A outer s H args us vs Q E hr hg e0 hb r hsp => ?_⟩
  have down : ∀ b o, base.get? b = some o → s.heap.get? b = some o := fun b o e => (e0.bs b o e).1
  have KX : K.In s.heap := e0.mod.kin.keeps down
  obtain ⟨t, ht, hq⟩ := hbody cdv A outer s H vs Q E (hr.deeper _) (guards_deeper hg) hsp
  refine codeAny_call_function hr.depth (KX _ _ lk) rfl S.co S.gen rfl (PySem.W.codeRec_of KX hcd) (hb _ _ _ _ (wpAny_newFunctionEnv_cells S.kind (fun y hy => ?_) fun env he s1 x => ?_))
  · rcases S.par y.1 (List.of_mem_zip hy).1 with q | q
    · exact .inl q
    · exact .inr ⟨q, PySem.W.cellsFrom_some _ _ _ (.inl q)⟩
  · subst he
    refine ⟨(e0.mod.nolimit.keeps down).keeps x.toInCall.keep, codeAny_func (wpAny_mono (ht.run [] s1 (start N vs) H _ (inv_start S hr.hd e0 (len _ _ _ _ hsp) r x) hq) (fun fl s' hs => ?_) fun e s' hs => hs)⟩
    cases fl with
    | ret u =>
      obtain ⟨v, σ', H', J, rv, q⟩ := hs
      exact ⟨v, H', J.os, J.bare, J.base, J.hok, rv, q⟩
    | next =>
      obtain ⟨σ', H', J, q⟩ := hs
      exact ⟨V.non, H', J.os, J.bare, J.base, J.hok, rfl, q⟩
    | brk =>
      obtain ⟨_, _, _, q⟩ := hs
      exact q.elim
    | cont =>
      obtain ⟨_, _, _, q⟩ := hs
      exact q.elim
end
/-! ### the call -/
structure CalG (P : Program) (w : World) (K : PySem.W.Frag) (mg : Str → Option Value) (base : Heap) (CX : CXT) (k : Nat) (x : Str) (sp : Sp) (dvs : List V) : Prop where
  ex : ∃ (f : Addr) (fd : FuncData) (ps : List Str) (ds : List Value), FnG P w K mg base CX k f fd ps sp ∧ mg x = some (.ref f) ∧ PySem.W.keepIn K (.ref f) = true ∧ Binds K fd ps ds ∧ Vals dvs ds
theorem pe_cG {X : Cx} {CX : CXT} {k j : Nat} {sp : Sp} {dvs : List V} {E : L2.St → XK} {x : Str} {p pos : Pos} {e : Expr} {es : List Expr} {t : TA} (c : CalG X.prog X.w X.K X.mg X.base CX k x sp dvs) (hr : Room j X.A) (hgd : X.A.guards = some []) (hk : k ≤ j) (hx : ∀ σ, PassesAt CX X σ (E σ)) (hg : Gl X x) (ha : PA X (e :: es) t)
    (hdb : (x == ("__debug__" : Str)) = false := by decide) (he : starEach (e :: es) X.env = (false, eval e X.env) :: starEach es X.env := by rfl) (hpl : (backTo pos (starEach es X.env)).any (·.1) = false := by rfl) :
    PE X (.Call (.Name x p) (e :: es) [] pos) (tCl sp dvs E t) := by
  obtain ⟨f, fd, ps, ds, F, hm, kp, b, d⟩ := c.ex
  refine ⟨fun pins s σ H Q I h => wpAny_Call_Name_kw (ld_glob I hg hm (PySem.W.callWith_K (h₀ := X.base) I.ok.mod.kin kp (thn (ha.run pos pins s σ H _ I h) fun us s1 hu => ?_) he hpl) hdb)⟩
  obtain ⟨vs, H1, J, r, q⟩ := hu
  refine ⟨J.kIn, wpAny_call (codeAny_mono (F.run X.A X.stack s1 H1 ⟨us, []⟩ (us ++ ds) (vs ++ dvs) Q (E σ) (hr.mono hk) hgd J.env0 (b s1 us J.kIn ?_) (r.append d) q) fun o s' hq => ?_)⟩
  · rw [← (r.append d).length]
    exact F.len _ _ _ _ q
  · cases o with
    | error z => exact hx σ pins H1 s1 z s' J hq
    | ok fl =>
      cases fl with
      | ret u => exact J.after hq
      | next => exact hq.elim
      | brk => exact hq.elim
      | cont => exact hq.elim
/-! ### repr -/
/-- repr of data: lists, tuples, texts, whole numbers, bools, None, at any depth -/
def rReprD (K : PySem.W.Frag) : RC := fun xs H Q => ∃ (a : Addr) (d : PyData), xs = [.ref a] ∧ Dp K H (.ref a) d ∧ d.showable = true ∧ d.depth ≤ 50 ∧ d.shown.length ≤ sizeLine ∧ Q (.str d.shown) H
mutual
theorem Dp.noDict {K : PySem.W.Frag} {H : Hp} : ∀ {v : V} {d : PyData}, Dp K H v d → d.hasDict = false
  | _, _, .non => rfl
  | _, _, .bl _ => rfl
  | _, _, .int _ => rfl
  | _, _, .str _ => rfl
  | _, _, .lst _ h => by
    rw [PyData.hasDict]
    exact DpAll.noDict h
  | _, _, .tup _ h => by
    rw [PyData.hasDict]
    exact DpAll.noDict h
theorem DpAll.noDict {K : PySem.W.Frag} {H : Hp} : ∀ {vs : List V} {ds : List PyData}, DpAll K H vs ds → PyData.hasDictAll ds = false
  | _, _, .nil => rfl
  | _, _, .cons h r => by
    rw [PyData.hasDictAll, Dp.noDict h, DpAll.noDict r]
    rfl
end
theorem cr_reprD {X : Cx} (hgd : X.A.guards = some []) (hu : X.A.units + 100 < cLine) : CallR X (.builtin "repr") (rReprD X.K) := by
  intro pins s σ H xs us Q I r h
  obtain ⟨a, d, rfl, hd, sh, dp, ln, q⟩ := h
  obtain rfl := Vals.ref1 r
  obtain ⟨as, rd⟩ := Dp.reads I d (.ref a) (.ref a) hd rfl
  have nd := Dp.noDict hd
  exact PySem.repr_of_reads' rd sh (fun e => by rw [nd] at e; cases e) hgd (by omega) (fun b o e => e) (fun h' u tk k => ⟨.str d.shown, H, I.kept (t' := tk) k, ⟨u, rfl⟩, q⟩) ln
/-! ### the law, called where no repr is under way -/
section
variable {P : Program} {w : World} {K : PySem.W.Frag} {mg mb : Str → Option Value} {CX : CXT} {k : Nat} {fa a : Addr} {fd : FuncData} {x : Str} {sp : Sp} {s₁ : Shared} {vs : List Value} {ns : List Int}
/-- what may be tracked at first: the script, locked, or nothing -/
def First (a : Addr) (vs : List Value) (ns : List Int) (H : Hp) : Prop := ∀ b, H b = none ∨ (b = a ∧ H b = some (.frz { cls := .type "list", data := .seq vs.toArray } (.lst (ns.map V.int))))
theorem First.only {H : Hp} (f : First a vs ns H) : Only H := fun b => by
  rcases f b with e | ⟨_, e⟩
  · exact .inl e
  · exact .inr ⟨_, _, e⟩
theorem law_callG (KX : K.In s₁.heap) (hns : s₁.heap.Ns mainGlobals mg) (hb : s₁.heap.Ns builtinsNs mb) (hbb : ∀ x : Str, x ≠ "__name__" → mb x = bootBuiltins x) (hlim : s₁.heap.NoLimit) (hg : s₁.gens = #[])
    (ha : s₁.heap.get? a = some { cls := .type "list", data := .seq vs.toArray }) (hi : IntsAre vs ns) (hl : ns.length ≤ sizeLine) (hr : Room k callerA)
    (F : ∀ base : Heap, K.In base → base.Ns mainGlobals mg → FnG P w K mg base CX k fa fd [x] sp) (hbind : ∀ (s : Shared) (u : Value), BindsTo s fd ⟨[u], []⟩ [(x, u)])
    (hsp : ∀ H : Hp, Only H → SqL K H a (ns.map V.int) → sp [.ref a] H (fun v _ => v = .bl true) fun _ _ _ => False)
    (hCX : ∀ H e s', CX [] H s₁ (fun _ _ _ => False) e s' → False) :
    codeAny (model P w) callerA (.call (.ref fa) ⟨[.ref a], []⟩) (fun r s' => r = .ok (.ret (.bool true)) ∧ OldK s₁.heap s'.heap ∧ s'.os = s₁.os ∧ AllBare s'.gens) s₁ := by
  have rv := vals_ints hi
  have okL : ∀ H : Hp, ObjOk P w H s₁.heap a (.lst (ns.map V.int)) := fun H => ⟨by rw [List.length_map]; exact hl, vs, _, rv, ha⟩
  -- the heap without the script has all that the module needs
  have main : ∀ H : Hp, First a vs ns H → SqL K H a (ns.map V.int) → (H a ≠ none → K.lookup a = none) →
      codeAny (model P w) callerA (.call (.ref fa) ⟨[.ref a], []⟩) (fun r s' => r = .ok (.ret (.bool true)) ∧ OldK s₁.heap s'.heap ∧ s'.os = s₁.os ∧ AllBare s'.gens) s₁ := fun H hF hS hK => by
    have hok : HOk P w H s₁.heap := fun b u e => by
      rcases hF b with z | ⟨z, z2⟩
      · rw [z] at e
        cases e
      · rw [z2] at e
        cases e
        subst z
        exact ⟨ha, okL H⟩
    have inB : ∀ b o, s₁.heap.get? b = some o → (b = a → H a = none) → (hidT s₁.heap H).get? b = some o := fun b o e n => hidT_get e (by
      rcases hF b with z | ⟨z, _⟩
      · exact z
      · rw [z]
        exact n z)
    have nsB : ∀ {b : Addr} {m : Str → Option Value}, s₁.heap.Ns b m → (hidT s₁.heap H).Ns b m := fun {b m} ⟨o, es, ep, e, d, r⟩ => ⟨o, es, ep, inB b o e (fun z => by
      rw [z, ha] at e
      cases e
      have d' : Data.seq vs.toArray _ = Data.dict es ep := d
      cases d'), d, r⟩
    have kB : K.In (hidT s₁.heap H) := fun b o e => inB b o (KX b o e) fun z => by
      cases q : H a with
      | none => rfl
      | some u =>
        rw [z, hK (by rw [q]; simp)] at e
        cases e
    obtain ⟨mc, l1, l2⟩ := hlim
    have e0 : Env0 P w K mg (hidT s₁.heap H) callerA [] s₁ H := { frames := rfl, mod := ⟨kB, nsB hns, ⟨mb, nsB hb, hbb⟩, mc, nsB l1, l2⟩, bs := fun b o e => of_hidT e, bsz := Nat.le_of_eq (hidT_size _ _), funs := trivial, frf := fun b hb => absurd (show b ∈ ([] : List Addr) from hb) (by simp), hok := hok, bare := .of_eq hg }
    refine codeAny_mono ((F _ kB (nsB hns)).run callerA [] s₁ H ⟨[.ref a], []⟩ [.ref a] [.ref a] _ _ hr rfl e0 (hbind s₁ (.ref a)) (.cons rfl .nil) (hsp H hF.only hS)) fun r s' h => ?_
    cases r with
    | error e => exact (hCX H e s' h).elim
    | ok fl =>
      cases fl with
      | ret u =>
        obtain ⟨v, H', os, bare, un, hok', r', rfl⟩ := h
        obtain rfl : u = Value.bool true := r'
        refine ⟨rfl, OldK.of_keep fun b o e => ?_, os, bare⟩
        rcases hF b with z | ⟨z, z2⟩
        · exact un.keep b o e z (by intro y; exact absurd (show b ∈ ([] : List Addr) from y) (by simp)) (by simp)
        · have e3 := (hok' b _ (un.frzs b _ _ z2)).1
          rw [z, ha] at e
          cases e
          rw [z] at e3 ⊢
          exact e3
      | next => exact h.elim
      | brk => exact h.elim
      | cont => exact h.elim
  cases hk : K.lookup a with
  | some o =>
    have e := KX a o hk
    rw [ha] at e
    cases e
    exact main (fun _ => none) (fun _ => .inl rfl) (.inr ⟨_, vs.toArray, _, hk, rfl, rfl, rfl, by rw [List.size_toArray, hi.length]; exact hl, by simpa using rv⟩) fun z => absurd rfl z
  | none =>
    refine main (fun b => if b = a then some (.frz { cls := .type "list", data := .seq vs.toArray } (.lst (ns.map V.int))) else none) (fun b => ?_) (.inl (.inr ⟨_, if_pos rfl⟩)) fun _ => hk
    by_cases c : b = a
    · exact .inr ⟨c, if_pos c⟩
    · exact .inl (if_neg c)
end
theorem walk_ofG {l : PySem.W.OpenLaw} {n k : Nat} {q : Program} {loose : List Str} {XP : (Str → Option Value) → Heap → Prop} {YP : World → Heap → Prop} {d : DefRec} {CX : CXT} {x : Str}
    (hn : l.most = some n) (hn2 : n ≤ sizeLine) (hdf : d.params.defaults = []) (hr : Room k callerA)
    (F : ∀ (w : World) (mg : Str → Option Value) (fa : Addr) (h : Heap), YP w h → h.Ns mainGlobals mg → mg d.name = some (.ref fa) →
      ∃ (K : PySem.W.Frag) (fd : FuncData) (sp : Sp), K.In h ∧ (∀ (s : Shared) (u : Value), BindsTo s fd ⟨[u], []⟩ [(x, u)]) ∧
        (∀ (H : Hp) (a : Addr) (ns : List Int), ns.length ≤ n → Only H → SqL K H a (ns.map V.int) → sp [.ref a] H (fun v _ => v = .bl true) fun _ _ _ => False) ∧
        ∀ base : Heap, K.In base → base.Ns mainGlobals mg → FnG l.prog w K mg base CX k fa fd [x] sp)
    (hCX : ∀ (H : Hp) (s : Shared) (e : Value) (s' : Shared), CX [] H s (fun _ _ _ => False) e s' → False) :
    PySem.W.WalkO q loose XP YP l.row.toRowW d [] (fun f vs => PySem.call f vs) :=
  Att.attach_call hn hdf fun w s₀ s₁ mg mb fa o pm cd doc a vs ns G Y ho hd hcd hmg hobj hints hlen hg =>
    let ⟨K, fd, sp, KX, hb, hsp, hF⟩ := F w mg fa _ Y G.T.g hmg
    law_callG KX G.T.g G.T.b G.T.builtins G.T.nolimit hg hobj hints (Nat.le_trans hlen hn2) hr hF hb (fun H hO hS => hsp H a ns hlen hO hS) fun H e s' => hCX H s₁ e s'
end U

set_option Elab.async false
set_option linter.all false
set_option maxRecDepth 100000
set_option maxHeartbeats 4000000
/-! Names for readings: dict(d), list.insert. -/
namespace U
open PySem PySem.Spec PyProof.Rows L2
abbrev rDictD : RC := fun xs H Q => ∃ (a : Addr) (kvs : List (Key × V)), xs = [.ref a] ∧ Rd H a (.dK kvs) ∧ ∀ p, H p = none → Q (.ref p) (upd H p (.dK kvs))
abbrev rInsert : RM := fun x vs H Q => ∃ (l : Addr) (xs : List V) (i : Int) (y : V), x = .ref l ∧ vs = [.int i, y] ∧ H l = some (.lst xs) ∧ xs.length < sizeLine ∧ 0 ≤ i ∧ i < 2 ^ 63 ∧
    Q .non (upd H l (.lst (xs.take i.toNat ++ [y] ++ xs.drop i.toNat)))
theorem hu64 {k : Nat} {A : Around} (hr : Room k A) : A.units + 64 < cLine := by
  have := hr.un
  omega
theorem hu1 {k : Nat} {A : Around} (hr : Room k A) : A.units + 100 < cLine := hu100 hr
end U

set_option Elab.async false
set_option linter.all false
set_option maxRecDepth 100000
set_option maxHeartbeats 4000000
/-! Rows and sums: models, and promises of ways. -/
namespace G
open PySem PySem.Spec PyProof.Rows L2 U
abbrev Rw := List (Int × List Int)
abbrev Gs := List (Int × (List Int × Int))
/-! ### dicts with whole numbers as keys, by a model -/
section
variable {α : Type} {ent : Key × V → Int × α → Prop} {kvs : List (Key × V)} {l : List (Int × α)}
def lookA (l : List (Int × α)) (k : Int) : Option α := (l.find? fun q => decide (q.1 = k)).map (·.2)
def putA (l : List (Int × α)) (k : Int) (x : α) : List (Int × α) := if (l.any fun q => decide (q.1 = k)) = true then l.map (fun q => if q.1 = k then (q.1, x) else q) else l ++ [(k, x)]
theorem lookA_cons (q : Int × α) (r : List (Int × α)) (k : Int) : lookA (q :: r) k = if q.1 = k then some q.2 else lookA r k := by
  unfold lookA
  by_cases h : q.1 = k
  · rw [List.find?_cons, decide_eq_true h, if_pos h]
    rfl
  · rw [List.find?_cons, decide_eq_false h, if_neg h]
theorem lookA_mem {k : Int} {x : α} : ∀ {l : List (Int × α)}, lookA l k = some x → (k, x) ∈ l
  | [], h => by cases h
  | q :: r, h => by
    rw [lookA_cons] at h
    by_cases e : q.1 = k
    · rw [if_pos e] at h
      have := Option.some.inj h
      subst this
      rw [← e]
      exact List.mem_cons_self ..
    · rw [if_neg e] at h
      exact List.mem_cons_of_mem _ (lookA_mem h)
theorem lookA_none {k : Int} : ∀ {l : List (Int × α)}, lookA l k = none ↔ k ∉ l.map (·.1)
  | [] => by simp [lookA]
  | q :: r => by
    rw [lookA_cons, List.map_cons, List.mem_cons]
    by_cases e : q.1 = k
    · rw [if_pos e]
      simp [e]
    · rw [if_neg e, lookA_none (l := r)]
      simp [Ne.symm e]
theorem lookA_of_mem {k : Int} {x : α} : ∀ {l : List (Int × α)}, (l.map (·.1)).Nodup → (k, x) ∈ l → lookA l k = some x
  | [], _, h => by cases h
  | q :: r, nd, h => by
    rw [List.map_cons, List.nodup_cons] at nd
    rw [lookA_cons]
    rcases List.mem_cons.mp h with e | h
    · rw [← e, if_pos rfl]
    · rw [if_neg (fun e => nd.1 (by rw [e]; exact List.mem_map.mpr ⟨_, h, rfl⟩))]
      exact lookA_of_mem nd.2 h
theorem da_val (hk : ∀ kv q, ent kv q → kv.1 = Sum.inl q.1) (h : Paired ent kvs l) (k : Int) : (valV kvs (Sum.inl k) = none ∧ lookA l k = none) ∨ ∃ v x, valV kvs (Sum.inl k) = some v ∧ lookA l k = some x ∧ ent (Sum.inl k, v) (k, x) := by
  induction h with
  | nil => exact .inl ⟨rfl, rfl⟩
  | @cons p q ps qs hd _ ih =>
    have e1 := hk _ _ hd
    rw [lookA_cons]
    by_cases c : q.1 = k
    · right
      refine ⟨p.2, q.2, valV_pos (by rw [e1, c]), by rw [if_pos c], ?_⟩
      have : (Sum.inl k, p.2) = p := by rw [← c, ← e1]
      rw [this, ← c]
      exact hd
    · rw [if_neg c, valV_neg (by rw [e1]; exact fun z => c (Sum.inl.inj z))]
      exact ih
theorem da_any (hk : ∀ kv q, ent kv q → kv.1 = Sum.inl q.1) (h : Paired ent kvs l) (k : Int) : (kvs.any fun kv => decide (kv.1 = Sum.inl k)) = l.any fun q => decide (q.1 = k) := by
  induction h with
  | nil => rfl
  | @cons p q ps qs hd _ ih =>
    rw [List.any_cons, List.any_cons, ih, hk _ _ hd]
    congr 1
    by_cases c : q.1 = k
    · rw [decide_eq_true c, decide_eq_true (by rw [c])]
    · rw [decide_eq_false c, decide_eq_false fun z => c (Sum.inl.inj z)]
theorem da_map (hk : ∀ kv q, ent kv q → kv.1 = Sum.inl q.1) (h : Paired ent kvs l) {k : Int} {v : V} {x : α} (he : ent (Sum.inl k, v) (k, x)) :
    Paired ent (kvs.map fun kv => if kv.1 = Sum.inl k then (kv.1, v) else kv) (l.map fun q => if q.1 = k then (q.1, x) else q) := by
  induction h with
  | nil => exact .nil
  | @cons p q ps qs hd _ ih =>
    have e1 := hk _ _ hd
    refine .cons ?_ ih
    dsimp only
    by_cases c : q.1 = k
    · rw [if_pos c, if_pos (by rw [e1, c]), e1, c]
      exact he
    · rw [if_neg c, if_neg (by rw [e1]; exact fun z => c (Sum.inl.inj z))]
      exact hd
theorem paired_app {α β : Type} {R : α → β → Prop} {as cs : List α} {bs ds : List β} (h : Paired R as bs) (g : Paired R cs ds) : Paired R (as ++ cs) (bs ++ ds) := by
  induction h with
  | nil => exact g
  | cons a _ ih => exact .cons a ih
theorem da_put (hk : ∀ kv q, ent kv q → kv.1 = Sum.inl q.1) (h : Paired ent kvs l) {k : Int} {v : V} {x : α} (he : ent (Sum.inl k, v) (k, x)) : Paired ent (putK kvs (Sum.inl k) v) (putA l k x) := by
  unfold putK putA
  rw [da_any hk h k]
  by_cases c : (l.any fun q => decide (q.1 = k)) = true
  · rw [if_pos c, if_pos c]
    exact da_map hk h he
  · rw [if_neg c, if_neg c]
    exact paired_app h (.cons he .nil)
theorem da_keys (hk : ∀ kv q, ent kv q → kv.1 = Sum.inl q.1) (h : Paired ent kvs l) : kvs.map (·.1) = (l.map (·.1)).map Sum.inl := by
  induction h with
  | nil => rfl
  | cons hd _ ih => rw [List.map_cons, List.map_cons, List.map_cons, ih, hk _ _ hd]
theorem paired_at {α β : Type} {R : α → β → Prop} {as : List α} {bs : List β} (h : Paired R as bs) : ∀ {i : Nat} {a : α}, as[i]? = some a → ∃ b, bs[i]? = some b ∧ R a b := by
  induction h with
  | nil => intro i a e; cases e
  | cons hd _ ih =>
    intro i a e
    cases i with
    | zero =>
      cases e
      exact ⟨_, rfl, hd⟩
    | succ i => exact ih (i := i) e
theorem putA_new {k : Int} {x : α} (h : k ∉ l.map (·.1)) : putA l k x = l ++ [(k, x)] := by
  unfold putA
  rw [if_neg]
  intro z
  obtain ⟨q, hq, e⟩ := List.any_eq_true.mp z
  exact h (List.mem_map.mpr ⟨q, hq, of_decide_eq_true e⟩)
end
/-! ### rows -/
def rowEnt (K : PySem.W.Frag) (H : Hp) (kv : Key × V) (r : Int × List Int) : Prop := kv.1 = Sum.inl r.1 ∧ ∃ t, kv.2 = .ref t ∧ SqT K H t (r.2.map V.int)
theorem rowEnt_k {K : PySem.W.Frag} {H : Hp} : ∀ kv r, rowEnt K H kv r → kv.1 = Sum.inl r.1 := fun _ _ h => h.1
theorem rowEnt_same {K : PySem.W.Frag} {H H' : Hp} (s : Same H H') : ∀ kv r, rowEnt K H kv r → rowEnt K H' kv r := fun _ _ ⟨e, t, e2, h⟩ => ⟨e, t, e2, Same.seqT s h⟩
/-- the people are whole numbers from 1 to 60 -/
structure Good (R : Rw) : Prop where
  nd : (R.map (·.1)).Nodup
  rng : ∀ r ∈ R, 0 < r.1 ∧ r.1 ≤ 60
  few : R.length < 62
structure RowsAt (K : PySem.W.Frag) (H : Hp) (a : Addr) (R : Rw) : Prop where
  ex : ∃ kvs, H a = some (.dK kvs) ∧ Paired (rowEnt K H) kvs R
  ok : Good R
theorem RowsAt.keep {K : PySem.W.Frag} {H H' : Hp} {a : Addr} {R : Rw} (h : RowsAt K H a R) (s : Same H H') : RowsAt K H' a R := by
  obtain ⟨kvs, e, p⟩ := h.ex
  exact ⟨⟨kvs, s _ _ e, L2.Paired.mapP p (rowEnt_same s)⟩, h.ok⟩
def Wd (R : Rw) (n : Nat) : Prop := ∀ r ∈ R, r.2.length = n
theorem nodup_sub : ∀ {l m : List Int}, l.Nodup → l ⊆ m → l.length ≤ m.length
  | [], _, _, _ => Nat.zero_le _
  | a :: r, m, nd, hs => by
    rw [List.nodup_cons] at nd
    have ha := hs (List.mem_cons_self ..)
    have h1 := nodup_sub (m := m.erase a) nd.2 fun x hx => (List.mem_erase_of_ne (fun e => nd.1 (by rw [← e]; exact hx))).mpr (hs (List.mem_cons_of_mem _ hx))
    rw [List.length_erase_of_mem ha] at h1
    have := List.length_pos_of_mem ha
    rw [List.length_cons]
    omega
theorem nodup_len {l : List Int} {n : Nat} (nd : l.Nodup) (h : ∀ k ∈ l, 0 < k ∧ k ≤ n) : l.length ≤ n := by
  have h2 : l ⊆ (List.range n).map fun i => ((i : Nat) : Int) + 1 := fun k hk => by
    have := h k hk
    exact List.mem_map.mpr ⟨(k - 1).toNat, List.mem_range.mpr (by omega), by omega⟩
  have h3 := nodup_sub nd h2
  rw [List.length_map, List.length_range] at h3
  exact h3
theorem Good.of {R : Rw} (nd : (R.map (·.1)).Nodup) (rng : ∀ r ∈ R, 0 < r.1 ∧ r.1 ≤ 60) : Good R := ⟨nd, rng, by
  have := nodup_len (n := 60) nd (fun k hk => by
    obtain ⟨r, hr, rfl⟩ := List.mem_map.mp hk
    exact rng r hr)
  rw [List.length_map] at this
  omega⟩
theorem Good.perm {R R' : Rw} (p : R'.Perm R) (g : Good R) : Good R' := .of ((p.map _).nodup_iff.mpr g.nd) fun r hr => g.rng r (p.mem_iff.mp hr)
theorem Good.sub {R R' : Rw} (p : R'.Sublist R) (g : Good R) : Good R' := .of (g.nd.sublist (p.map _)) fun r hr => g.rng r (p.subset hr)
/-! ### the ways -/
def cutR (cs : List Nat) (R : Rw) : Rw := R.map fun r => (r.1, cs.map fun c => r.2.getD c 0)
def joinRow (B : Rw) (r : Int × List Int) : Option (Int × List Int) := (lookA B r.1).map fun b => (r.1, r.2 ++ b)
def joinR (A B : Rw) : Rw := A.filterMap (joinRow B)
def keyR (by_ : Option Nat) (row : List Int) : Int := match by_ with
  | none => 0
  | some c => row.getD c 0
def byV : Option Nat → V
  | none => .non
  | some c => .int (c : Int)
/-- person, key, number -/
abbrev Ent := Int × Int × Int
def entR (col : Nat) (by_ : Option Nat) (R : Rw) : List Ent := R.map fun r => (r.1, keyR by_ r.2, r.2.getD col 0)
def ents (col : Nat) (by_ : Option Nat) (Rs : List Rw) : List Ent := Rs.flatMap (entR col by_)
def sumOf (es : List Ent) (k : Int) : Int := ((es.filter fun e => decide (e.2.1 = k)).map (·.2.2)).sum
/-- what a sum is -/
structure Sm (es : List Ent) (G : Gs) : Prop where
  nd : (G.map (·.1)).Nodup
  cov : ∀ e ∈ es, e.2.1 ∈ G.map (·.1)
  hit : ∀ g ∈ G, ∃ e ∈ es, e.2.1 = g.1
  srt : ∀ g ∈ G, g.2.1.Pairwise (· < ·)
  mem : ∀ g ∈ G, ∀ p, p ∈ g.2.1 ↔ ∃ e ∈ es, e.2.1 = g.1 ∧ e.1 = p
  num : ∀ g ∈ G, g.2.2 = sumOf es g.1
def sumEnt (K : PySem.W.Frag) (H : Hp) (kv : Key × V) (g : Int × (List Int × Int)) : Prop := kv.1 = Sum.inl g.1 ∧ ∃ t l, kv.2 = .ref t ∧ SqT K H t [.ref l, .int g.2.2] ∧ H l = some (.lst (g.2.1.map V.int))
theorem sumEnt_k {K : PySem.W.Frag} {H : Hp} : ∀ kv r, sumEnt K H kv r → kv.1 = Sum.inl r.1 := fun _ _ h => h.1
theorem sumEnt_same {K : PySem.W.Frag} {H H' : Hp} (s : Same H H') : ∀ kv r, sumEnt K H kv r → sumEnt K H' kv r := fun _ _ ⟨e, t, l, e2, h, h2⟩ => ⟨e, t, l, e2, Same.seqT s h, s _ _ h2⟩
def SumsAt (K : PySem.W.Frag) (H : Hp) (a : Addr) (G : Gs) : Prop := ∃ kvs, H a = some (.dK kvs) ∧ Paired (sumEnt K H) kvs G
theorem SumsAt.keep {K : PySem.W.Frag} {H H' : Hp} {a : Addr} {G : Gs} (h : SumsAt K H a G) (s : Same H H') : SumsAt K H' a G := by
  obtain ⟨kvs, e, p⟩ := h
  exact ⟨kvs, s _ _ e, L2.Paired.mapP p (sumEnt_same s)⟩
/-- sums whose lists are of a sort -/
def sumEntZ (Z : Addr → Prop) (K : PySem.W.Frag) (H : Hp) (kv : Key × V) (g : Int × (List Int × Int)) : Prop := kv.1 = Sum.inl g.1 ∧ ∃ t l, kv.2 = .ref t ∧ SqT K H t [.ref l, .int g.2.2] ∧ H l = some (.lst (g.2.1.map V.int)) ∧ Z l
theorem sumEntZ_k {Z : Addr → Prop} {K : PySem.W.Frag} {H : Hp} : ∀ kv r, sumEntZ Z K H kv r → kv.1 = Sum.inl r.1 := fun _ _ h => h.1
theorem sumEntZ_same {Z : Addr → Prop} {K : PySem.W.Frag} {H H' : Hp} (s : Same H H') : ∀ kv r, sumEntZ Z K H kv r → sumEntZ Z K H' kv r := fun _ _ ⟨e, t, l, e2, h, h2, z⟩ => ⟨e, t, l, e2, Same.seqT s h, s _ _ h2, z⟩
def SumsZ (Z : Addr → Prop) (K : PySem.W.Frag) (H : Hp) (a : Addr) (G : Gs) : Prop := ∃ kvs, H a = some (.dK kvs) ∧ Paired (sumEntZ Z K H) kvs G
theorem SumsZ.keep {Z : Addr → Prop} {K : PySem.W.Frag} {H H' : Hp} {a : Addr} {G : Gs} (h : SumsZ Z K H a G) (s : Same H H') : SumsZ Z K H' a G := by
  obtain ⟨kvs, e, p⟩ := h
  exact ⟨kvs, s _ _ e, L2.Paired.mapP p (sumEntZ_same s)⟩
theorem SumsZ.imp {Z Z' : Addr → Prop} {K : PySem.W.Frag} {H : Hp} {a : Addr} {G : Gs} (h : SumsZ Z K H a G) (f : ∀ l, Z l → Z' l) : SumsZ Z' K H a G := by
  obtain ⟨kvs, e, p⟩ := h
  exact ⟨kvs, e, L2.Paired.mapP p fun kv g ⟨e, t, l, e2, h, h2, z⟩ => ⟨e, t, l, e2, h, h2, f l z⟩⟩
theorem SumsZ.at {Z : Addr → Prop} {K : PySem.W.Frag} {H : Hp} {a : Addr} {G : Gs} (h : SumsZ Z K H a G) : SumsAt K H a G := by
  obtain ⟨kvs, e, p⟩ := h
  exact ⟨kvs, e, L2.Paired.mapP p fun kv g ⟨e, t, l, e2, h, h2, _⟩ => ⟨e, t, l, e2, h, h2⟩⟩
/-! ### promises -/
def sp_need (K : PySem.W.Frag) : Sp := fun vs H Q E => match vs with
  | [.bl b] => (b = true → Q .non H) ∧ (b = false → E (.ref (He.ga K "NoWay")) none H)
  | _ => False
def sp_is_column (K : PySem.W.Frag) : Sp := fun vs H Q _ => match vs with
  | [.int c, .int n] => Q (.bl (decide (0 ≤ c) && decide (c < n))) H
  | _ => False
def sp_width_of (K : PySem.W.Frag) : Sp := fun vs H Q E => match vs with
  | [.ref a] => ∃ R n, RowsAt K H a R ∧ Wd R n ∧ (R = [] → E (.ref (He.ga K "NoWay")) none H) ∧ (R ≠ [] → ∀ H', Same H H' → Q (.int (n : Int)) H')
  | _ => False
def sp_copied (K : PySem.W.Frag) : Sp := fun vs H Q E => match vs with
  | [.ref a] => ∃ R, RowsAt K H a R ∧ (R = [] → E (.ref (He.ga K "NoWay")) none H) ∧ (R ≠ [] → ∀ p R' H', R'.Perm R → RowsAt K H' p R' → H p = none → Same H H' → Q (.ref p) H')
  | _ => False
def sp_cut (K : PySem.W.Frag) : Sp := fun vs H Q E => match vs with
  | [.ref a, .ref c] => ∃ R n, ∃ cs : List Nat, RowsAt K H a R ∧ Wd R n ∧ R ≠ [] ∧ SqL K H c (cs.map fun (i : Nat) => V.int (i : Int)) ∧ 1 ≤ cs.length ∧ cs.length ≤ 12 ∧ (∀ i ∈ cs, i < n) ∧
    ∀ p R' H', R'.Perm (cutR cs R) → RowsAt K H' p R' → H p = none → Same H H' → Q (.ref p) H'
  | _ => False
def sp_joined (K : PySem.W.Frag) : Sp := fun vs H Q E => match vs with
  | [.ref a, .ref b] => ∃ A B n m, RowsAt K H a A ∧ RowsAt K H b B ∧ Wd A n ∧ Wd B m ∧ A ≠ [] ∧ B ≠ [] ∧ 1 ≤ n ∧ n + m ≤ 12 ∧
    ∀ p R' H', R'.Perm (joinR A B) → RowsAt K H' p R' → H p = none → Same H H' → Q (.ref p) H'
  | _ => False
def sp_key_of (K : PySem.W.Frag) : Sp := fun vs H Q _ => match vs with
  | [.ref t, v] => ∃ (xs : List Int) (by_ : Option Nat), v = byV by_ ∧ SqT K H t (xs.map V.int) ∧ (∀ c, by_ = some c → c < xs.length) ∧ Q (.int (keyR by_ xs)) H
  | _ => False
def sp_summed (K : PySem.W.Frag) : Sp := fun vs H Q E => match vs with
  | [.ref l, .int c, v] => ∃ (as : List Addr) (Rs : List Rw) (col : Nat) (by_ : Option Nat), c = (col : Int) ∧ v = byV by_ ∧ SqL K H l (as.map V.ref) ∧ Paired (fun a R => RowsAt K H a R ∧ R ≠ [] ∧ ∃ n, Wd R n ∧ col < n ∧ ∀ b, by_ = some b → b < n) as Rs ∧
    1 ≤ Rs.length ∧ Rs.length ≤ 8 ∧ ∀ p G H', Sm (ents col by_ Rs) G → SumsZ (fun l => H l = none) K H' p G → H p = none → Same H H' → Q (.ref p) H'
  | _ => False
end G

set_option Elab.async false
set_option linter.all false
set_option maxRecDepth 100000
set_option maxHeartbeats 4000000

/-! Readings, printed by gen.py. -/
namespace G
open PySem PySem.Spec PyProof.Rows L2 U
abbrev N_need : List Str := ["truth"]
def t_need (K : PySem.W.Frag) (W : WX) : TS :=
  (tIfS (tNot (tB (tVar 0))) (tRs (He.ga K "NoWay") W) tNext)
abbrev N_copied : List Str := ["rows", "found", "person"]
def t_copied (K : PySem.W.Frag) (W : WX) : TS :=
  (tSeq (tDrop (tCl (sp_need K) [] (WE W) (tCons (tOp rGtI (tCB rLenDc (tCons (tVar 0) tNil)) (tC (.int 0))) tNil)))
  (tSeq (tAsg tDNewK (gName 1))
  (tSeq (tFor (iList K (tCB rSortedDI (tCons (tVar 0) tNil))) (gName 2) (sDPut (tVar 1) (tVar 2) (tDGet (tVar 0) (tVar 2))))
  (tRet (tVar 1)))))
abbrev N_is_column : List Str := ["thing", "width"]
def t_is_column (K : PySem.W.Frag) : TS :=
  (tRet (tAndV (tCB (rIsi K) (tCons (tVar 0) (tCons (tC (.ty "int")) tNil))) (tAndV (tNotV (tCB (rIsi K) (tCons (tVar 0) (tCons (tC (.ty "bool")) tNil)))) (tChain rLeI rLtI (tC (.int 0)) (tVar 0) (tVar 1)))))
abbrev N_width_of : List Str := ["rows", "row"]
def t_width_of (K : PySem.W.Frag) (W : WX) : TS :=
  (tSeq (tDrop (tCl (sp_need K) [] (WE W) (tCons (tOp rGtI (tCB rLenDc (tCons (tVar 0) tNil)) (tC (.int 0))) tNil)))
  (tRet (tCB (rMax K) (tCons (tLockE (tLc (iVals (tVar 0)) (gName 1) tYes (tCB (rLenSeq K) (tCons (tVar 1) tNil)) [1])) tNil))))
abbrev N_cut : List Str := ["rows", "columns", "width", "found", "person", "column"]
def t_cut (K : PySem.W.Frag) (W : WX) : TS :=
  (tSeq (tAsg (tCl (sp_width_of K) [] (WE W) (tCons (tVar 0) tNil)) (gName 2))
  (tSeq (tDrop (tCl (sp_need K) [] (WE W) (tCons (tAndV (tCB (rIsiT K) (tCons (tVar 1) (tCons (tTup (tCons (tC (.ty "list")) (tCons (tC (.ty "tuple")) tNil))) tNil))) (tChain rLeI rLeI (tC (.int 1)) (tCB (rLenSeq K) (tCons (tVar 1) tNil)) (tC (.int 12)))) tNil)))
  (tSeq (tDrop (tCl (sp_need K) [] (WE W) (tCons (tCB (rAll K) (tCons (tLc (iList K (tVar 1)) (gName 5) tYes (tCl (sp_is_column K) [] ES0 (tCons (tVar 5) (tCons (tVar 2) tNil))) [5]) tNil)) tNil)))
  (tSeq (tAsg tDNewK (gName 3))
  (tSeq (tFor (iList K (tCB rSortedDI (tCons (tVar 0) tNil))) (gName 4) (sDPut (tVar 3) (tVar 4) (tCB (rTupleOf K) (tCons (tLc (iList K (tVar 1)) (gName 5) tYes (tOp (rIxT K) (tDGet (tVar 0) (tVar 4)) (tVar 5)) [5]) tNil))))
  (tRet (tVar 3)))))))
abbrev N_joined : List Str := ["one", "other", "found", "person"]
def t_joined (K : PySem.W.Frag) (W : WX) : TS :=
  (tSeq (tDrop (tCl (sp_need K) [] (WE W) (tCons (tOp rLeI (tOp rAddI (tCl (sp_width_of K) [] (WE W) (tCons (tVar 0) tNil)) (tCl (sp_width_of K) [] (WE W) (tCons (tVar 1) tNil))) (tC (.int 12))) tNil)))
  (tSeq (tAsg tDNewK (gName 2))
  (tSeq (tFor (iList K (tCB rSortedDI (tCons (tVar 0) tNil))) (gName 3) (tIfS (tB (tDIn (tVar 3) (tVar 1))) (sDPut (tVar 2) (tVar 3) (tOp (rCatT K) (tDGet (tVar 0) (tVar 3)) (tDGet (tVar 1) (tVar 3)))) tNext))
  (tRet (tVar 2)))))
abbrev N_key_of : List Str := ["row", "by"]
def t_key_of (K : PySem.W.Frag) : TS :=
  (tSeq (tIfS (tTest (tOp rIsNn (tVar 1) (tC .non))) (tRet (tC (.int 0))) tNext)
  (tRet (tOp (rIxT K) (tVar 0) (tVar 1))))
abbrev N_summed : List Str := ["some", "column", "by", "rows", "found", "person", "key", "people", "number"]
def t_summed (K : PySem.W.Frag) (W : WX) (w : World) : TS :=
  (tSeq (tDrop (tCl (sp_need K) [] (WE W) (tCons (tAndV (tCB (rIsiT K) (tCons (tVar 0) (tCons (tTup (tCons (tC (.ty "list")) (tCons (tC (.ty "tuple")) tNil))) tNil))) (tChain rLeI rLeI (tC (.int 1)) (tCB (rLenSeq K) (tCons (tVar 0) tNil)) (tC (.int 8)))) tNil)))
  (tSeq (tFor (iList K (tVar 0)) (gName 3) (tDrop (tCl (sp_need K) [] (WE W) (tCons (tAndV (tCl (sp_is_column K) [] ES0 (tCons (tVar 1) (tCons (tCl (sp_width_of K) [] (WE W) (tCons (tVar 3) tNil)) tNil))) (tOrV (tOp rIsNn (tVar 2) (tC .non)) (tCl (sp_is_column K) [] ES0 (tCons (tVar 2) (tCons (tCl (sp_width_of K) [] (WE W) (tCons (tVar 3) tNil)) tNil))))) tNil))))
  (tSeq (tAsg tDNewK (gName 4))
  (tSeq (tFor (iList K (tVar 0)) (gName 3) (tLock (tFor (iKeys (tVar 3)) (gName 5) (tSeq (tAsg (tCl (sp_key_of K) [] ES0 (tCons (tDGet (tVar 3) (tVar 5)) (tCons (tVar 2) tNil))) (gName 6))
  (tSeq (tAsg (tDGet2 (tVar 4) (tVar 6) (tTup (tCons (tLst tNil) (tCons (tC (.int 0)) tNil)))) (gTup K 2 (gCons (gName 7) (gCons (gName 8) gNil))))
  (sDPut (tVar 4) (tVar 6) (tTup (tCons (tCB (rSortedSet w) (tCons (tCB (rSetL K w) (tCons (tOp rCat (tVar 7) (tLst (tCons (tVar 5) tNil))) tNil)) tNil)) (tCons (tOp rAddI (tVar 8) (tOp (rIxT K) (tDGet (tVar 3) (tVar 5)) (tVar 1))) tNil)))))))))
  (tRet (tVar 4))))))
end G

set_option Elab.async false
set_option linter.all false
set_option maxRecDepth 100000
set_option maxHeartbeats 4000000
/-! The readings of ways keep their promises. -/
namespace G
open PySem PySem.Spec PyProof.Rows L2 U
variable {K : PySem.W.Frag}
/-! ### loops and comprehensions over dicts -/
theorem thaw2 {H H' : Hp} {u : Addr} {od : Obj} {o : HO} (h : H u = some o) (s : ∀ b x, b ≠ u → H b = some x → H' b = some x) : Same H (upd H' u o) := fun b x e => by
  by_cases hb : b = u
  · subst hb
    rw [upd_same]
    rw [h] at e
    exact e
  · rw [upd_ne hb]
    exact s b x hb e
theorem lcv {te : TE} {σ : L2.St} {H : Hp} {Q : VK} {j v : Nat} {d : Addr} {o : Obj} {kvs : List (Key × V)} (f : V → V) (hv : σ[v]? = some (some (.ref d))) (hd : H d = some (.frz o (.dK kvs))) (hl : kvs.length ≤ 1000)
    (he : ∀ kv ∈ kvs, ∀ acc D (R : VK), H D = none → R (f kv.2) (upd H D (.lst acc)) → te ((wipe σ [j]).set j (some kv.2)) (upd H D (.lst acc)) R)
    (k : ∀ D, H D = none → Q (.ref D) (upd H D (.lst (kvs.map fun kv => f kv.2)))) : tLc (iVals (tVar v)) (gName j) tYes te [j] σ H Q := by
  refine ⟨_, hv, d, o, kvs, rfl, hd, fun D hD => ?_⟩
  refine ⟨fun i m H' => m + i = kvs.length ∧ H' = upd H D (.lst ((kvs.take i).map fun kv => f kv.2)), ⟨kvs.length, rfl, rfl⟩, fun i m H' h => ?_⟩
  obtain ⟨hm, rfl⟩ := h
  have fz : (upd H D (.lst ((kvs.take i).map fun kv => f kv.2))) d = some (.frz o (.dK kvs)) := (upd_ne (ne_of_none hd hD)).trans hd
  rcases Nat.lt_or_ge i kvs.length with lt | ge
  · refine .inr ⟨⟨fz, lt⟩, fun H' => H' = upd H D (.lst ((kvs.take (i + 1)).map fun kv => f kv.2)), fun H' e => ⟨m - 1, by omega, by omega, e⟩, ?_⟩
    rintro x H' ⟨rfl, kk, hk⟩
    refine ⟨wipe1, he (kk, x) (List.mem_of_getElem? hk) _ D _ hD ⟨_, upd_same, ?_, ?_⟩⟩
    · rw [List.length_map, List.length_take, sizeLine_eq]
      omega
    · rw [upd_upd, take_snoc hk, List.map_append]
      rfl
  · have e : i = kvs.length := by omega
    subst e
    refine .inl ⟨⟨fz, Nat.le_refl _⟩, ?_⟩
    rw [List.take_length]
    exact k D hD
/-- for over a dict's keys, the dict locked -/
theorem for_keys {d : Addr} {o : Obj} {kvs : List (Key × V)} {g : TG} {tb : TS} {D : Ends} {σ : L2.St} {H : Hp} (Pv : Nat → L2.St → Hp → Prop) (h0 : Pv 0 σ H) (hl : ∀ i σ H, Pv i σ H → H d = some (.frz o (.dK kvs)))
    (hs : ∀ i kv σ H, kvs[i]? = some kv → Pv i σ H → g (kV kv.1) σ H fun σ2 H2 => tb { D with nx := Pv (i + 1), ct := Pv (i + 1), bk := D.nx } σ2 H2) (hd : ∀ σ H, Pv kvs.length σ H → D.nx σ H) :
    ∃ W : Nat → Nat → L2.St → Hp → Prop, (∃ m, W 0 m σ H) ∧ ∀ i m σ H, W i m σ H →
      ((Itk d o kvs).stop i H ∧ D.nx σ H) ∨ ((Itk d o kvs).go i H ∧ ∃ N : L2.St → Hp → Prop, (∀ σ' H', N σ' H' → ∃ m', m' < m ∧ W (i + 1) m' σ' H') ∧ ∀ x H', (Itk d o kvs).yld i H x H' → g x σ H' fun σ2 H2 => tb { D with nx := N, ct := N, bk := D.nx } σ2 H2) := by
  refine ⟨fun i m σ H => m + i = kvs.length ∧ Pv i σ H, ⟨kvs.length, rfl, h0⟩, fun i m σ H ⟨hm, pv⟩ => ?_⟩
  have fz := hl i σ H pv
  rcases Nat.lt_or_ge i kvs.length with lt | ge
  · refine .inr ⟨⟨fz, lt⟩, Pv (i + 1), fun σ' H' z => ⟨m - 1, by omega, by omega, z⟩, ?_⟩
    rintro _ _ ⟨rfl, k, v, hk, rfl⟩
    exact hs i (k, v) σ _ hk pv
  · have ei : i = kvs.length := by omega
    subst ei
    exact .inl ⟨⟨fz, Nat.le_refl _⟩, hd σ H pv⟩
/-! ### a dict of rows that is being made -/
theorem seqT_dict {H : Hp} {d t : Addr} {kvs : List (Key × V)} {o : HO} {xs : List V} (hd : H d = some (.dK kvs)) (h : SqT K H t xs) : SqT K (upd H d o) t xs := by
  rcases h with (h | ⟨q, h⟩) | h
  · exact .inl (.inl ((upd_ne (ne_of h hd (by intro z; cases z))).trans h))
  · exact .inl (.inr ⟨q, (upd_ne (ne_of h hd (by intro z; cases z))).trans h⟩)
  · exact .inr h
def Bld (K : PySem.W.Frag) (H : Hp) (d : Addr) (F : Rw) : Prop := ∃ kvs, H d = some (.dK kvs) ∧ Paired (rowEnt K H) kvs F
theorem Bld.put {H : Hp} {d : Addr} {F : Rw} {kvs : List (Key × V)} {k : Int} {v : V} {x : List Int} (hd : H d = some (.dK kvs)) (hp : Paired (rowEnt K H) kvs F) (he : rowEnt K H (Sum.inl k, v) (k, x)) :
    Bld K (upd H d (.dK (putK kvs (Sum.inl k) v))) d (putA F k x) := by
  refine ⟨_, upd_same, L2.Paired.mapP (da_put rowEnt_k hp he) fun kv r h => ?_⟩
  obtain ⟨e, t, e2, h⟩ := h
  exact ⟨e, t, e2, seqT_dict hd h⟩
theorem Bld.keep {H H' : Hp} {d : Addr} {F : Rw} (h : Bld K H d F) (s : Same H H') : Bld K H' d F := by
  obtain ⟨kvs, e, p⟩ := h
  exact ⟨kvs, s _ _ e, L2.Paired.mapP p (rowEnt_same s)⟩
/-- a row of a person who is there -/
theorem row_at {H : Hp} {kvs : List (Key × V)} {R : Rw} (p : Paired (rowEnt K H) kvs R) {k : Int} (hk : k ∈ R.map (·.1)) : ∃ t x, valV kvs (Sum.inl k) = some (.ref t) ∧ lookA R k = some x ∧ SqT K H t (x.map V.int) := by
  rcases da_val rowEnt_k p k with ⟨_, h⟩ | ⟨v, x, h1, h2, e, t, e2, h3⟩
  · exact absurd hk (lookA_none.mp h)
  · have e2 : v = .ref t := e2
    subst e2
    exact ⟨t, x, h1, h2, h3⟩
def rowA (R : Rw) (k : Int) : List Int := (lookA R k).getD []
theorem rowA_self {R : Rw} (nd : (R.map (·.1)).Nodup) : (R.map (·.1)).map (fun k => (k, rowA R k)) = R := by
  rw [List.map_map]
  refine (List.map_congr_left fun r hr => ?_).trans (List.map_id R)
  show (r.1, rowA R r.1) = r
  unfold rowA
  rw [lookA_of_mem nd (show (r.1, r.2) ∈ R from hr)]
  rfl
theorem perm_rows {R : Rw} (nd : (R.map (·.1)).Nodup) {ys : List Int} (h : ys.Perm (R.map (·.1))) : (ys.map fun k => (k, rowA R k)).Perm R := by
  have := h.map fun k => (k, rowA R k)
  rw [rowA_self nd] at this
  exact this
theorem paired_len2 {α β : Type} {R : α → β → Prop} {xs : List α} {ys : List β} (h : Paired R xs ys) : xs.length = ys.length := paired_len h
theorem take_fresh {ys : List Int} {i : Nat} {k : Int} (nd : ys.Nodup) (h : ys[i]? = some k) : k ∉ ys.take i := fun z => by
  have n2 : (ys.take (i + 1)).Nodup := nd.sublist (List.take_sublist _ _)
  rw [take_snoc h, List.nodup_append] at n2
  exact n2.2.2 k z k (List.mem_singleton.mpr rfl) rfl
theorem pure_need (vs : List V) (H : Hp) (Q : VK) (E : XK) (h : sp_need K vs H Q E) : t_need K (fun cls d _ H => E cls d H) { nx := fun _ H' => Q .non H', rt := Q } (start N_need vs) H := by
  unfold sp_need at h
  split at h
  · rename_i b
    refine ⟨_, rfl, b, rfl, ?_⟩
    cases b
    · exact iteT (h.2 rfl)
    · exact iteF (h.1 rfl)
  · exact h.elim
theorem kII : kitB "int" "int" = some true := by decide +kernel
theorem kIB : kitB "int" "bool" = some false := by decide +kernel
theorem pure_is_column (vs : List V) (H : Hp) (Q : VK) (E : XK) (h : sp_is_column K vs H Q E) : t_is_column K { nx := fun _ H' => Q .non H', rt := Q } (start N_is_column vs) H := by
  unfold sp_is_column at h
  split at h
  · rename_i c n
    refine ⟨_, rfl, _, _, _, _, _, rfl, .ty "int", .base (.int c), kit_ty kII, true, rfl, iteT ?_⟩
    refine ⟨_, rfl, _, _, _, _, _, rfl, .ty "bool", .base (.int c), kit_ty kIB, false, rfl, true, rfl, iteT ?_⟩
    refine ⟨_, rfl, _, _, rfl, rfl, _, rfl, ?_⟩
    by_cases h0 : 0 ≤ c
    · rw [decide_eq_true h0] at h ⊢
      exact iteT ⟨_, rfl, _, _, rfl, rfl, h⟩
    · rw [decide_eq_false h0] at h ⊢
      exact iteF h
  · exact h.elim
theorem pure_key_of (vs : List V) (H : Hp) (Q : VK) (E : XK) (h : sp_key_of K vs H Q E) : t_key_of K { nx := fun _ H' => Q .non H', rt := Q } (start N_key_of vs) H := by
  unfold sp_key_of at h
  split at h
  · rename_i t v
    obtain ⟨xs, by_, rfl, hs, hb, q⟩ := h
    refine ⟨_, rfl, rfl, _, rfl, ?_⟩
    cases by_ with
    | none => exact iteT q
    | some c =>
      have lt := hb c rfl
      refine iteF ⟨_, rfl, _, rfl, t, _, _, _, rfl, rfl, hs, atI_nat (j := c) (by rw [List.getElem?_map, List.getElem?_eq_getElem lt]; rfl), ?_⟩
      have e : keyR (some c) xs = xs[c] := by
        show xs.getD c 0 = _
        rw [List.getD_eq_getElem?_getD, List.getElem?_eq_getElem lt]
        rfl
      rw [e] at q
      exact q
  · exact h.elim
theorem pure_width_of (vs : List V) (H : Hp) (Q : VK) (E : XK) (h : sp_width_of K vs H Q E) : t_width_of K (fun cls d _ H => E cls d H) { nx := fun _ H' => Q .non H', rt := Q } (start N_width_of vs) H := by
  unfold sp_width_of at h
  split at h
  · rename_i a
    obtain ⟨R, n, rw, wd, k0, k1⟩ := h
    obtain ⟨kvs, hd, hp⟩ := rw.ex
    have hl := paired_len hp
    have few := rw.ok.few
    refine ⟨_, rfl, a, kvs, rfl, hd, _, _, rfl, rfl, fun hb => ?_, fun hb => ?_⟩
    · have h0 : 0 < kvs.length := by
        have := of_decide_eq_true hb
        omega
      have ne : R ≠ [] := fun e => by
        rw [e] at hl
        simp at hl
        rw [hl] at h0
        simp at h0
      refine ⟨a, .dK kvs, hd, trivial, fun od => ?_⟩
      have lens : ∀ kv ∈ kvs, ∃ (t : Addr) (xs : List Int), kv.2 = V.ref t ∧ SqT K H t (xs.map V.int) ∧ xs.length = n := fun kv hkv => by
        obtain ⟨i, hi⟩ := List.mem_iff_getElem?.mp hkv
        obtain ⟨r, hr, _, t, e, ht⟩ := paired_at hp hi
        exact ⟨t, r.2, e, ht, wd r (List.mem_of_getElem? hr)⟩
      refine lcv (o := od) (kvs := kvs) (fun _ => V.int (n : Int)) rfl upd_same (by omega) (fun kv hkv acc D R hD r => ?_) (fun D hD => ?_)
      · obtain ⟨t, xs, e, ht, hn⟩ := lens kv hkv
        rw [e]
        have ht2 : SqT K (upd (upd H a (.frz od (.dK kvs))) D (.lst acc)) t (xs.map V.int) := Same.seqT (same_new hD) (seqT_dict hd ht)
        refine ⟨_, rfl, t, _, rfl, .inr ht2, ?_⟩
        rw [List.length_map, hn]
        exact r
      · have naD : a ≠ D := fun e => by
          rw [← e, upd_same] at hD
          cases hD
        refine ⟨(upd_ne naD).trans upd_same, D, kvs.map fun _ => (n : Int), rfl, SqL.of ?_, by rw [List.length_map]; exact h0, fun m hm _ => ?_⟩
        · rw [upd_ne naD.symm, upd_same, List.map_map]
          rfl
        · obtain ⟨_, _, e⟩ := List.mem_map.mp hm
          rw [← e]
          refine k1 ne _ (thaw2 (od := od) hd fun b x hb e => ?_)
          have : b ≠ D := fun z => by
            rw [← z, upd_ne hb, e] at hD
            cases hD
          rw [upd_ne this, upd_ne hb]
          exact e
    · have h0 : kvs.length = 0 := by
        have := of_decide_eq_false hb
        omega
      exact k0 (List.length_eq_zero_iff.mp (by rw [← hl]; exact h0))
  · exact h.elim
theorem pure_copied (vs : List V) (H : Hp) (Q : VK) (E : XK) (h : sp_copied K vs H Q E) : t_copied K (fun cls d _ H => E cls d H) { nx := fun _ H' => Q .non H', rt := Q } (start N_copied vs) H := by
  unfold sp_copied at h
  split at h
  · rename_i a
    obtain ⟨R, rw, k0, k1⟩ := h
    obtain ⟨kvs, hd, hp⟩ := rw.ex
    have hl := paired_len hp
    have few := rw.ok.few
    refine ⟨_, rfl, a, kvs, rfl, hd, _, _, rfl, rfl, fun hb => ?_, fun hb => ?_⟩
    · have h0 : 0 < kvs.length := by
        have := of_decide_eq_true hb
        omega
      have ne : R ≠ [] := fun e => by
        rw [e] at hl
        simp at hl
        rw [hl] at h0
        simp at h0
      intro d nd
      have s1 := same_new (o := .dK []) nd
      refine ⟨_, rfl, a, kvs, R.map (·.1), rfl, .inl (s1 _ _ hd), da_keys rowEnt_k hp, by rw [List.length_map]; omega, fun ys p py sy np => ?_⟩
      have nodup : ys.Nodup := py.nodup_iff.mpr rw.ok.nd
      have ylen : ys.length = R.length := by rw [py.length_eq, List.length_map]
      have s2 := s1.new (o := .lst (ys.map V.int)) np
      have ndp : d ≠ p := fun e => by
        rw [← e, upd_same] at np
        cases np
      refine ⟨p, rfl, ⟨_, SqL.of upd_same⟩, for_list (K := K) (a := p) (xs := ys.map V.int)
        (fun i σ H' => ∃ v2, σ = [some (.ref a), some (.ref d), v2] ∧ Same H H' ∧ H' p = some (.lst (ys.map V.int)) ∧ Bld K H' d ((ys.take i).map fun k => (k, rowA R k)))
        ⟨_, rfl, s2, upd_same, _, (upd_ne ndp).trans upd_same, .nil⟩ (fun i σ H' _ ⟨_, _, _, e, _⟩ => SqL.of e) ?_ ?_⟩
      · rintro i y σ H' hi ⟨v2, rfl, sH, hpp, fk, hfk, pf⟩
        rw [List.getElem?_map] at hi
        cases hy : ys[i]? with
        | none => rw [hy] at hi; cases hi
        | some k =>
          rw [hy] at hi
          cases hi
          have km : k ∈ R.map (·.1) := py.mem_iff.mp (List.mem_of_getElem? hy)
          obtain ⟨t, x, hv, hx, ht⟩ := row_at (L2.Paired.mapP hp (rowEnt_same sH)) km
          have ex : rowA R k = x := by
            unfold rowA
            rw [hx]
            rfl
          have fl := paired_len pf
          rw [List.length_map, List.length_take] at fl
          have hnew : k ∉ ((ys.take i).map fun k => (k, rowA R k)).map (·.1) := by
            rw [List.map_map]
            intro z
            obtain ⟨k', hk', e⟩ := List.mem_map.mp z
            have e : k' = k := e
            subst e
            exact take_fresh nodup hy hk'
          refine ⟨_, rfl, _, rfl, a, .ref t, rfl, .inl ⟨kvs, Sum.inl k, .inl (sH _ _ hd), rfl, hv.symm⟩, _, rfl, _, rfl, d, _, rfl, DPut.k (k := Sum.inl k) hfk (by rw [fl, sizeLine_eq]; omega), ?_⟩
          refine ⟨_, rfl, U.Same.mut sH nd, (upd_ne (Ne.symm ndp)).trans hpp, ?_⟩
          have b := Bld.put (k := k) (v := .ref t) (x := x) hfk pf ⟨rfl, t, rfl, ht⟩
          rw [putA_new hnew] at b
          rw [take_snoc hy, List.map_append]
          show Bld K _ d (_ ++ [(k, rowA R k)])
          rw [ex]
          exact b
      · rintro σ H' ⟨v2, rfl, sH, hpp, b⟩
        rw [List.length_map, List.take_length] at b
        have pr := perm_rows rw.ok.nd py
        obtain ⟨fk, hfk, pf⟩ := b
        exact ⟨_, rfl, k1 ne d _ H' pr ⟨⟨fk, hfk, pf⟩, rw.ok.perm pr⟩ nd sH⟩
    · have h0 : kvs.length = 0 := by
        have := of_decide_eq_false hb
        omega
      exact k0 (List.length_eq_zero_iff.mp (by rw [← hl]; exact h0))
  · exact h.elim
/-! ### cut -/
theorem kLL : kitB "list" "list" = some true := by decide +kernel
theorem tyL {H : Hp} {a : Addr} {xs : List V} (h : SqL K H a xs) : TyX K H (.ref a) (.type "list") := by
  rcases h with (h | ⟨o, h⟩) | h
  · exact .base (.lst h)
  · exact .base (.frz h)
  · obtain ⟨o, its, n, hk, hc, _⟩ := h
    exact .kList hk hc
theorem kitLT : PySem.W.kitAny K (.type "list") [.type "list", .type "tuple"] = some true := kitAny_cons (b := true) (kit_ty kLL) (fun e => by cases e) (fun _ => rfl)
/-- isinstance(x, (list, tuple)) and 1 <= len(x) <= most, of a list -/
theorem need_seq {H : Hp} {Q : VK} {W : WX} {σ : L2.St} {i : Nat} {c : Addr} {xs : List V} {most : Int} (hi : σ[i]? = some (some (.ref c))) (hc : SqL K H c xs) (h1 : 1 ≤ xs.length) (hm : (xs.length : Int) ≤ most) (k : ∀ H', Same H H' → Q .non H') :
    (tCl (sp_need K) [] (WE W) (tCons (tAndV (tCB (rIsiT K) (tCons (tVar i) (tCons (tTup (tCons (tC (.ty "list")) (tCons (tC (.ty "tuple")) tNil))) tNil))) (tChain rLeI rLeI (tC (.int 1)) (tCB (rLenSeq K) (tCons (tVar i) tNil)) (tC (.int most)))) tNil)) σ H Q := by
  refine ⟨_, hi, (by show 2 ≤ sizeLine; decide), fun t nt => ?_⟩
  have s1 := same_new (o := .tup [V.ty "list", V.ty "tuple"]) nt
  refine ⟨_, t, _, _, _, true, rfl, upd_same, .cons (.ty _) (.cons (.ty _) .nil), tyL (s1.seq hc), kitLT, true, rfl, iteT ?_⟩
  refine ⟨_, hi, c, _, rfl, .inl (s1.seq hc), _, _, rfl, rfl, _, rfl, ?_⟩
  rw [decide_eq_true (show (1 : Int) ≤ xs.length by omega)]
  exact iteT ⟨_, _, rfl, rfl, fun _ => k _ s1, fun z => absurd hm (of_decide_eq_false z)⟩
def colB (n : Nat) : V → V
  | .int c => .bl (decide (0 ≤ c) && decide (c < (n : Int)))
  | _ => .bl false
theorem getI {xs : List Int} {c : Nat} (h : c < xs.length) : atI (xs.map V.int) (c : Int) = some (V.int (xs.getD c 0)) := by
  refine atI_nat ?_
  rw [List.getElem?_map, List.getD_eq_getElem?_getD, List.getElem?_eq_getElem h]
  rfl
def cutV' (x : List Int) : V → V
  | .int c => .int (x.getD c.toNat 0)
  | _ => .non
theorem pure_cut (vs : List V) (H : Hp) (Q : VK) (E : XK) (h : sp_cut K vs H Q E) : t_cut K (fun cls d _ H => E cls d H) { nx := fun _ H' => Q .non H', rt := Q } (start N_cut vs) H := by
  unfold sp_cut at h
  split at h
  · rename_i a c
    obtain ⟨R, n, cs, rw, wd, ne, hc, c1, c12, cn, q⟩ := h
    have lenC : (cs.map fun (i : Nat) => V.int (i : Int)).length = cs.length := List.length_map _
    refine ⟨_, rfl, R, n, rw, wd, fun e => absurd e ne, fun _ H1 s1 => ?_⟩
    refine need_seq rfl (s1.seq hc) (by rw [lenC]; exact c1) (by rw [lenC]; omega) fun H2 s2 => ?_
    have s02 := s1.trans s2
    have hc2 := s02.seq hc
    refine ⟨_, rfl, c, rfl, ⟨_, hc2⟩, fun D hD => ?_⟩
    refine lcl_m (colB n) hc2 hD (by rw [lenC]; omega) (fun v acc R' hv r => ?_) ?_
    · obtain ⟨i, hi, rfl⟩ := List.mem_map.mp hv
      exact ⟨_, rfl, _, rfl, r⟩
    have allT : ((cs.map fun (i : Nat) => V.int (i : Int)).map (colB n)) = (cs.map fun _ => true).map V.bl := by
      rw [List.map_map, List.map_map]
      refine List.map_congr_left fun i hi => ?_
      show V.bl (decide (0 ≤ (i : Int)) && decide ((i : Int) < (n : Int))) = V.bl true
      have := cn i hi
      rw [decide_eq_true (by omega), decide_eq_true (by omega)]
      rfl
    refine ⟨D, cs.map fun _ => true, rfl, SqL.of (by rw [upd_same, allT]), ?_⟩
    have e1 : (cs.map fun _ => true).all id = true := by
      rw [List.all_map]
      exact List.all_eq_true.mpr fun _ _ => rfl
    rw [e1]
    refine ⟨fun _ => ?_, fun z => by cases z⟩
    have s3 := s02.new (o := .lst ((cs.map fun (i : Nat) => V.int (i : Int)).map (colB n))) hD
    generalize upd H2 D (.lst ((cs.map fun (i : Nat) => V.int (i : Int)).map (colB n))) = H3 at s3 ⊢
    obtain ⟨kvs, hd, hp⟩ := (rw.keep s3).ex
    have hc3 := s3.seq hc
    have few := rw.ok.few
    intro d nd
    have s4 := same_new (o := .dK []) nd
    refine ⟨_, rfl, a, kvs, R.map (·.1), rfl, .inl (s4 _ _ hd), da_keys rowEnt_k hp, by rw [List.length_map]; omega, fun ys p py sy np => ?_⟩
    have nodup : ys.Nodup := py.nodup_iff.mpr rw.ok.nd
    have ylen : ys.length = R.length := by rw [py.length_eq, List.length_map]
    have s5 := s4.new (o := .lst (ys.map V.int)) np
    have ndp : d ≠ p := fun e => by
      rw [← e, upd_same] at np
      cases np
    let F : Int → Int × List Int := fun k => (k, cs.map fun i => (rowA R k).getD i 0)
    refine ⟨p, rfl, ⟨_, SqL.of upd_same⟩, for_list (K := K) (a := p) (xs := ys.map V.int)
      (fun i σ H' => ∃ v4, σ = [some (.ref a), some (.ref c), some (.int (n : Int)), some (.ref d), v4, none] ∧ Same H3 H' ∧ H' p = some (.lst (ys.map V.int)) ∧ Bld K H' d ((ys.take i).map F))
      ⟨_, rfl, s5, upd_same, _, (upd_ne ndp).trans upd_same, .nil⟩ (fun i σ H' _ ⟨_, _, _, e, _⟩ => SqL.of e) ?_ ?_⟩
    · rintro i y σ H' hi ⟨v4, rfl, sH, hpp, b⟩
      rw [List.getElem?_map] at hi
      cases hy : ys[i]? with
      | none => rw [hy] at hi; cases hi
      | some k =>
        rw [hy] at hi
        cases hi
        have km : k ∈ R.map (·.1) := py.mem_iff.mp (List.mem_of_getElem? hy)
        obtain ⟨t, x, hv, hx, ht⟩ := row_at (L2.Paired.mapP hp (rowEnt_same sH)) km
        have ex : rowA R k = x := by
          unfold rowA
          rw [hx]
          rfl
        have xl : x.length = n := wd (k, x) (lookA_mem hx)
        refine ⟨_, rfl, c, rfl, ⟨_, sH.seq hc3⟩, fun D2 hD2 => ?_⟩
        refine lcl_m (cutV' x) (sH.seq hc3) hD2 (by rw [lenC]; omega) (fun v acc R' hv' r => ?_) ?_
        · obtain ⟨j, hj, rfl⟩ := List.mem_map.mp hv'
          have sD := same_new (o := .lst acc) hD2
          exact ⟨_, rfl, _, rfl, a, .ref t, rfl, .inl ⟨kvs, Sum.inl k, .inl (sD _ _ (sH _ _ hd)), rfl, hv.symm⟩, _, rfl, t, _, _, _, rfl, rfl, Same.seqT sD ht, getI (by rw [xl]; exact cn j hj), r⟩
        have eL : (cs.map fun (i : Nat) => V.int (i : Int)).map (cutV' x) = (cs.map fun i => x.getD i 0).map V.int := by
          rw [List.map_map, List.map_map]
          rfl
        rw [eL]
        have sD := same_new (o := .lst ((cs.map fun i => x.getD i 0).map V.int)) hD2
        refine ⟨D2, _, rfl, .inl ⟨SqL.of upd_same, fun l nl => ?_⟩⟩
        have sl := sD.new (o := .tup ((cs.map fun i => x.getD i 0).map V.int)) nl
        obtain ⟨fk, hfk, pf⟩ := b.keep sl
        have fl := paired_len pf
        rw [List.length_map, List.length_take] at fl
        have hnew : k ∉ ((ys.take i).map F).map (·.1) := by
          rw [List.map_map]
          intro z
          obtain ⟨k', hk', e⟩ := List.mem_map.mp z
          have e : k' = k := e
          subst e
          exact take_fresh nodup hy hk'
        have hd0 : (upd (upd H' D2 (.lst ((cs.map fun i => x.getD i 0).map V.int))) l (.tup ((cs.map fun i => x.getD i 0).map V.int))) d = some (.dK fk) := hfk
        refine ⟨_, rfl, _, rfl, d, _, rfl, DPut.k (k := Sum.inl k) hfk (by rw [fl, sizeLine_eq]; omega), ?_⟩
        refine ⟨_, rfl, U.Same.mut (sH.trans sl) nd, (upd_ne (Ne.symm ndp)).trans (sl _ _ hpp), ?_⟩
        have b := Bld.put (k := k) (v := .ref l) (x := cs.map fun i => x.getD i 0) hfk pf ⟨rfl, l, rfl, .inl (.inl upd_same)⟩
        rw [putA_new hnew] at b
        rw [take_snoc hy, List.map_append]
        show Bld K _ d (_ ++ [F k])
        have eF : F k = (k, cs.map fun i => x.getD i 0) := by
          show (k, cs.map fun i => (rowA R k).getD i 0) = _
          rw [ex]
        rw [eF]
        exact b
    · rintro σ H' ⟨v4, rfl, sH, hpp, b⟩
      rw [List.length_map, List.take_length] at b
      have pr : (ys.map F).Perm (cutR cs R) := by
        have := (perm_rows rw.ok.nd py).map fun r : Int × List Int => (r.1, cs.map fun i => r.2.getD i 0)
        rw [List.map_map] at this
        exact this
      have gd : Good (cutR cs R) := .of (by
        unfold cutR
        rw [List.map_map]
        exact rw.ok.nd) fun r hr => by
          obtain ⟨r', hr', rfl⟩ := List.mem_map.mp hr
          exact rw.ok.rng r' hr'
      obtain ⟨fk, hfk, pf⟩ := b
      exact ⟨_, rfl, q d _ H' pr ⟨⟨fk, hfk, pf⟩, gd.perm pr⟩ (s3.free nd) (s3.trans sH)⟩
  · exact h.elim
/-! ### joined -/
theorem joinR_good {A B : Rw} (g : Good A) : Good (joinR A B) := by
  have sub : (joinR A B).map (·.1) = (A.filter fun r => (lookA B r.1).isSome).map (·.1) := by
    unfold joinR
    induction A with
    | nil => rfl
    | cons r A ih =>
      have ih := ih (g.sub (List.sublist_cons_self ..))
      unfold joinRow at ih ⊢
      cases hb : lookA B r.1 with
      | none => simp only [List.filterMap_cons, List.filter_cons, hb, Option.map_none, Option.isSome_none, Bool.false_eq_true, if_false]; exact ih
      | some b => simp only [List.filterMap_cons, List.filter_cons, hb, Option.map_some, Option.isSome_some, if_true, List.map_cons, ih]
  refine .of ?_ fun r hr => ?_
  · rw [sub]
    exact g.nd.sublist ((List.filter_sublist).map _)
  · obtain ⟨r', hr', e⟩ := List.mem_filterMap.mp hr
    unfold joinRow at e
    cases hb : lookA B r'.1 with
    | none => rw [hb] at e; cases e
    | some b =>
      rw [hb] at e
      cases e
      exact g.rng r' hr'
theorem pure_joined (vs : List V) (H : Hp) (Q : VK) (E : XK) (h : sp_joined K vs H Q E) : t_joined K (fun cls d _ H => E cls d H) { nx := fun _ H' => Q .non H', rt := Q } (start N_joined vs) H := by
  unfold sp_joined at h
  split at h
  · rename_i a b
    obtain ⟨A, B, n, m, rA, rB, wA, wB, neA, neB, n1, n12, q⟩ := h
    refine ⟨_, rfl, A, n, rA, wA, fun e => absurd e neA, fun _ H1 s1 => ?_⟩
    refine ⟨_, rfl, B, m, rB.keep s1, wB, fun e => absurd e neB, fun _ H2 s2 => ?_⟩
    refine ⟨_, _, rfl, rfl, _, _, rfl, rfl, fun _ => ?_, fun z => absurd (show (n : Int) + (m : Int) ≤ 12 by omega) (of_decide_eq_false z)⟩
    have s3 := s1.trans s2
    obtain ⟨kvs, hd, hp⟩ := (rA.keep s3).ex
    obtain ⟨kvb, hdb, hpb⟩ := (rB.keep s3).ex
    have few := rA.ok.few
    intro d nd
    have s4 := same_new (o := .dK []) nd
    refine ⟨_, rfl, a, kvs, A.map (·.1), rfl, .inl (s4 _ _ hd), da_keys rowEnt_k hp, by rw [List.length_map]; omega, fun ys p py sy np => ?_⟩
    have nodup : ys.Nodup := py.nodup_iff.mpr rA.ok.nd
    have ylen : ys.length = A.length := by rw [py.length_eq, List.length_map]
    have s5 := s4.new (o := .lst (ys.map V.int)) np
    have ndp : d ≠ p := fun e => by
      rw [← e, upd_same] at np
      cases np
    let F : Int → Option (Int × List Int) := fun k => joinRow B (k, rowA A k)
    have Fkey : ∀ k r, F k = some r → r.1 = k := fun k r e => by
      have e : (lookA B k).map (fun b => (k, rowA A k ++ b)) = some r := e
      cases hb : lookA B k with
      | none => rw [hb] at e; cases e
      | some b => rw [hb] at e; cases e; rfl
    refine ⟨p, rfl, ⟨_, SqL.of upd_same⟩, for_list (K := K) (a := p) (xs := ys.map V.int)
      (fun i σ H' => ∃ v3, σ = [some (.ref a), some (.ref b), some (.ref d), v3] ∧ Same H2 H' ∧ H' p = some (.lst (ys.map V.int)) ∧ Bld K H' d ((ys.take i).filterMap F))
      ⟨_, rfl, s5, upd_same, _, (upd_ne ndp).trans upd_same, .nil⟩ (fun i σ H' _ ⟨_, _, _, e, _⟩ => SqL.of e) ?_ ?_⟩
    · rintro i y σ H' hi ⟨v3, rfl, sH, hpp, bl⟩
      rw [List.getElem?_map] at hi
      cases hy : ys[i]? with
      | none => rw [hy] at hi; cases hi
      | some k =>
        rw [hy] at hi
        cases hi
        have km : k ∈ A.map (·.1) := py.mem_iff.mp (List.mem_of_getElem? hy)
        obtain ⟨t, x, hv, hx, ht⟩ := row_at (L2.Paired.mapP hp (rowEnt_same sH)) km
        have ex : rowA A k = x := by
          unfold rowA
          rw [hx]
          rfl
        have xl : x.length = n := wA (k, x) (lookA_mem hx)
        refine ⟨_, rfl, _, rfl, b, _, rfl, DGet.k (k := Sum.inl k) (sH _ _ hdb), _, rfl, ?_⟩
        rcases da_val rowEnt_k (L2.Paired.mapP hpb (rowEnt_same sH)) k with ⟨h1, h2⟩ | ⟨vb, xb, h1, h2, _, tb, e2, htb⟩
        · rw [h1]
          refine iteF ⟨_, rfl, sH, hpp, ?_⟩
          have : F k = none := by
            show (lookA B k).map _ = none
            rw [h2]
            rfl
          rw [take_snoc hy, List.filterMap_append]
          simp only [List.filterMap_cons, List.filterMap_nil, this, List.append_nil]
          exact bl
        · have e2 : vb = .ref tb := e2
          subst e2
          rw [h1]
          have xbl : xb.length = m := wB (k, xb) (lookA_mem h2)
          have eF : F k = some (k, x ++ xb) := by
            show (lookA B k).map (fun b => (k, rowA A k ++ b)) = _
            rw [h2, ex]
            rfl
          have hnew : k ∉ ((ys.take i).filterMap F).map (·.1) := by
            intro z
            obtain ⟨r, hr, e⟩ := List.mem_map.mp z
            obtain ⟨k', hk', e'⟩ := List.mem_filterMap.mp hr
            have := Fkey k' r e'
            rw [e] at this
            rw [← this] at hk'
            exact take_fresh nodup hy hk'
          have fin : ∀ (l : Addr) (H4 : Hp), Same H' H4 → SqT K H4 l ((x ++ xb).map V.int) → ∃ a_1 H4_1, V.ref d = V.ref a_1 ∧ DPut H4 a_1 (.int k) (.ref l) H4_1 ∧ ∃ v3, [some (V.ref a), some (V.ref b), some (V.ref d), some (V.int k)] = [some (V.ref a), some (V.ref b), some (V.ref d), v3] ∧ Same H2 H4_1 ∧ H4_1 p = some (.lst (ys.map V.int)) ∧ Bld K H4_1 d ((ys.take (i + 1)).filterMap F) := fun l H4 sl hl => by
            obtain ⟨fk, hfk, pf⟩ := bl.keep sl
            have fl := paired_len pf
            have fle : ((ys.take i).filterMap F).length ≤ ys.length := Nat.le_trans (List.length_filterMap_le _ _) (by rw [List.length_take]; omega)
            refine ⟨d, _, rfl, DPut.k (k := Sum.inl k) hfk (by rw [fl, sizeLine_eq]; omega), _, rfl, U.Same.mut (sH.trans sl) nd, (upd_ne (Ne.symm ndp)).trans (sl _ _ hpp), ?_⟩
            have b2 := Bld.put (k := k) (v := .ref l) (x := x ++ xb) hfk pf ⟨rfl, l, rfl, hl⟩
            rw [putA_new hnew] at b2
            rw [take_snoc hy, List.filterMap_append]
            simp only [List.filterMap_cons, List.filterMap_nil, eF]
            exact b2
          refine iteT ⟨_, rfl, _, rfl, a, .ref t, rfl, .inl ⟨kvs, Sum.inl k, .inl (sH _ _ hd), rfl, hv.symm⟩, _, rfl, _, rfl, b, .ref tb, rfl, .inl ⟨kvb, Sum.inl k, .inl (sH _ _ hdb), rfl, h1.symm⟩, t, tb, _, _, rfl, rfl, ht, htb, ?_, ?_, fun e => ?_, fun e l nl => ?_⟩
          · intro z
            have := congrArg List.length z
            rw [List.length_map] at this
            simp at this
            rw [this] at xl
            simp at xl
            omega
          · rw [List.length_map, List.length_map, xl, xbl, sizeLine_eq]
            omega
          · have xb0 : xb = [] := List.map_eq_nil_iff.mp e
            exact ⟨_, rfl, _, rfl, fin t H' (Same.refl H') (by rw [xb0, List.append_nil]; exact ht)⟩
          · exact ⟨_, rfl, _, rfl, fin l _ (same_new nl) (.inl (.inl (by rw [upd_same, List.map_append])))⟩
    · rintro σ H' ⟨v3, rfl, sH, hpp, bl⟩
      rw [List.length_map, List.take_length] at bl
      have pr : (ys.filterMap F).Perm (joinR A B) := by
        have := (perm_rows rA.ok.nd py).filterMap (joinRow B)
        rw [List.filterMap_map] at this
        exact this
      obtain ⟨fk, hfk, pf⟩ := bl
      exact ⟨_, rfl, q d _ H' pr ⟨⟨fk, hfk, pf⟩, (joinR_good rA.ok).perm pr⟩ (s3.free nd) (s3.trans sH)⟩
  · exact h.elim
end G

set_option Elab.async false
set_option linter.all false
set_option maxRecDepth 100000
set_option maxHeartbeats 4000000
/-! summed keeps its promise. -/
namespace G
open PySem PySem.Spec PyProof.Rows L2 U
variable {K : PySem.W.Frag}
/-! ### one entry more -/
theorem putA_keys {α : Type} (l : List (Int × α)) (k : Int) (x : α) : (putA l k x).map (·.1) = if k ∈ l.map (·.1) then l.map (·.1) else l.map (·.1) ++ [k] := by
  unfold putA
  have hany : (l.any fun q => decide (q.1 = k)) = true ↔ k ∈ l.map (·.1) := by
    rw [List.any_eq_true, List.mem_map]
    exact ⟨fun ⟨q, hq, e⟩ => ⟨q, hq, of_decide_eq_true e⟩, fun ⟨q, hq, e⟩ => ⟨q, hq, decide_eq_true e⟩⟩
  by_cases c : k ∈ l.map (·.1)
  · rw [if_pos (hany.mpr c), if_pos c, List.map_map]
    refine List.map_congr_left fun q _ => ?_
    show (if q.1 = k then (q.1, x) else q).1 = q.1
    split <;> rfl
  · rw [if_neg (fun z => c (hany.mp z)), if_neg c, List.map_append]
    rfl
theorem putA_mem {α : Type} {l : List (Int × α)} {k : Int} {x : α} {g : Int × α} (h : g ∈ putA l k x) : g = (k, x) ∨ (g ∈ l ∧ g.1 ≠ k) := by
  unfold putA at h
  by_cases c : (l.any fun q => decide (q.1 = k)) = true
  · rw [if_pos c] at h
    obtain ⟨q, hq, e⟩ := List.mem_map.mp h
    by_cases ck : q.1 = k
    · rw [if_pos ck] at e
      rw [ck] at e
      exact .inl e.symm
    · rw [if_neg ck] at e
      subst e
      exact .inr ⟨hq, ck⟩
  · rw [if_neg c] at h
    rcases List.mem_append.mp h with h | h
    · refine .inr ⟨h, fun e => c (List.any_eq_true.mpr ⟨g, h, decide_eq_true e⟩)⟩
    · exact .inl (List.mem_singleton.mp h)
theorem sumOf_app (es : List Ent) (e : Ent) (k : Int) : sumOf (es ++ [e]) k = sumOf es k + if e.2.1 = k then e.2.2 else 0 := by
  unfold sumOf
  rw [List.filter_append, List.map_append, List.sum_append]
  congr 1
  by_cases c : e.2.1 = k
  · rw [if_pos c]
    simp [c]
  · rw [if_neg c]
    simp [c]
theorem sumOf_none {es : List Ent} {k : Int} (h : ∀ e ∈ es, e.2.1 ≠ k) : sumOf es k = 0 := by
  unfold sumOf
  have : (es.filter fun e => decide (e.2.1 = k)) = [] := List.filter_eq_nil_iff.mpr fun e he => by simp [h e he]
  rw [this]
  rfl
theorem Sm.nil : Sm [] [] := ⟨List.nodup_nil, by simp, by simp, by simp, by simp, by simp⟩
theorem Sm.step {es : List Ent} {G : Gs} {p k v n : Int} {ps ns : List Int} (S : Sm es G) (h : lookA G k = some (ps, n) ∨ (lookA G k = none ∧ ps = [] ∧ n = 0)) (srt : ns.Pairwise (· < ·)) (mem : ∀ x, x ∈ ns ↔ x ∈ ps ∨ x = p) :
    Sm (es ++ [(p, k, v)]) (putA G k (ns, n + v)) := by
  have isn : n = sumOf es k ∧ ∀ x, x ∈ ps ↔ ∃ e ∈ es, e.2.1 = k ∧ e.1 = x := by
    rcases h with h | ⟨h, rfl, rfl⟩
    · have hm := lookA_mem h
      exact ⟨S.num _ hm, S.mem _ hm⟩
    · have no : ∀ e ∈ es, e.2.1 ≠ k := fun e he c => lookA_none.mp h (by rw [← c]; exact S.cov e he)
      refine ⟨(sumOf_none no).symm, fun x => ⟨fun z => (List.not_mem_nil z).elim, fun ⟨e, he, c, _⟩ => absurd c (no e he)⟩⟩
  have keys := putA_keys G k (ns, n + v)
  refine ⟨?_, fun e he => ?_, fun g hg => ?_, fun g hg => ?_, fun g hg x => ?_, fun g hg => ?_⟩
  · rw [keys]
    split
    · exact S.nd
    · rename_i c
      rw [List.nodup_append]
      exact ⟨S.nd, by simp, fun a ha b hb e => c (by rw [← List.mem_singleton.mp hb, ← e]; exact ha)⟩
  · rw [keys]
    rcases List.mem_append.mp he with he | he
    · have := S.cov e he
      split
      · exact this
      · exact List.mem_append_left _ this
    · rw [List.mem_singleton.mp he]
      split
      · assumption
      · exact List.mem_append_right _ (List.mem_singleton.mpr rfl)
  · rcases putA_mem hg with rfl | ⟨hg, _⟩
    · exact ⟨_, List.mem_append_right _ (List.mem_singleton.mpr rfl), rfl⟩
    · obtain ⟨e, he, c⟩ := S.hit g hg
      exact ⟨e, List.mem_append_left _ he, c⟩
  · rcases putA_mem hg with rfl | ⟨hg, _⟩
    · exact srt
    · exact S.srt g hg
  · rcases putA_mem hg with rfl | ⟨hg, nk⟩
    · show x ∈ ns ↔ _
      rw [mem, isn.2]
      constructor
      · rintro (⟨e, he, c⟩ | rfl)
        · exact ⟨e, List.mem_append_left _ he, c⟩
        · exact ⟨_, List.mem_append_right _ (List.mem_singleton.mpr rfl), rfl, rfl⟩
      · rintro ⟨e, he, c1, c2⟩
        rcases List.mem_append.mp he with he | he
        · exact .inl ⟨e, he, c1, c2⟩
        · rw [List.mem_singleton.mp he] at c2
          exact .inr c2.symm
    · rw [S.mem g hg]
      constructor
      · rintro ⟨e, he, c⟩
        exact ⟨e, List.mem_append_left _ he, c⟩
      · rintro ⟨e, he, c1, c2⟩
        rcases List.mem_append.mp he with he | he
        · exact ⟨e, he, c1, c2⟩
        · rw [List.mem_singleton.mp he] at c1
          exact absurd c1.symm nk
  · rcases putA_mem hg with rfl | ⟨hg, nk⟩
    · show n + v = sumOf _ k
      rw [sumOf_app, if_pos rfl, isn.1]
    · rw [sumOf_app, if_neg (fun c => nk c.symm), S.num g hg]
      omega
/-! ### the dict that is made -/
theorem lst_dict {H : Hp} {d l : Addr} {kvs : List (Key × V)} {o : HO} {xs : List V} (hd : H d = some (.dK kvs)) (h : H l = some (.lst xs)) : (upd H d o) l = some (.lst xs) := (upd_ne (ne_of h hd (by intro z; cases z))).trans h
theorem SumsAt.put {H : Hp} {d : Addr} {G : Gs} {kvs : List (Key × V)} {k : Int} {v : V} {x : List Int × Int} (hd : H d = some (.dK kvs)) (hp : Paired (sumEnt K H) kvs G) (he : sumEnt K H (Sum.inl k, v) (k, x)) :
    SumsAt K (upd H d (.dK (putK kvs (Sum.inl k) v))) d (putA G k x) := by
  refine ⟨_, upd_same, L2.Paired.mapP (da_put sumEnt_k hp he) fun kv r h => ?_⟩
  obtain ⟨e, t, l, e2, h, h2⟩ := h
  exact ⟨e, t, l, e2, seqT_dict hd h, lst_dict hd h2⟩
/-- all but a stands as before -/
def But (a : Addr) (H H' : Hp) : Prop := ∀ b x, b ≠ a → H b = some x → H' b = some x
theorem But.seqT {a t : Addr} {H H' : Hp} {kvs : List (Key × V)} {xs : List V} (hd : H a = some (.dK kvs)) (s : But a H H') (h : SqT K H t xs) : SqT K H' t xs := by
  rcases h with (h | ⟨q, h⟩) | h
  · exact .inl (.inl (s _ _ (ne_of h hd (by intro z; cases z)) h))
  · exact .inl (.inr ⟨q, s _ _ (ne_of h hd (by intro z; cases z)) h⟩)
  · exact .inr h
theorem seqT_frz {H : Hp} {a t : Addr} {od : Obj} {kvs : List (Key × V)} {o : HO} {xs : List V} (hd : H a = some (.frz od (.dK kvs))) (h : SqT K H t xs) : SqT K (upd H a o) t xs := by
  rcases h with (h | ⟨q, h⟩) | h
  · exact .inl (.inl ((upd_ne (ne_of h hd (by intro z; cases z))).trans h))
  · exact .inl (.inr ⟨q, (upd_ne (ne_of h hd (by intro z; cases z))).trans h⟩)
  · exact .inr h
theorem SumsAt.thaw {H : Hp} {a d : Addr} {od : Obj} {kvs : List (Key × V)} {o : HO} {G : Gs} (hd : H a = some (.frz od (.dK kvs))) (h : SumsAt K H d G) : SumsAt K (upd H a o) d G := by
  obtain ⟨fk, e, p⟩ := h
  refine ⟨fk, (upd_ne (ne_of e hd (by intro z; cases z))).trans e, L2.Paired.mapP p fun kv r h => ?_⟩
  obtain ⟨e1, t, l, e2, h, h2⟩ := h
  exact ⟨e1, t, l, e2, seqT_frz hd h, (upd_ne (ne_of h2 hd (by intro z; cases z))).trans h2⟩
theorem rise_nodup {l : List Int} (h : l.Pairwise (· < ·)) : l.Nodup := h.imp fun a b => Int.ne_of_lt a b
theorem colT {c : Nat} {n : Nat} (h : c < n) : V.bl (decide (0 ≤ (c : Int)) && decide ((c : Int) < (n : Int))) = V.bl true := by
  rw [decide_eq_true (by omega), decide_eq_true (by omega)]
  rfl
theorem SumsZ.put {Z : Addr → Prop} {H : Hp} {d : Addr} {G : Gs} {kvs : List (Key × V)} {k : Int} {v : V} {x : List Int × Int} (hd : H d = some (.dK kvs)) (hp : Paired (sumEntZ Z K H) kvs G) (he : sumEntZ Z K H (Sum.inl k, v) (k, x)) :
    SumsZ Z K (upd H d (.dK (putK kvs (Sum.inl k) v))) d (putA G k x) := by
  refine ⟨_, upd_same, L2.Paired.mapP (da_put sumEntZ_k hp he) fun kv r h => ?_⟩
  obtain ⟨e, t, l, e2, h, h2, z⟩ := h
  exact ⟨e, t, l, e2, seqT_dict hd h, lst_dict hd h2, z⟩
theorem SumsZ.thaw {Z : Addr → Prop} {H : Hp} {a d : Addr} {od : Obj} {kvs : List (Key × V)} {o : HO} {G : Gs} (hd : H a = some (.frz od (.dK kvs))) (h : SumsZ Z K H d G) : SumsZ Z K (upd H a o) d G := by
  obtain ⟨fk, e, p⟩ := h
  refine ⟨fk, (upd_ne (ne_of e hd (by intro z; cases z))).trans e, L2.Paired.mapP p fun kv r h => ?_⟩
  obtain ⟨e1, t, l, e2, h, h2, z⟩ := h
  exact ⟨e1, t, l, e2, seqT_frz hd h, (upd_ne (ne_of h2 hd (by intro z; cases z))).trans h2, z⟩
abbrev tStep (K : PySem.W.Frag) (w : World) : TS := (tSeq (tAsg (tCl (sp_key_of K) [] ES0 (tCons (tDGet (tVar 3) (tVar 5)) (tCons (tVar 2) tNil))) (gName 6))
  (tSeq (tAsg (tDGet2 (tVar 4) (tVar 6) (tTup (tCons (tLst tNil) (tCons (tC (.int 0)) tNil)))) (gTup K 2 (gCons (gName 7) (gCons (gName 8) gNil))))
  (sDPut (tVar 4) (tVar 6) (tTup (tCons (tCB (rSortedSet w) (tCons (tCB (rSetL K w) (tCons (tOp rCat (tVar 7) (tLst (tCons (tVar 5) tNil))) tNil)) tNil)) (tCons (tOp rAddI (tVar 8) (tOp (rIxT K) (tDGet (tVar 3) (tVar 5)) (tVar 1))) tNil))))))
/-- one person's row -/
theorem sum_step {w : World} {D : Ends} {l a d t : Addr} {od : Obj} {kvs : List (Key × V)} {H1 H : Hp} {k : Int} {x : List Int} {col n : Nat} {by_ : Option Nat} {G : Gs} {es : List Ent} {v6 v7 v8 : Option V}
    (nd : H1 d = none) (fz : H a = some (.frz od (.dK kvs))) (bt : But a H1 H) (hv : valV kvs (Sum.inl k) = some (.ref t)) (ht : SqT K H t (x.map V.int)) (xl : x.length = n) (hc : col < n) (hb : ∀ b, by_ = some b → b < n)
    (sa : SumsZ (fun l => H1 l = none) K H d G) (sm : Sm es G) (rg : ∀ e ∈ es, 0 < e.1 ∧ e.1 ≤ 60) (kr : 0 < k ∧ k ≤ 60) (gl : G.length ≤ 1000)
    (q : ∀ σ H' G', (∃ v6 v7 v8, σ = [some (.ref l), some (.int (col : Int)), some (byV by_), some (.ref a), some (.ref d), some (.int k), v6, v7, v8]) → H' a = some (.frz od (.dK kvs)) → But a H1 H' → SumsZ (fun l => H1 l = none) K H' d G' → Sm (es ++ [(k, keyR by_ x, x.getD col 0)]) G' → G'.length ≤ G.length + 1 → D.nx σ H') :
    tStep K w D [some (.ref l), some (.int (col : Int)), some (byV by_), some (.ref a), some (.ref d), some (.int k), v6, v7, v8] H := by
  have nda : d ≠ a := fun e => by
    obtain ⟨fk, e1, _⟩ := sa
    rw [e, fz] at e1
    cases e1
  refine ⟨_, rfl, _, rfl, a, .ref t, rfl, .inl ⟨kvs, Sum.inl k, .inr ⟨od, fz⟩, rfl, hv.symm⟩, _, rfl, x, by_, rfl, ht, (fun c e => by rw [xl]; exact hb c e), ?_⟩
  obtain ⟨fk, hfk, pf⟩ := sa
  refine ⟨_, rfl, d, rfl, .inl ⟨_, .inl hfk⟩, _, rfl, Nat.zero_le _, fun l0 n0 => ⟨(by show 2 ≤ sizeLine; decide), fun t0 nt0 => ?_⟩⟩
  have s1 := (same_new (o := .lst []) n0).new (o := .tup [V.ref l0, V.int 0]) nt0
  have gl0 := (same_new (o := .tup [V.ref l0, V.int 0]) nt0) _ _ (upd_same (H := H) (a := l0) (o := .lst []))
  have gt0 : (upd (upd H l0 (.lst [])) t0 (.tup [V.ref l0, V.int 0])) t0 = _ := upd_same
  generalize upd (upd H l0 (.lst [])) t0 (.tup [V.ref l0, V.int 0]) = H2 at s1 gl0 gt0 ⊢
  refine ⟨valV fk (Sum.inl (keyR by_ x)), DGet.k (k := Sum.inl (keyR by_ x)) (s1 _ _ hfk), ?_⟩
  -- whatever was there
  have go : ∀ (u lp : Addr) (ps : List Int) (m : Int), SqT K H2 u [.ref lp, .int m] → H2 lp = some (.lst (ps.map V.int)) → (lookA G (keyR by_ x) = some (ps, m) ∨ (lookA G (keyR by_ x) = none ∧ ps = [] ∧ m = 0)) →
      gTup K 2 (gCons (gName 7) (gCons (gName 8) gNil)) (.ref u) [some (.ref l), some (.int (col : Int)), some (byV by_), some (.ref a), some (.ref d), some (.int k), some (.int (keyR by_ x)), v7, v8] H2 ((sDPut (tVar 4) (tVar 6) (tTup (tCons (tCB (rSortedSet w) (tCons (tCB (rSetL K w) (tCons (tOp rCat (tVar 7) (tLst (tCons (tVar 5) tNil))) tNil)) tNil)) (tCons (tOp rAddI (tVar 8) (tOp (rIxT K) (tDGet (tVar 3) (tVar 5)) (tVar 1))) tNil)))) D) := by
    intro u lp ps m hu hlp hlook
    have psr : ps.Nodup ∧ ∀ y ∈ ps, 0 < y ∧ y ≤ 60 := by
      rcases hlook with h | ⟨_, rfl, _⟩
      · have hm := lookA_mem h
        refine ⟨rise_nodup (sm.srt _ hm), fun y hy => ?_⟩
        obtain ⟨e, he, _, c⟩ := (sm.mem _ hm y).mp hy
        rw [← c]
        exact rg e he
      · exact ⟨List.nodup_nil, by simp⟩
    have pl : ps.length ≤ 60 := nodup_len (n := 60) psr.1 psr.2
    refine ⟨u, _, rfl, hu, rfl, _, _, rfl, _, _, rfl, rfl, ?_⟩
    refine ⟨_, rfl, _, rfl, (by show 1 ≤ sizeLine; decide), fun l1 n1 => ⟨lp, l1, _, _, rfl, rfl, (same_new n1) _ _ hlp, upd_same, by rw [List.length_map, sizeLine_eq]; show ps.length + 1 ≤ _; omega, fun l2 n2 => ?_⟩⟩
    have ecat : ps.map V.int ++ [V.int k] = (ps ++ [k]).map V.int := by
      rw [List.map_append]
      rfl
    refine ⟨l2, ps ++ [k], rfl, SqL.of (by rw [upd_same, ecat]), by rw [List.length_append]; simp; omega, fun q0 c nq hcn _ => ?_⟩
    have lc : (ps ++ [k]).length = ps.length + 1 := by simp
    refine ⟨q0, _, c, rfl, upd_same, by omega, fun ns lr srt mem hlen nr => ?_⟩
    have s3 := ((s1.new (o := .lst [V.int k]) n1).new (o := .lst (ps.map V.int ++ [V.int k])) n2).new (o := SetO w q0 (fun j => decide (j ∈ ps ++ [k])) c) nq
    have newL : H1 lr = none := by
      cases e : H1 lr with
      | none => rfl
      | some y =>
        have hH : ∃ y, H lr = some y := by
          by_cases c : lr = a
          · rw [c]
            exact ⟨_, fz⟩
          · exact ⟨y, bt lr y c e⟩
        obtain ⟨y', hy⟩ := hH
        rw [s3 _ _ hy] at nr
        cases nr
    have s4 := s3.new (o := .lst (ns.map V.int)) nr
    have glr : (upd (upd (upd (upd H2 l1 (.lst [V.int k])) l2 (.lst (ps.map V.int ++ [V.int k]))) q0 (SetO w q0 (fun j => decide (j ∈ ps ++ [k])) c)) lr (.lst (ns.map V.int))) lr = _ := upd_same
    generalize upd (upd (upd (upd H2 l1 (.lst [V.int k])) l2 (.lst (ps.map V.int ++ [V.int k]))) q0 (SetO w q0 (fun j => decide (j ∈ ps ++ [k])) c)) lr (.lst (ns.map V.int)) = H4 at s4 glr ⊢
    refine ⟨_, rfl, _, rfl, _, rfl, a, .ref t, rfl, .inl ⟨kvs, Sum.inl k, .inr ⟨od, s4 _ _ fz⟩, rfl, hv.symm⟩, _, rfl, t, _, _, _, rfl, rfl, Same.seqT s4 ht, getI (by rw [xl]; exact hc), _, _, rfl, rfl, (by show 2 ≤ sizeLine; decide), fun tt ntt => ?_⟩
    have s5 := s4.new (o := .tup [V.ref lr, V.int (m + x.getD col 0)]) ntt
    have gtt : (upd H4 tt (.tup [V.ref lr, V.int (m + x.getD col 0)])) tt = _ := upd_same
    have glr5 := (same_new (o := .tup [V.ref lr, V.int (m + x.getD col 0)]) ntt) _ _ glr
    generalize upd H4 tt (.tup [V.ref lr, V.int (m + x.getD col 0)]) = H5 at s5 gtt glr5 ⊢
    have hfk5 := s5 _ _ hfk
    have fl := paired_len pf
    refine ⟨_, rfl, _, rfl, d, _, rfl, DPut.k (k := Sum.inl (keyR by_ x)) hfk5 (by rw [fl, sizeLine_eq]; omega), ?_⟩
    refine q _ _ (putA G (keyR by_ x) (ns, m + x.getD col 0)) ⟨_, _, _, rfl⟩ ((upd_ne (Ne.symm nda)).trans (s5 _ _ fz)) (fun b y nb e => ?_) (SumsZ.put hfk5 (L2.Paired.mapP pf (sumEntZ_same s5)) ⟨rfl, tt, lr, rfl, .inl (.inl gtt), glr5, newL⟩) (sm.step hlook srt fun y => ?_) ?_
    · rw [upd_ne (ne_of_none e nd)]
      exact s5 _ _ (bt b y nb e)
    · rw [mem y, decide_eq_true_eq, List.mem_append, List.mem_singleton]
    · have := congrArg List.length (putA_keys G (keyR by_ x) (ns, m + x.getD col 0))
      rw [List.length_map] at this
      rw [this]
      split
      · rw [List.length_map]
        omega
      · rw [List.length_append, List.length_map]
        simp
  rcases da_val sumEntZ_k pf (keyR by_ x) with ⟨h1, h2⟩ | ⟨v, y, h1, h2, _, u, lp, e2, hu, hlp, _⟩
  · rw [h1]
    exact go t0 l0 [] 0 (.inl (.inl gt0)) gl0 (.inr ⟨h2, rfl, rfl⟩)
  · have e2 : v = .ref u := e2
    subst e2
    rw [h1]
    exact go u lp y.1 y.2 (Same.seqT s1 hu) (s1 _ _ hlp) (.inl h2)
theorem valV_mem {kvs : List (Key × V)} {kv : Key × V} (nd : (kvs.map (·.1)).Nodup) (h : kv ∈ kvs) : valV kvs kv.1 = some kv.2 := by
  induction kvs with
  | nil => cases h
  | cons p r ih =>
    rw [List.map_cons, List.nodup_cons] at nd
    rcases List.mem_cons.mp h with rfl | h
    · exact valV_pos rfl
    · rw [valV_neg fun e => nd.1 (by rw [e]; exact List.mem_map.mpr ⟨_, h, rfl⟩)]
      exact ih nd.2 h
theorem ents_take (col : Nat) (by_ : Option Nat) {Rs : List Rw} {i : Nat} {R : Rw} (h : Rs[i]? = some R) : ents col by_ (Rs.take (i + 1)) = ents col by_ (Rs.take i) ++ entR col by_ R := by
  unfold ents
  rw [take_snoc h, List.flatMap_append]
  simp
theorem pure_summed (w : World) (vs : List V) (H : Hp) (Q : VK) (E : XK) (h : sp_summed K vs H Q E) : t_summed K (fun cls d _ H => E cls d H) w { nx := fun _ H' => Q .non H', rt := Q } (start N_summed vs) H := by
  unfold sp_summed at h
  split at h
  · rename_i l c v
    obtain ⟨as, Rs, col, by_, rfl, rfl, hl, hp, r1, r8, q⟩ := h
    have len := paired_len hp
    have lenA : (as.map V.ref).length = as.length := List.length_map _
    refine need_seq rfl hl (by rw [lenA]; omega) (by rw [lenA]; omega) fun H0 s0 => ?_
    refine ⟨_, rfl, l, rfl, ⟨_, s0.seq hl⟩, ?_⟩
    refine for_list (K := K) (a := l) (xs := as.map V.ref) (fun i σ H' => ∃ v3, σ = [some (.ref l), some (.int (col : Int)), some (byV by_), v3, none, none, none, none, none] ∧ Same H H') ⟨_, rfl, s0⟩ (fun i σ H' _ ⟨_, _, s⟩ => s.seq hl) ?_ ?_
    · rintro i y σ H' hi ⟨v3, rfl, sH⟩
      rw [List.getElem?_map] at hi
      cases ha : as[i]? with
      | none => rw [ha] at hi; cases hi
      | some a =>
        rw [ha] at hi
        cases hi
        obtain ⟨R, hR, rw, ne, n, wd, cn, bn⟩ := paired_at hp ha
        refine ⟨_, rfl, _, rfl, R, n, rw.keep sH, wd, fun e => absurd e ne, fun _ H1 s1 => ⟨true, colT cn, iteT ?_⟩⟩
        refine ⟨_, rfl, rfl, _, rfl, ?_⟩
        cases by_ with
        | none => exact iteT ⟨fun _ => ⟨_, rfl, sH.trans s1⟩, fun z => by cases z⟩
        | some b =>
          refine iteF ⟨_, rfl, _, rfl, R, n, rw.keep (sH.trans s1), wd, fun e => absurd e ne, fun _ H2 s2 => ⟨fun _ => ⟨_, rfl, (sH.trans s1).trans s2⟩, fun z => ?_⟩⟩
          have := V.bl.inj (colT (bn b rfl))
          rw [this] at z
          cases z
    · rintro σ H1 ⟨v3, rfl, s1⟩
      intro d nd
      have sd := same_new (o := .dK []) nd
      refine ⟨_, rfl, l, rfl, ⟨_, (s1.trans sd).seq hl⟩, ?_⟩
      have hp1 : Paired (fun a R => RowsAt K H1 a R ∧ R ≠ [] ∧ ∃ n, Wd R n ∧ col < n ∧ ∀ b, by_ = some b → b < n) as Rs := L2.Paired.mapP hp fun a R z => ⟨z.1.keep s1, z.2⟩
      refine for_list (K := K) (a := l) (xs := as.map V.ref) (fun i σ H' => ∃ v3 v5 v6 v7 v8 G, σ = [some (.ref l), some (.int (col : Int)), some (byV by_), v3, some (.ref d), v5, v6, v7, v8] ∧ Same H1 H' ∧ SumsZ (fun l => H1 l = none) K H' d G ∧ Sm (ents col by_ (Rs.take i)) G ∧ G.length ≤ 62 * i)
        ⟨_, _, _, _, _, [], rfl, sd, ⟨[], upd_same, .nil⟩, Sm.nil, Nat.zero_le _⟩ (fun i σ H' _ ⟨_, _, _, _, _, _, _, s, _⟩ => (s1.trans s).seq hl) ?_ ?_
      · rintro i y σ H2 hi ⟨v3, v5, v6, v7, v8, G, rfl, s2, sa, sm, gl⟩
        rw [List.getElem?_map] at hi
        cases ha : as[i]? with
        | none => rw [ha] at hi; cases hi
        | some a =>
          rw [ha] at hi
          cases hi
          have il : i < as.length := (List.getElem?_eq_some_iff.mp ha).1
          obtain ⟨R, hR, rw, ne, n, wd, cn, bn⟩ := paired_at hp1 ha
          obtain ⟨kvs, hd, pr⟩ := rw.ex
          have hd2 := s2 _ _ hd
          have kl := paired_len pr
          have few := rw.ok.few
          have rgAll : ∀ e ∈ ents col by_ (Rs.take (i + 1)), 0 < e.1 ∧ e.1 ≤ 60 := fun e he => by
            obtain ⟨R', hR', he⟩ := List.mem_flatMap.mp he
            obtain ⟨r, hr, rfl⟩ := List.mem_map.mp he
            obtain ⟨j, hj⟩ := List.mem_iff_getElem?.mp (List.mem_of_mem_take hR')
            have hja : j < as.length := by
              rw [len]
              exact (List.getElem?_eq_some_iff.mp hj).1
            obtain ⟨R2, hR2, rw2, _⟩ := paired_at hp1 (List.getElem?_eq_getElem hja)
            rw [hj] at hR2
            cases hR2
            exact rw2.ok.rng r hr
          refine ⟨a, .dK kvs, hd2, trivial, fun od => ⟨_, rfl, a, od, rfl, .inl ⟨kvs, upd_same, ?_⟩⟩⟩
          have dna : d ≠ a := ne_of_none hd nd |>.symm
          refine for_keys (d := a) (o := od) (kvs := kvs) (fun j σ H' => H' a = some (.frz od (.dK kvs)) ∧ ∃ v5 v6 v7 v8 G', σ = [some (.ref l), some (.int (col : Int)), some (byV by_), some (.ref a), some (.ref d), v5, v6, v7, v8] ∧ But a H1 H' ∧ SumsZ (fun l => H1 l = none) K H' d G' ∧ Sm (ents col by_ (Rs.take i) ++ (entR col by_ R).take j) G' ∧ G'.length ≤ 62 * i + j)
            ⟨upd_same, _, _, _, _, G, rfl, (fun b x nb e => (upd_ne nb).trans (s2 _ _ e)), ?_, by rw [List.take_zero, List.append_nil]; exact sm, gl⟩ (fun j σ H' h => h.1) ?_ ?_
          · obtain ⟨fk, e, p⟩ := sa
            refine ⟨fk, (upd_ne dna).trans e, L2.Paired.mapP p fun kv r h => ?_⟩
            obtain ⟨e1, t, l', e2, h, h2, z⟩ := h
            exact ⟨e1, t, l', e2, seqT_dict hd2 h, lst_dict hd2 h2, z⟩
          · rintro j kv σ H3 hj ⟨fz, w5, w6, w7, w8, G3, rfl, bt, sa3, sm3, gl3⟩
            obtain ⟨r, hr, ek, t, et, ht⟩ := paired_at pr hj
            obtain ⟨kk, vv⟩ := kv
            have ek : kk = Sum.inl r.1 := ek
            have et : vv = .ref t := et
            subst ek
            subst et
            have rm : r ∈ R := List.mem_of_getElem? hr
            have hval : valV kvs (Sum.inl r.1) = some (.ref t) := valV_mem (by
              rw [da_keys rowEnt_k pr]
              exact List.Pairwise.map Sum.inl (fun a b h e => h (Sum.inl.inj e)) rw.ok.nd) (List.mem_of_getElem? hj)
            have jl : j < R.length := (List.getElem?_eq_some_iff.mp hr).1
            have hje : (entR col by_ R)[j]? = some (r.1, keyR by_ r.2, r.2.getD col 0) := by
              unfold entR
              rw [List.getElem?_map, hr]
              rfl
            show tStep K w _ _ H3
            refine sum_step (n := n) nd fz bt hval (But.seqT hd bt ht) (wd r rm) cn bn sa3 sm3 (fun e he => ?_) (rw.ok.rng r rm) (by omega) fun σ' H4 G4 ⟨u6, u7, u8, eσ⟩ fz4 bt4 sa4 sm4 gl4 => ?_
            · refine rgAll e ?_
              rw [ents_take col by_ hR]
              rcases List.mem_append.mp he with he | he
              · exact List.mem_append_left _ he
              · exact List.mem_append_right _ (List.mem_of_mem_take he)
            · subst eσ
              refine ⟨fz4, _, _, _, _, G4, rfl, bt4, sa4, ?_, by omega⟩
              rw [take_snoc hje, ← List.append_assoc]
              exact sm4
          · rintro σ H3 ⟨fz, w5, w6, w7, w8, G3, rfl, bt, sa3, sm3, gl3⟩
            refine ⟨fz, _, _, _, _, _, G3, rfl, ?_, SumsZ.thaw fz sa3, ?_, by rw [kl] at gl3; omega⟩
            · exact thaw2 (od := od) hd fun b x nb e => bt b x nb e
            · rw [ents_take col by_ hR]
              have e1 : (entR col by_ R).take kvs.length = entR col by_ R := List.take_of_length_le (by
                unfold entR
                rw [List.length_map, kl]
                exact Nat.le_refl _)
              rw [e1] at sm3
              exact sm3
      · rintro σ H2 ⟨v3, v5, v6, v7, v8, G, rfl, s2, sa, sm, gl⟩
        rw [lenA, len, List.take_length] at sm
        exact ⟨_, rfl, q d G H2 sm (sa.imp fun l h => s1.free h) (s1.free nd) (s1.trans s2)⟩
  · exact h.elim
end G

set_option Elab.async false
set_option linter.all false
set_option maxRecDepth 100000
set_option maxHeartbeats 4000000
/-! Promises of the laws' purses and drawn rows. -/
namespace G
open PySem PySem.Spec PyProof.Rows L2 U
def PurAt (H : Hp) (p : Addr) : Prop := ∃ a b : Int, H p = some (.lst [.int a, .int b]) ∧ 0 ≤ a ∧ 0 ≤ b ∧ b < 2147483648
theorem PurAt.keep {l : List Addr} {H H' : Hp} {p : Addr} (h : PurAt H p) (k : Keep l H H') (n : p ∉ l) : PurAt H' p := by
  obtain ⟨a, b, e, r⟩ := h
  exact ⟨a, b, k.k _ _ e n, r⟩
theorem PurAt.same {H H' : Hp} {p : Addr} (h : PurAt H p) (s : Same H H') : PurAt H' p := h.keep (l := []) (.same s) (by simp)
theorem PurAt.ne {H : Hp} {p q : Addr} (h : PurAt H p) (n : H q = none) : p ≠ q := by
  obtain ⟨a, b, e, _⟩ := h
  exact ne_of_none e n
/-- numbers of at most sixty figures -/
def Sml (R : Rw) : Prop := ∀ r ∈ R, ∀ x ∈ r.2, -(10 ^ 60) < x ∧ x < 10 ^ 60
def sp__law_at (K : PySem.W.Frag) : Sp := fun vs H Q _ => match vs with
  | [.ref a, .int k] => 0 ≤ k ∧ ∃ ns : List Int, SqL K H a (ns.map V.int) ∧ ∀ c, Q (.int c) H
  | _ => False
def sp__law_purse (K : PySem.W.Frag) : Sp := fun vs H Q _ => match vs with
  | [.int c] => ∀ p H', H p = none → PurAt H' p → Same H H' → Q (.ref p) H'
  | _ => False
def sp__law_take (K : PySem.W.Frag) : Sp := fun vs H Q _ => match vs with
  | [.ref p, .int n] => PurAt H p ∧ 0 < n ∧ n ≤ 1000000000000000000000000000000000000000000000000000000000000 ∧ ∀ d H', 0 ≤ d → d < n → PurAt H' p → Keep [p] H H' → Q (.int d) H'
  | _ => False
def sp__law_number (K : PySem.W.Frag) : Sp := fun vs H Q _ => match vs with
  | [.ref p] => PurAt H p ∧ ∀ c H', -(10 ^ 60) < c → c < 10 ^ 60 → PurAt H' p → Keep [p] H H' → Q (.int c) H'
  | _ => False
def sp__law_rows (K : PySem.W.Frag) : Sp := fun vs H Q _ => match vs with
  | [.ref p, .int m] => PurAt H p ∧ ∃ n : Nat, m = (n : Int) ∧ n ≤ 100 ∧ ∀ a R H', RowsAt K H' a R → Wd R n → R ≠ [] → (∀ r ∈ R, r.1 ≤ 12) → Sml R → PurAt H' p → H a = none → Keep [p] H H' → Q (.ref a) H'
  | _ => False
end G

set_option Elab.async false
set_option linter.all false
set_option maxRecDepth 100000
set_option maxHeartbeats 4000000

/-! Readings, printed by gen.py. -/
namespace G
open PySem PySem.Spec PyProof.Rows L2 U
abbrev N__law_at : List Str := ["_law_script", "_law_k"]
def t__law_at (K : PySem.W.Frag) : TS :=
  (tRet (tIf (tTest (tOp rLtI (tVar 1) (tCB (rLenSeq K) (tCons (tVar 0) tNil)))) (tOp (rIxL K) (tVar 0) (tVar 1)) (tC (.int 0))))
abbrev N__law_take : List Str := ["_law_purse_here", "_law_many", "_law_number_here"]
def t__law_take (K : PySem.W.Frag) : TS :=
  (tSeq (tIfS (tTest (tOp rGtI (tOp (rIxL K) (tVar 0) (tC (.int 0))) (tC (.int 0)))) (tSeq (tAsg (tOp (rIxL K) (tVar 0) (tC (.int 0))) (gName 2))
  (tSeq (tAsg (tOp rFdivI (tVar 2) (tVar 1)) (gSub (tVar 0) (tC (.int 0)) rSetL))
  (tRet (tOp rModI (tVar 2) (tVar 1))))) tNext)
  (tSeq (tAsg (tOp rModI (tOp rAddI (tOp rMulI (tOp (rIxL K) (tVar 0) (tC (.int 1))) (tC (.int 48271))) (tC (.int 9973))) (tC (.int 2147483629))) (gSub (tVar 0) (tC (.int 1)) rSetL))
  (tSeq (tAsg (tOp rModI (tOp rMulI (tOp (rIxL K) (tVar 0) (tC (.int 1))) (tOp (rIxL K) (tVar 0) (tC (.int 1)))) (tC (.int 2147483587))) (gName 2))
  (tRet (tOp rModI (tOp rFdivI (tVar 2) (tC (.int 7))) (tVar 1))))))
abbrev N__law_number : List Str := ["_law_purse_here", "_law_way"]
def t__law_number (K : PySem.W.Frag) : TS :=
  (tSeq (tAsg (tCl (sp__law_take K) [] ES0 (tCons (tVar 0) (tCons (tC (.int 5)) tNil))) (gName 1))
  (tSeq (tIfS (tTest (tOp rEq (tVar 1) (tC (.int 0)))) (tRet (tOp rSubI (tCl (sp__law_take K) [] ES0 (tCons (tVar 0) (tCons (tOp rPowI (tC (.int 10)) (tC (.int 59))) tNil))) (tCl (sp__law_take K) [] ES0 (tCons (tVar 0) (tCons (tOp rPowI (tC (.int 10)) (tC (.int 59))) tNil))))) tNext)
  (tRet (tOp rSubI (tCl (sp__law_take K) [] ES0 (tCons (tVar 0) (tCons (tOp (rIxL K) (tLst (tCons (tC (.int 2)) (tCons (tC (.int 3)) (tCons (tC (.int 5)) (tCons (tC (.int 19)) tNil))))) (tOp rSubI (tVar 1) (tC (.int 1)))) tNil))) (tVar 1)))))
abbrev N__law_rows : List Str := ["_law_purse_here", "_law_width", "_law_rows_here", "_law_k", "_law_person", "_law_j"]
def t__law_rows (K : PySem.W.Frag) : TS :=
  (tSeq (tAsg tDNewK (gName 2))
  (tSeq (tFor (iRng1 (tCons (tOp rAddI (tC (.int 1)) (tCl (sp__law_take K) [] ES0 (tCons (tVar 0) (tCons (tC (.int 9)) tNil)))) tNil)) (gName 3) (tSeq (tAsg (tOp rAddI (tC (.int 1)) (tCl (sp__law_take K) [] ES0 (tCons (tVar 0) (tCons (tC (.int 12)) tNil)))) (gName 4))
  (sDPut (tVar 2) (tVar 4) (tCB (rTupleOf K) (tCons (tLc (iRng1 (tCons (tVar 1) tNil)) (gName 5) tYes (tCl (sp__law_number K) [] ES0 (tCons (tVar 0) tNil)) [5]) tNil)))))
  (tRet (tVar 2))))
abbrev N__law_purse : List Str := ["_law_cell"]
def t__law_purse (K : PySem.W.Frag) : TS :=
  (tRet (tLst (tCons (tCB rMax2 (tCons (tC (.int 0)) (tCons (tOp rSubI (tCB rAbs (tCons (tVar 0) tNil)) (tOp rPowI (tC (.int 10)) (tC (.int 18)))) tNil))) (tCons (tOp rAddI (tOp rModI (tCB rAbs (tCons (tVar 0) tNil)) (tC (.int 2147483563))) (tC (.int 1))) tNil))))
end G

set_option Elab.async false
set_option linter.all false
set_option maxRecDepth 100000
set_option maxHeartbeats 4000000
/-! Purses and drawn rows keep their promises. -/
namespace G
open PySem PySem.Spec PyProof.Rows L2 U
variable {K : PySem.W.Frag}
theorem pure__law_at (vs : List V) (H : Hp) (Q : VK) (E : XK) (h : sp__law_at K vs H Q E) : t__law_at K { nx := fun _ H' => Q .non H', rt := Q } (start N__law_at vs) H := by
  unfold sp__law_at at h
  split at h
  · rename_i a k
    obtain ⟨h0, ns, hs, q⟩ := h
    refine ⟨_, rfl, _, rfl, a, _, rfl, .inl hs, _, _, rfl, rfl, _, rfl, ?_⟩
    by_cases hk : k < ((ns.map V.int).length : Int)
    · rw [decide_eq_true hk]
      obtain ⟨v, ev, c, rfl⟩ := menu (n := (ns.map V.int).length) (fun v => ∃ c, v = V.int c) rfl h0 hk (fun v hv => by
        obtain ⟨c, _, rfl⟩ := List.mem_map.mp hv
        exact ⟨c, rfl⟩)
      exact iteT ⟨_, rfl, _, rfl, a, _, _, _, rfl, rfl, hs, ev, q c⟩
    · rw [decide_eq_false hk]
      exact iteF (q 0)
  · exact h.elim
theorem pure__law_purse (vs : List V) (H : Hp) (Q : VK) (E : XK) (h : sp__law_purse K vs H Q E) : t__law_purse K { nx := fun _ H' => Q .non H', rt := Q } (start N__law_purse vs) H := by
  unfold sp__law_purse at h
  split at h
  · rename_i c
    refine ⟨_, rfl, _, rfl, _, _, rfl, rfl, ⟨by decide, by decide, by decide⟩, _, _, rfl, rfl, _, _, rfl, ?_⟩
    refine ⟨_, rfl, _, rfl, _, _, rfl, rfl, (by show (0 : Int) < 2147483563; decide), _, _, rfl, rfl, (by show 2 ≤ sizeLine; decide), fun p np => ?_⟩
    refine h p _ np ⟨_, _, upd_same, ?_, ?_, ?_⟩ (same_new np)
    · split <;> omega
    · have := Int.emod_nonneg (if c < 0 then -c else c) (show (2147483563 : Int) ≠ 0 by decide)
      omega
    · have := Int.emod_lt_of_pos (if c < 0 then -c else c) (show (0 : Int) < 2147483563 by decide)
      omega
  · exact h.elim
theorem pure__law_take (vs : List V) (H : Hp) (Q : VK) (E : XK) (h : sp__law_take K vs H Q E) : t__law_take K { nx := fun _ H' => Q .non H', rt := Q } (start N__law_take vs) H := by
  unfold sp__law_take at h
  split at h
  · rename_i p n
    obtain ⟨⟨a, b, hp, ha, hb, hb2⟩, hn, hn2, k⟩ := h
    have at0 : ∀ x y : Int, atI [V.int x, V.int y] 0 = some (V.int x) := fun x y => rfl
    have at1 : ∀ x y : Int, atI [V.int x, V.int y] 1 = some (V.int y) := fun x y => rfl
    refine ⟨_, rfl, p, _, _, _, rfl, rfl, SqL.of hp, at0 a b, _, _, rfl, rfl, _, rfl, ?_⟩
    by_cases h0 : 0 < a
    · rw [decide_eq_true h0]
      refine iteT ⟨_, rfl, p, _, _, _, rfl, rfl, SqL.of hp, at0 a b, ?_⟩
      refine ⟨_, rfl, _, rfl, _, _, rfl, rfl, cdw hn hn2, _, rfl, p, _, _, 0, rfl, rfl, hp, rfl, ?_⟩
      refine ⟨_, rfl, _, rfl, _, _, rfl, rfl, hn, ?_⟩
      exact k _ _ (Int.emod_nonneg a (by omega)) (Int.emod_lt_of_pos a hn) ⟨_, _, upd_same, Int.ediv_nonneg ha (by omega), hb, hb2⟩ (Keep.refl.put (by simp))
    · rw [decide_eq_false h0]
      refine iteF ⟨_, rfl, p, _, _, _, rfl, rfl, SqL.of hp, at1 a b, _, _, rfl, rfl, .inr ⟨by decide, by decide⟩, _, _, rfl, rfl, _, _, rfl, rfl, (by show (0 : Int) < 2147483629; decide), _, rfl, p, _, _, 1, rfl, rfl, hp, rfl, ?_⟩
      have m1 := Int.emod_nonneg (b * 48271 + 9973) (show (2147483629 : Int) ≠ 0 by decide)
      have m2 := Int.emod_lt_of_pos (b * 48271 + 9973) (show (0 : Int) < 2147483629 by decide)
      have hp' : upd H p (.lst ([V.int a, V.int b].set 1 (V.int ((b * 48271 + 9973) % 2147483629)))) p = some (.lst [V.int a, V.int ((b * 48271 + 9973) % 2147483629)]) := upd_same
      refine ⟨_, rfl, p, _, _, _, rfl, rfl, SqL.of hp', at1 a _, _, rfl, p, _, _, _, rfl, rfl, SqL.of hp', at1 a _, _, _, rfl, rfl, .inl ⟨by omega, by omega⟩, _, _, rfl, rfl, (by show (0 : Int) < 2147483587; decide), ?_⟩
      refine ⟨_, rfl, _, _, rfl, rfl, cdw (by decide) (by decide), _, rfl, _, _, rfl, rfl, hn, ?_⟩
      exact k _ _ (Int.emod_nonneg _ (by omega)) (Int.emod_lt_of_pos _ hn) ⟨_, _, hp', ha, m1, by omega⟩ (Keep.refl.put (by simp))
  · exact h.elim
theorem pure__law_number (vs : List V) (H : Hp) (Q : VK) (E : XK) (h : sp__law_number K vs H Q E) : t__law_number K { nx := fun _ H' => Q .non H', rt := Q } (start N__law_number vs) H := by
  unfold sp__law_number at h
  split at h
  · rename_i p
    obtain ⟨P0, q⟩ := h
    refine ⟨_, rfl, P0, by decide, by decide, fun w H1 w0 w5 P1 k1 => ?_⟩
    refine ⟨_, rfl, rfl, _, rfl, ?_⟩
    by_cases c : w = 0
    · rw [decide_eq_true (by rw [c])]
      refine iteT ⟨_, rfl, _, _, rfl, rfl, ⟨by decide, by decide, by decide⟩, P1, by decide, by decide, fun d H2 d0 d1 P2 k2 => ?_⟩
      refine ⟨_, rfl, _, _, rfl, rfl, ⟨by decide, by decide, by decide⟩, P2, by decide, by decide, fun e H3 e0 e1 P3 k3 => ?_⟩
      have e59 : (10 : Int) ^ (59 : Int).toNat = 100000000000000000000000000000000000000000000000000000000000 := by decide
      rw [e59] at d1 e1
      exact ⟨_, _, rfl, rfl, q _ _ (by omega) (by omega) P3 ((k1.trans k2).trans k3)⟩
    · rw [decide_eq_false fun e => c (V.int.inj e)]
      refine iteF ⟨_, rfl, (by show 4 ≤ sizeLine; decide), fun l nl => ⟨_, rfl, _, _, rfl, rfl, ?_⟩⟩
      obtain ⟨v, ev, n, rfl, n0, n1⟩ := menu (xs := [V.int 2, V.int 3, V.int 5, V.int 19]) (n := 4) (d := w - 1) (fun v => ∃ n : Int, v = V.int n ∧ 2 ≤ n ∧ n ≤ 19) rfl (by omega) (by omega) (by
        intro v hv
        simp only [List.mem_cons, List.not_mem_nil, or_false] at hv
        rcases hv with rfl | rfl | rfl | rfl
        · exact ⟨2, rfl, by decide, by decide⟩
        · exact ⟨3, rfl, by decide, by decide⟩
        · exact ⟨5, rfl, by decide, by decide⟩
        · exact ⟨19, rfl, by decide, by decide⟩)
      refine ⟨l, _, _, _, rfl, rfl, SqL.of upd_same, ev, P1.same (same_new nl), by omega, by omega, fun d H2 d0 d1 P2 k2 => ?_⟩
      exact ⟨_, rfl, _, _, rfl, rfl, q _ _ (by omega) (by omega) P2 ((k1.trans (.same (same_new nl))).trans k2)⟩
  · exact h.elim
/-! ### rows -/
theorem seqT_keep {H H' : Hp} {p t : Addr} {xs : List V} (hp : PurAt H p) (k : Keep [p] H H') (h : SqT K H t xs) : SqT K H' t xs := by
  obtain ⟨a, b, e, _⟩ := hp
  rcases h with (h | ⟨q, h⟩) | h
  · exact .inl (.inl (k.k _ _ h (by simp [ne_of h e (by intro z; cases z)])))
  · exact .inl (.inr ⟨q, k.k _ _ h (by simp [ne_of h e (by intro z; cases z)])⟩)
  · exact .inr h
theorem Bld.keepP {H H' : Hp} {p d : Addr} {F : Rw} (hp : PurAt H p) (k : Keep [p] H H') (h : Bld K H d F) : Bld K H' d F := by
  obtain ⟨kvs, e, pr⟩ := h
  have hp' := hp
  obtain ⟨a, b, e2, _⟩ := hp'
  refine ⟨kvs, k.k _ _ e (by simp [ne_of e e2 (by intro z; cases z)]), L2.Paired.mapP pr fun kv r h => ?_⟩
  obtain ⟨h1, t, h2, h3⟩ := h
  exact ⟨h1, t, h2, seqT_keep hp k h3⟩
theorem RowsAt.keepP {H H' : Hp} {p a : Addr} {R : Rw} (hp : PurAt H p) (k : Keep [p] H H') (h : RowsAt K H a R) : RowsAt K H' a R := ⟨Bld.keepP hp k h.ex, h.ok⟩
theorem putA_good {F : Rw} {k : Int} {x : List Int} (g : Good F) (h : 0 < k ∧ k ≤ 60) : Good (putA F k x) := by
  refine .of ?_ fun r hr => ?_
  · rw [putA_keys]
    split
    · exact g.nd
    · rename_i c
      rw [List.nodup_append]
      exact ⟨g.nd, by simp, fun a ha b hb e => c (by rw [← List.mem_singleton.mp hb, ← e]; exact ha)⟩
  · rcases putA_mem hr with rfl | ⟨hr, _⟩
    · exact h
    · exact g.rng r hr
theorem putA_ne {F : Rw} {k : Int} {x : List Int} : putA F k x ≠ [] := fun e => by
  have := putA_keys F k x
  rw [e] at this
  have h2 : k ∈ ([] : List Int) := by
    rw [show ([] : List Int) = if k ∈ F.map (·.1) then F.map (·.1) else F.map (·.1) ++ [k] from this]
    split
    · assumption
    · exact List.mem_append_right _ (List.mem_singleton.mpr rfl)
  cases h2
theorem pure__law_rows (vs : List V) (H : Hp) (Q : VK) (E : XK) (h : sp__law_rows K vs H Q E) : t__law_rows K { nx := fun _ H' => Q .non H', rt := Q } (start N__law_rows vs) H := by
  unfold sp__law_rows at h
  split at h
  · rename_i p m
    obtain ⟨P0, n, rfl, n100, q⟩ := h
    intro d nd
    have npd := P0.ne nd
    refine ⟨_, rfl, P0.same (same_new nd), by decide, by decide, fun w H1 w0 w9 P1 k1 => ?_⟩
    refine ⟨_, _, rfl, rfl, _, rfl, by omega, by omega, ?_⟩
    have k01 : Keep [p] H H1 := (Keep.same (same_new nd)).trans k1
    have hd1 := k1.k _ _ upd_same (by simp [npd.symm] : d ∉ [p])
    refine for_range (lo := 0) (n := (1 + w).toNat) (fun i σ H' => ∃ v3 v4 F, σ = [some (.ref p), some (.int (n : Int)), some (.ref d), v3, v4, none] ∧ PurAt H' p ∧ Keep [p] H H' ∧ Bld K H' d F ∧ Good F ∧ Wd F n ∧ (∀ r ∈ F, r.1 ≤ 12) ∧ Sml F ∧ (1 ≤ i → F ≠ []))
      ⟨_, _, [], rfl, P1, k01, ⟨[], hd1, .nil⟩, .of List.nodup_nil (by simp), (fun r hr => (List.not_mem_nil hr).elim), by simp, (fun r hr => (List.not_mem_nil hr).elim), fun h => absurd h (by decide)⟩ ?_ ?_
    · rintro i σ H2 hi ⟨v3, v4, F, rfl, P2, k2, b2, g2, wd2, f12, sm2, ne2⟩
      refine ⟨_, rfl, P2, by decide, by decide, fun e H3 e0 e12 P3 k3 => ?_⟩
      refine ⟨_, _, rfl, rfl, ?_⟩
      have b3 := Bld.keepP P2 k3 b2
      refine ⟨_, rfl, _, rfl, by omega, by omega, fun D hD => ?_⟩
      have pD := P3.ne hD
      have k03 := k2.trans k3
      have hD0 : H D = none := k03.free (by simp [pD.symm]) hD
      have nDd : D ≠ d := fun z => by
        obtain ⟨kv, e', _⟩ := b3
        rw [z, e'] at hD
        cases hD
      refine lc_range (g := gName 5) (vs := [5]) (lo := 0) (n := ((n : Int)).toNat) (fun j H' => PurAt H' p ∧ Keep [p] H H' ∧ Bld K H' d F ∧ ∃ xs : List Int, xs.length = j ∧ (∀ x ∈ xs, -(10 ^ 60) < x ∧ x < 10 ^ 60) ∧ H' D = some (.lst (xs.map V.int)))
        ⟨P3.same (same_new hD), k03.new hD0, b3.keep (same_new hD), [], rfl, (fun x hx => (List.not_mem_nil hx).elim), upd_same⟩ (fun j H4 hj ⟨P4, k4, b4, xs, hx, hb, hd4⟩ => ?_) (fun H4 ⟨P4, k4, b4, xs, hx, hb, hd4⟩ => ?_)
      · refine ⟨wipe1, _, rfl, P4, fun c H5 cl ch P5 k5 => ?_⟩
        have hd5 := k5.k _ _ hd4 (by simp [pD.symm] : D ∉ [p])
        refine ⟨_, hd5, by rw [List.length_map, sizeLine_eq]; omega, ?_⟩
        have b5 := Bld.keepP P4 k5 b4
        refine ⟨P5.keep (l := [D]) (Keep.refl.put (by simp)) (by simp [pD]), (k4.trans k5).new hD0, ?_, xs ++ [c], by simp [hx], (fun x hx => by
          rcases List.mem_append.mp hx with hx | hx
          · exact hb x hx
          · rw [List.mem_singleton.mp hx]
            exact ⟨cl, ch⟩), by rw [upd_same, List.map_append]; rfl⟩
        obtain ⟨kv, e', pr⟩ := b5
        refine ⟨kv, (upd_ne nDd.symm).trans e', L2.Paired.mapP pr fun kv r h => ?_⟩
        obtain ⟨h1, t, h2, h3⟩ := h
        refine ⟨h1, t, h2, ?_⟩
        rcases h3 with (h3 | ⟨qq, h3⟩) | h3
        · exact .inl (.inl ((upd_ne (ne_of h3 hd5 (by intro z; cases z))).trans h3))
        · exact .inl (.inr ⟨qq, (upd_ne (ne_of h3 hd5 (by intro z; cases z))).trans h3⟩)
        · exact .inr h3
      · refine ⟨D, _, rfl, .inl ⟨SqL.of hd4, fun l nl => ?_⟩⟩
        have sl := same_new (o := .tup (xs.map V.int)) nl
        obtain ⟨fk, hfk, pf⟩ := b4.keep sl
        have fl := paired_len pf
        have few := g2.few
        refine ⟨_, rfl, _, rfl, d, _, rfl, DPut.k (k := Sum.inl (1 + e)) hfk (by rw [fl, sizeLine_eq]; omega), ?_⟩
        refine ⟨_, _, putA F (1 + e) xs, rfl, ?_, ?_, Bld.put hfk pf ⟨rfl, l, rfl, .inl (.inl upd_same)⟩, putA_good g2 (by omega), fun r hr => ?_, fun r hr => ?_, fun r hr => ?_, fun _ => putA_ne⟩
        · exact (P4.same sl).keep (l := [d]) (Keep.refl.put (by simp)) (by simp [npd])
        · exact (k4.trans (.same sl)).new nd
        · rcases putA_mem hr with rfl | ⟨hr, _⟩
          · show xs.length = n
            rw [hx]
            omega
          · exact wd2 r hr
        · rcases putA_mem hr with rfl | ⟨hr, _⟩
          · show 1 + e ≤ 12
            omega
          · exact f12 r hr
        · rcases putA_mem hr with rfl | ⟨hr, _⟩
          · exact hb
          · exact sm2 r hr
    · rintro σ H2 ⟨v3, v4, F, rfl, P2, k2, b2, g2, wd2, f12, sm2, ne2⟩
      exact ⟨_, rfl, q d F H2 ⟨b2, g2⟩ wd2 (ne2 (by omega)) f12 sm2 P2 nd k2⟩
  · exact h.elim
end G

set_option Elab.async false
set_option linter.all false
set_option maxRecDepth 100000
set_option maxHeartbeats 4000000
/-! Dicts shown: repr(sorted(d.items())). -/
namespace G
open PySem PySem.Spec PyProof.Rows L2 U
/-! ### data that can be shown -/
structure Fd (m b : Nat) (d : PyData) : Prop where
  sh : d.showable = true
  lv : d.leavesShort 80 = true
  dp : d.depth ≤ m
  bk : d.bulk ≤ b
theorem fd_int {i : Int} (h1 : -(10 ^ 70) < i) (h2 : i < 10 ^ 70) : Fd 0 0 (.int i) := by
  have hn : i.natAbs < 10 ^ 70 := by omega
  refine ⟨?_, ?_, Nat.le_refl _, Nat.le_refl _⟩
  · unfold PyData.showable
    refine decide_eq_true ?_
    by_cases z : i.natAbs = 0
    · rw [z]
      decide
    · refine (Nat.log2_lt z).mpr (Nat.lt_of_lt_of_le hn ?_)
      have e1 : (10 : Nat) ^ 70 ≤ 2 ^ 250 := by decide
      have e2 : (2 : Nat) ^ 250 ≤ 2 ^ 1920 := Nat.pow_le_pow_right (by decide) (by decide)
      exact Nat.le_trans e1 e2
  · unfold PyData.leavesShort
    refine decide_eq_true ?_
    have e := int_text_length_le10 (k := 70) (by decide) hn
    have e2 : (PyData.shown (.int i)).length = (toString i).length := by
      show (Str.ofString (toString i)).length = _
      exact PySem.ofString_length _
    rw [e2]
    omega
theorem all_parts {m b : Nat} : ∀ {ds : List PyData}, (∀ d ∈ ds, Fd m b d) → PyData.showableAll ds = true ∧ PyData.leavesShortAll 80 ds = true ∧ PyData.depthAll ds ≤ m ∧ PyData.bulkAll ds ≤ ds.length * (b + 1)
  | [], _ => ⟨rfl, rfl, by rw [PyData.depthAll]; exact Nat.zero_le _, Nat.zero_le _⟩
  | d :: ds, h => by
    obtain ⟨h1, h2, h3, h4⟩ := all_parts (ds := ds) fun d hd => h d (List.mem_cons_of_mem _ hd)
    have f := h d (List.mem_cons_self ..)
    refine ⟨?_, ?_, ?_, ?_⟩
    · rw [PyData.showableAll, f.sh, h1]
      rfl
    · rw [PyData.leavesShortAll, f.lv, h2]
      rfl
    · rw [PyData.depthAll]
      exact Nat.max_le.mpr ⟨f.dp, h3⟩
    · rw [PyData.bulkAll, List.length_cons, Nat.succ_mul]
      have := f.bk
      omega
theorem fd_list {m b : Nat} {ds : List PyData} (h : ∀ d ∈ ds, Fd m b d) : Fd (m + 1) (ds.length * (b + 1)) (.list ds) := by
  obtain ⟨h1, h2, h3, h4⟩ := all_parts h
  refine ⟨?_, ?_, ?_, ?_⟩
  · rw [PyData.showable]; exact h1
  · rw [PyData.leavesShort]; exact h2
  · rw [PyData.depth]; omega
  · rw [PyData.bulk]; exact h4
theorem fd_tuple {m b : Nat} {ds : List PyData} (h : ∀ d ∈ ds, Fd m b d) : Fd (m + 1) (ds.length * (b + 1)) (.tuple ds) := by
  obtain ⟨h1, h2, h3, h4⟩ := all_parts h
  refine ⟨?_, ?_, ?_, ?_⟩
  · rw [PyData.showable]; exact h1
  · rw [PyData.leavesShort]; exact h2
  · rw [PyData.depth]; omega
  · rw [PyData.bulk]; exact h4
theorem Fd.mono {m n b c : Nat} {d : PyData} (h : Fd m b d) (h1 : m ≤ n) (h2 : b ≤ c) : Fd n c d := ⟨h.sh, h.lv, Nat.le_trans h.dp h1, Nat.le_trans h.bk h2⟩
/-! ### a dict by its pairs -/
def Shw (K : PySem.W.Frag) (H : Hp) (a : Addr) (L : List (Int × PyData)) : Prop := ∃ T : List (Int × Addr × PyData), Rd H a (.dK (T.map fun t => (Sum.inl t.1, V.ref t.2.1))) ∧ L = T.map (fun t => (t.1, t.2.2)) ∧ ∀ t ∈ T, Dp K H (.ref t.2.1) t.2.2
structure Nice (L : List (Int × PyData)) : Prop where
  nd : (L.map (·.1)).Nodup
  ok : ∀ p ∈ L, (-(10 ^ 70) < p.1 ∧ p.1 < 10 ^ 70) ∧ Fd 3 200 p.2
  few : L.length ≤ 400
def pairD (p : Int × PyData) : PyData := .tuple [.int p.1, p.2]
def txt (M : List (Int × PyData)) : Str := (PyData.list (M.map pairD)).shown
def Srt (M : List (Int × PyData)) : Prop := M.Pairwise fun e f => e.1 ≤ f.1
theorem Nice.perm {L M : List (Int × PyData)} (n : Nice L) (p : M.Perm L) : Nice M := ⟨(p.map _).nodup_iff.mpr n.nd, fun x hx => n.ok x (p.mem_iff.mp hx), by rw [p.length_eq]; exact n.few⟩
theorem nice_fd {M : List (Int × PyData)} (n : Nice M) : Fd 5 161200 (.list (M.map pairD)) := by
  have h : ∀ d ∈ M.map pairD, Fd 4 402 d := fun d hd => by
    obtain ⟨p, hp, rfl⟩ := List.mem_map.mp hd
    have o := n.ok p hp
    refine (fd_tuple (m := 3) (b := 200) fun d hd => ?_).mono (Nat.le_refl _) (by show 2 * (200 + 1) ≤ 402; decide)
    rcases List.mem_cons.mp hd with rfl | hd
    · exact (fd_int o.1.1 o.1.2).mono (by decide) (by decide)
    · rw [List.mem_singleton.mp hd]
      exact o.2
  refine (fd_list h).mono (Nat.le_refl _) ?_
  rw [List.length_map]
  have := n.few
  omega
/-- one order alone -/
theorem srt_one : ∀ {M N : List (Int × PyData)}, M.Perm N → Srt M → Srt N → (N.map (·.1)).Nodup → M = N
  | [], N, p, _, _, _ => (List.nil_perm.mp p).symm
  | e :: M, [], p, _, _, _ => by
    have := p.length_eq
    cases this
  | e :: M, f :: N, p, sM, sN, nd => by
    have sM' := List.pairwise_cons.mp sM
    have sN' := List.pairwise_cons.mp sN
    have ef : e = f := by
      have he : e ∈ f :: N := p.mem_iff.mp (List.mem_cons_self ..)
      have hf : f ∈ e :: M := p.mem_iff.mpr (List.mem_cons_self ..)
      rcases List.mem_cons.mp he with h | h
      · exact h
      · rcases List.mem_cons.mp hf with h2 | h2
        · exact h2.symm
        · have a := sN'.1 e h
          have b := sM'.1 f h2
          have : e.1 = f.1 := by omega
          rw [List.map_cons, List.nodup_cons] at nd
          exact absurd (List.mem_map.mpr ⟨e, h, this⟩) nd.1
    subst ef
    rw [List.map_cons, List.nodup_cons] at nd
    rw [srt_one ((List.perm_cons e).mp p) sM'.2 sN'.2 nd.2]
/-! ### rows and sums, shown -/
def rI (r : Int × List Int) : Int × PyData := (r.1, .tuple (r.2.map PyData.int))
def gI (g : Int × (List Int × Int)) : Int × PyData := (g.1, .tuple [.list (g.2.1.map PyData.int), .int g.2.2])
theorem rows_shw {K : PySem.W.Frag} {H : Hp} {a : Addr} {R : Rw} (h : RowsAt K H a R) : Shw K H a (R.map rI) := by
  obtain ⟨kvs, e, p⟩ := h.ex
  have go : ∀ {kvs : List (Key × V)} {R : Rw}, Paired (rowEnt K H) kvs R → ∃ T : List (Int × Addr × PyData), kvs = T.map (fun t => (Sum.inl t.1, V.ref t.2.1)) ∧ R.map rI = T.map (fun t => (t.1, t.2.2)) ∧ ∀ t ∈ T, Dp K H (.ref t.2.1) t.2.2 := fun {kvs R} p => by
    induction p with
    | nil => exact ⟨[], rfl, rfl, fun _ h => (List.not_mem_nil h).elim⟩
    | @cons kv r kvs R hd _ ih =>
      obtain ⟨T, h1, h2, h3⟩ := ih
      obtain ⟨e1, t, e2, ht⟩ := hd
      obtain ⟨k, v⟩ := kv
      have e1 : k = Sum.inl r.1 := e1
      have e2 : v = .ref t := e2
      subst e1
      subst e2
      refine ⟨(r.1, t, .tuple (r.2.map PyData.int)) :: T, by rw [List.map_cons, ← h1], by rw [List.map_cons, List.map_cons, h2]; rfl, fun t' ht' => ?_⟩
      rcases List.mem_cons.mp ht' with rfl | ht'
      · exact .tup ht (dpAll_ints _)
      · exact h3 t' ht'
  obtain ⟨T, h1, h2, h3⟩ := go p
  exact ⟨T, .inl (by rw [← h1]; exact e), h2, h3⟩
theorem sums_shw {K : PySem.W.Frag} {H : Hp} {a : Addr} {G : Gs} (h : SumsAt K H a G) : Shw K H a (G.map gI) := by
  obtain ⟨kvs, e, p⟩ := h
  have go : ∀ {kvs : List (Key × V)} {G : Gs}, Paired (sumEnt K H) kvs G → ∃ T : List (Int × Addr × PyData), kvs = T.map (fun t => (Sum.inl t.1, V.ref t.2.1)) ∧ G.map gI = T.map (fun t => (t.1, t.2.2)) ∧ ∀ t ∈ T, Dp K H (.ref t.2.1) t.2.2 := fun {kvs G} p => by
    induction p with
    | nil => exact ⟨[], rfl, rfl, fun _ h => (List.not_mem_nil h).elim⟩
    | @cons kv g kvs G hd _ ih =>
      obtain ⟨T, h1, h2, h3⟩ := ih
      obtain ⟨e1, t, l, e2, ht, hl⟩ := hd
      obtain ⟨k, v⟩ := kv
      have e1 : k = Sum.inl g.1 := e1
      have e2 : v = .ref t := e2
      subst e1
      subst e2
      refine ⟨(g.1, t, .tuple [.list (g.2.1.map PyData.int), .int g.2.2]) :: T, by rw [List.map_cons, ← h1], by rw [List.map_cons, List.map_cons, h2]; rfl, fun t' ht' => ?_⟩
      rcases List.mem_cons.mp ht' with rfl | ht'
      · exact .tup ht (.cons (.lst (SqL.of hl) (dpAll_ints _)) (.cons (.int _) .nil))
      · exact h3 t' ht'
  obtain ⟨T, h1, h2, h3⟩ := go p
  exact ⟨T, .inl (by rw [← h1]; exact e), h2, h3⟩
def sp__law_shown (K : PySem.W.Frag) : Sp := fun vs H Q _ => match vs with
  | [.ref a] => ∃ L, Shw K H a L ∧ Nice L ∧ ∀ M H', M.Perm L → Srt M → Same H H' → Q (.str (txt M)) H'
  | _ => False
/-- what was told: rows, or sums whose lists are new since H0 -/
def Told (K : PySem.W.Frag) (H0 H : Hp) (a : Addr) (L : List (Int × PyData)) : Prop := (∃ R n, RowsAt K H a R ∧ Wd R n ∧ 1 ≤ n ∧ L = R.map rI) ∨ (∃ G, SumsZ (fun l => H0 l = none) K H a G ∧ L = G.map gI)
def sp__law_again (K : PySem.W.Frag) : Sp := fun vs H Q _ => match vs with
  | [.ref a, .ref b] => ∃ H0 L M, Same H0 H ∧ H0 a = none ∧ Told K H0 H a L ∧ Shw K H b M ∧ L.Perm M ∧ Nice M ∧ ∀ H', Same H0 H' → Q (.bl true) H'
  | _ => False
end G

set_option Elab.async false
set_option linter.all false
set_option maxRecDepth 100000
set_option maxHeartbeats 4000000

/-! Readings, printed by gen.py. -/
namespace G
open PySem PySem.Spec PyProof.Rows L2 U
abbrev N__law_shown : List Str := ["_law_told"]
def t__law_shown (K : PySem.W.Frag) : TS :=
  (tRet (tCB (rReprD K) (tCons (tCB rSortIt (tCons (tItemsV (tVar 0)) tNil)) tNil)))
abbrev N__law_again : List Str := ["_law_told", "_law_due", "_law_found"]
def t__law_again (K : PySem.W.Frag) : TS :=
  (tSeq (tIfS (tOr (tNot (tB (tCB (rIsi K) (tCons (tVar 0) (tCons (tC (.ty "dict")) tNil))))) (tTest (tOp rNe (tCl (sp__law_shown K) [] ES0 (tCons (tVar 0) tNil)) (tCl (sp__law_shown K) [] ES0 (tCons (tVar 1) tNil))))) (tRet (tC (.bl false))) tNext)
  (tSeq (tLock (tFor (iVals (tVar 0)) (gName 2) (tIfS (tB (tCB (rIsi K) (tCons (tOp (rIxT K) (tVar 2) (tC (.int 0))) (tCons (tC (.ty "list")) tNil)))) (tDrop (tBM K "list" rAppend (tOp (rIxT K) (tVar 2) (tC (.int 0))) (tCons (tC (.int 99)) tNil))) tNext)))
  (tSeq (tDrop (tBM0 K "dict" rDClear (tVar 0)))
  (tRet (tC (.bl true))))))
end G

set_option Elab.async false
set_option linter.all false
set_option maxRecDepth 100000
set_option maxHeartbeats 4000000
/-! Dicts shown keep their promises. -/
namespace G
open PySem PySem.Spec PyProof.Rows L2 U
variable {K : PySem.W.Frag}
theorem dp_same {H H' : Hp} (s : Same H H') : ∀ {v : V} {d : PyData}, Dp K H v d → Dp K H' v d := fun {v d} h => by
  refine Dp.rec (motive_1 := fun v d _ => Dp K H' v d) (motive_2 := fun vs ds _ => DpAll K H' vs ds) .non (fun b => .bl b) (fun i => .int i) (fun x => .str x) (fun q _ ih => .lst (s.seq q) ih) (fun q _ ih => .tup (Same.seqT s q) ih) .nil (fun _ _ i1 i2 => .cons i1 i2) h
theorem rd_same {H H' : Hp} (s : Same H H') {a : Addr} {u : HO} (h : Rd H a u) : Rd H' a u := by
  rcases h with h | ⟨o, h⟩
  · exact .inl (s _ _ h)
  · exact .inr ⟨o, s _ _ h⟩
theorem Shw.keep {H H' : Hp} {a : Addr} {L : List (Int × PyData)} (h : Shw K H a L) (s : Same H H') : Shw K H' a L := by
  obtain ⟨T, h1, h2, h3⟩ := h
  exact ⟨T, rd_same s h1, h2, fun t ht => dp_same s (h3 t ht)⟩
theorem pure__law_shown (vs : List V) (H : Hp) (Q : VK) (E : XK) (h : sp__law_shown K vs H Q E) : t__law_shown K { nx := fun _ H' => Q .non H', rt := Q } (start N__law_shown vs) H := by
  unfold sp__law_shown at h
  split at h
  · rename_i a
    obtain ⟨L, ⟨T, rd, eL, dp⟩, nc, q⟩ := h
    refine ⟨_, rfl, a, _, rfl, rd, fun p np => ?_⟩
    have s1 := same_new (o := DX.itemsO p a) np
    have ez : (T.map (·.1)).zip (T.map (·.2.1)) = T.map fun t => (t.1, t.2.1) := by rw [List.zip_map']
    have nd : (T.map (·.1)).Nodup := by
      have := nc.nd
      rw [eL, List.map_map] at this
      exact this
    refine ⟨p, a, _, T.map (·.1), T.map (·.2.1), rfl, upd_same, rd_same s1 rd, by rw [ez, List.map_map]; rfl, by rw [List.length_map, List.length_map], nd, fun H2 l zs s2 nl pz sz hl hz => ?_⟩
    rw [ez] at pz
    obtain ⟨T', pT, eT⟩ := perm_lift (fun t : Int × Addr × PyData => (t.1, t.2.1)) pz T rfl
    have s12 := s1.trans s2
    have pM : (T'.map fun t => (t.1, t.2.2)).Perm L := by
      rw [eL]
      exact pT.map _
    have sM : Srt (T'.map fun t => (t.1, t.2.2)) := by
      rw [← eT, List.pairwise_map] at sz
      unfold Srt
      rw [List.pairwise_map]
      exact sz
    have fd := nice_fd (nc.perm pM)
    have dpA : ∀ {zs : List (Addr × (Int × Addr))} {T' : List (Int × Addr × PyData)}, T'.map (fun t => (t.1, t.2.1)) = zs.map (·.2) → (∀ z ∈ zs, H2 z.1 = some (.tup [.int z.2.1, .ref z.2.2])) → (∀ t ∈ T', Dp K H2 (.ref t.2.1) t.2.2) → DpAll K H2 (zs.map fun z => V.ref z.1) ((T'.map fun t => (t.1, t.2.2)).map pairD) := fun {zs} => by
      induction zs with
      | nil =>
        intro T' e _ _
        cases T' with
        | nil => exact .nil
        | cons t T' => cases e
      | cons z zs ih =>
        intro T' e h1 h2
        cases T' with
        | nil => cases e
        | cons t T' =>
          rw [List.map_cons, List.map_cons] at e
          injection e with e1 e2
          refine .cons ?_ (ih e2 (fun z hz => h1 z (List.mem_cons_of_mem _ hz)) fun t ht => h2 t (List.mem_cons_of_mem _ ht))
          have hz := h1 z (List.mem_cons_self ..)
          rw [← e1] at hz
          exact .tup (.inl (.inl hz)) (.cons (.int _) (.cons (h2 t (List.mem_cons_self ..)) .nil))
    refine ⟨l, _, rfl, .lst (SqL.of hl) (dpA eT (fun z hz' => (hz z hz').2) fun t ht => dp_same s12 (dp t (pT.mem_iff.mp ht))), fd.sh, Nat.le_trans fd.dp (by decide), ?_, q _ H2 pM sM s12⟩
    have h1 := PyData.shown_le_bulk 80 (by decide) _ fd.lv
    have h2 := fd.bk
    rw [sizeLine_eq]
    omega
  · exact h.elim
/-- for over a dict's values, the dict locked -/
theorem for_vals {d : Addr} {o : Obj} {kvs : List (Key × V)} {g : TG} {tb : TS} {D : Ends} {σ : L2.St} {H : Hp} (Pv : Nat → L2.St → Hp → Prop) (h0 : Pv 0 σ H) (hl : ∀ i σ H, Pv i σ H → H d = some (.frz o (.dK kvs)))
    (hs : ∀ i kv σ H, kvs[i]? = some kv → Pv i σ H → g kv.2 σ H fun σ2 H2 => tb { D with nx := Pv (i + 1), ct := Pv (i + 1), bk := D.nx } σ2 H2) (hd : ∀ σ H, Pv kvs.length σ H → D.nx σ H) :
    ∃ W : Nat → Nat → L2.St → Hp → Prop, (∃ m, W 0 m σ H) ∧ ∀ i m σ H, W i m σ H →
      ((Itd d o kvs).stop i H ∧ D.nx σ H) ∨ ((Itd d o kvs).go i H ∧ ∃ N : L2.St → Hp → Prop, (∀ σ' H', N σ' H' → ∃ m', m' < m ∧ W (i + 1) m' σ' H') ∧ ∀ x H', (Itd d o kvs).yld i H x H' → g x σ H' fun σ2 H2 => tb { D with nx := N, ct := N, bk := D.nx } σ2 H2) := by
  refine ⟨fun i m σ H => m + i = kvs.length ∧ Pv i σ H, ⟨kvs.length, rfl, h0⟩, fun i m σ H ⟨hm, pv⟩ => ?_⟩
  have fz := hl i σ H pv
  rcases Nat.lt_or_ge i kvs.length with lt | ge
  · refine .inr ⟨⟨fz, lt⟩, Pv (i + 1), fun σ' H' z => ⟨m - 1, by omega, by omega, z⟩, ?_⟩
    rintro x _ ⟨rfl, k, hk⟩
    exact hs i (k, x) σ _ hk pv
  · have ei : i = kvs.length := by omega
    subst ei
    exact .inl ⟨⟨fz, Nat.le_refl _⟩, hd σ H pv⟩
theorem at0 (v : V) (xs : List V) : atI (v :: xs) 0 = some v := atI_nat (j := 0) rfl
theorem kDD : kitB "dict" "dict" = some true := by decide +kernel
theorem kIL : kitB "int" "list" = some false := by decide +kernel
/-- a value that was told: numbers, or a list that is new and a number -/
def Ent1 (K : PySem.W.Frag) (H0 : Hp) (n : Nat) (H : Hp) (v : V) : Prop := (∃ t xs i, v = .ref t ∧ SqT K H t (V.int i :: xs)) ∨ (∃ t l m, v = .ref t ∧ SqT K H t [.ref l, m] ∧ H0 l = none ∧ ∃ ys, H l = some (.lst ys) ∧ ys.length ≤ n)
theorem Ent1.same {H0 H H' : Hp} {n : Nat} {v : V} (s : Same H H') (h : Ent1 K H0 n H v) : Ent1 K H0 n H' v := by
  rcases h with ⟨t, xs, i, e, q⟩ | ⟨t, l, m, e, q, z, ys, hl, le⟩
  · exact .inl ⟨t, xs, i, e, Same.seqT s q⟩
  · exact .inr ⟨t, l, m, e, Same.seqT s q, z, ys, s _ _ hl, le⟩
theorem Ent1.lock {H0 H : Hp} {n : Nat} {v : V} {a : Addr} {kvs : List (Key × V)} {o : HO} (hd : H a = some (.dK kvs)) (h : Ent1 K H0 n H v) : Ent1 K H0 n (upd H a o) v := by
  rcases h with ⟨t, xs, i, e, q⟩ | ⟨t, l, m, e, q, z, ys, hl, le⟩
  · exact .inl ⟨t, xs, i, e, seqT_dict hd q⟩
  · exact .inr ⟨t, l, m, e, seqT_dict hd q, z, ys, lst_dict hd hl, le⟩
theorem seqT_l {H : Hp} {d t : Addr} {ys : List V} {o : HO} {xs : List V} (hd : H d = some (.lst ys)) (h : SqT K H t xs) : SqT K (upd H d o) t xs := by
  rcases h with (h | ⟨q, h⟩) | h
  · exact .inl (.inl ((upd_ne (ne_of h hd (by intro z; cases z))).trans h))
  · exact .inl (.inr ⟨q, (upd_ne (ne_of h hd (by intro z; cases z))).trans h⟩)
  · exact .inr h
theorem Ent1.add {H0 H : Hp} {n : Nat} {v w : V} {l : Addr} {ys : List V} (hl : H l = some (.lst ys)) (ly : ys.length ≤ n) (h : Ent1 K H0 n H v) : Ent1 K H0 (n + 1) (upd H l (.lst (ys ++ [w]))) v := by
  rcases h with ⟨t, xs, i, e, q⟩ | ⟨t, l', m, e, q, z, zs, hl', le⟩
  · exact .inl ⟨t, xs, i, e, seqT_l hl q⟩
  · refine .inr ⟨t, l', m, e, seqT_l hl q, z, ?_⟩
    by_cases c : l' = l
    · subst c
      exact ⟨_, upd_same, by rw [List.length_append]; show ys.length + 1 ≤ n + 1; omega⟩
    · exact ⟨zs, (upd_ne c).trans hl', by omega⟩
theorem Ent1.mono {H0 H : Hp} {n m : Nat} {v : V} (h : Ent1 K H0 n H v) (le : n ≤ m) : Ent1 K H0 m H v := by
  rcases h with h | ⟨t, l, x, e, q, z, ys, hl, le'⟩
  · exact .inl h
  · exact .inr ⟨t, l, x, e, q, z, ys, hl, by omega⟩
theorem told_ents {H0 H : Hp} {a : Addr} {L : List (Int × PyData)} (h : Told K H0 H a L) (n : Nice L) : ∃ kvs, H a = some (.dK kvs) ∧ kvs.length = L.length ∧ ∀ kv ∈ kvs, Ent1 K H0 1000 H kv.2 := by
  rcases h with ⟨R, m, r, w, w1, rfl⟩ | ⟨G, ⟨kvs, e, p⟩, rfl⟩
  · obtain ⟨kvs, e, p⟩ := r.ex
    refine ⟨kvs, e, by rw [List.length_map]; exact paired_len p, fun kv hkv => ?_⟩
    obtain ⟨j, hj⟩ := List.mem_iff_getElem?.mp hkv
    obtain ⟨x, hx, _, t, e2, q⟩ := paired_at p hj
    have lx := w x (List.mem_of_getElem? hx)
    obtain ⟨k, xs⟩ := x
    cases xs with
    | nil =>
      have lx : 0 = m := lx
      omega
    | cons i xs => exact .inl ⟨t, _, i, e2, q⟩
  · refine ⟨kvs, e, by rw [List.length_map]; exact paired_len p, fun kv hkv => ?_⟩
    obtain ⟨j, hj⟩ := List.mem_iff_getElem?.mp hkv
    obtain ⟨g, hg, _, t, l, e2, q, hl, z⟩ := paired_at p hj
    have f := (n.ok (gI g) (List.mem_map.mpr ⟨g, List.mem_of_getElem? hg, rfl⟩)).2.bk
    refine .inr ⟨t, l, _, e2, q, z, _, hl, ?_⟩
    rw [List.length_map]
    have e3 : ∀ l : List Int, l.length ≤ PyData.bulkAll (l.map PyData.int) := fun l => by
      induction l with
      | nil => exact Nat.zero_le _
      | cons x r ih =>
        rw [List.map_cons, PyData.bulkAll, List.length_cons]
        omega
    have e4 : PyData.bulk (gI g).2 = PyData.bulkAll (g.2.1.map PyData.int) + 1 + (0 + 1 + 0) := by
      unfold gI
      simp only [PyData.bulk, PyData.bulkAll]
    rw [e4] at f
    have := e3 g.2.1
    omega
theorem pure__law_again (vs : List V) (H : Hp) (Q : VK) (E : XK) (h : sp__law_again K vs H Q E) : t__law_again K { nx := fun _ H' => Q .non H', rt := Q } (start N__law_again vs) H := by
  unfold sp__law_again at h
  split at h
  · rename_i a b
    obtain ⟨H0, L, M, s0, na, td, shM, pLM, nM, q⟩ := h
    have nL := nM.perm pLM
    obtain ⟨kvs, hd, kl, ents⟩ := told_ents td nL
    have shL : Shw K H a L := by
      rcases td with ⟨R, n, r, _, _, rfl⟩ | ⟨G, g, rfl⟩
      · exact rows_shw r
      · exact sums_shw g.at
    have few := nL.few
    refine ⟨_, rfl, _, _, _, _, _, rfl, .ty "dict", .base (.dK hd), kit_ty kDD, true, rfl, iteF ?_⟩
    refine ⟨_, rfl, L, shL, nL, fun M1 H1 p1 o1 s1 => ⟨_, rfl, M, shM.keep s1, nM, fun M2 H2 p2 o2 s2 => ⟨rfl, _, rfl, ?_⟩⟩⟩
    obtain rfl : M1 = M2 := srt_one ((p1.trans pLM).trans p2.symm) o1 o2 (nM.perm p2).nd
    rw [decide_eq_true rfl]
    have s12 := s1.trans s2
    have hd2 := s12 _ _ hd
    refine iteF ⟨a, .dK kvs, hd2, trivial, fun od => ⟨_, rfl, a, od, kvs, rfl, upd_same, ?_⟩⟩
    refine for_vals (d := a) (o := od) (kvs := kvs) (fun i σ H' => H' a = some (.frz od (.dK kvs)) ∧ Same H0 H' ∧ (∀ kv ∈ kvs, Ent1 K H0 (1000 + i) H' kv.2) ∧ ∃ v2, σ = [some (.ref a), some (.ref b), v2])
      ⟨upd_same, U.Same.mut (s0.trans s12) na, fun kv hkv => ((ents kv hkv).same s12).lock hd2, _, rfl⟩ (fun i σ H' h => h.1) ?_ ?_
    · rintro i kv σ H' hi ⟨fz, s, en, v2, rfl⟩
      have il : i < kvs.length := (List.getElem?_eq_some_iff.mp hi).1
      rcases en kv (List.mem_of_getElem? hi) with ⟨t, xs, x, e, sq⟩ | ⟨t, l, m, e, sq, z, ys, hl, le⟩
      · rw [e]
        exact ⟨_, rfl, t, _, _, _, rfl, rfl, sq, at0 _ _, _, _, _, _, _, rfl, .ty "list", .base (.int x), kit_ty kIL, false, rfl, iteF ⟨fz, s, fun kv hkv => (en kv hkv).mono (by omega), _, rfl⟩⟩
      · rw [e]
        have nla : l ≠ a := fun c => by
          rw [c, fz] at hl
          cases hl
        refine ⟨_, rfl, t, _, _, _, rfl, rfl, sq, rfl, _, _, _, _, _, rfl, .ty "list", .base (.lst hl), kit_ty kLL, true, rfl, iteT ?_⟩
        refine ⟨_, rfl, t, _, _, _, rfl, rfl, sq, rfl, (.inl ⟨rfl, _, SqL.of hl⟩), l, ys, _, rfl, rfl, hl, by rw [sizeLine_eq]; omega, ?_⟩
        exact ⟨(upd_ne nla.symm).trans fz, U.Same.mut s z, fun kv hkv => (en kv hkv).add hl le, _, rfl⟩
    · rintro σ H' ⟨fz, s, _, v2, rfl⟩
      refine ⟨fz, _, rfl, (.inr (.inr (.inl ⟨rfl, .inl ⟨_, upd_same⟩⟩))), a, kvs, rfl, rfl, upd_same, q _ (U.Same.mut (U.Same.mut s na) na)⟩
  · exact h.elim
end G

set_option Elab.async false
set_option linter.all false
set_option maxRecDepth 100000
set_option maxHeartbeats 4000000
/-! Promises of law k21. -/
namespace G21
open PySem PySem.Spec PyProof.Rows L2 U G
/-- rows that can be summed -/
def Smb (K : PySem.W.Frag) (H : Hp) (col : Nat) (by_ : Option Nat) (a : Addr) (R : Rw) : Prop := RowsAt K H a R ∧ R ≠ [] ∧ ∃ n, Wd R n ∧ col < n ∧ ∀ b, by_ = some b → b < n
def sp__law_summed (K : PySem.W.Frag) : Sp := fun vs H Q _ => match vs with
  | [.ref l, .int c, v] => ∃ (as : List Addr) (Rs : List Rw) (col : Nat) (by_ : Option Nat), c = (col : Int) ∧ v = byV by_ ∧ SqL K H l (as.map V.ref) ∧ Paired (Smb K H col by_) as Rs ∧ Rs.length ≤ 8 ∧
    ∀ p G H', Sm (ents col by_ Rs) G → SumsAt K H' p G → H p = none → Same H H' → Q (.ref p) H'
  | _ => False
/-- drawn rows, handed to one of the three -/
def Drw (K : PySem.W.Frag) (most : Nat) (vs : List V) (H : Hp) (Q : VK) : Prop := match vs with
  | [.ref p, .ref a, .int w] => ∃ R n, w = ((n : Nat) : Int) ∧ PurAt H p ∧ RowsAt K H a R ∧ Wd R n ∧ R ≠ [] ∧ 1 ≤ n ∧ n ≤ most ∧ Sml R ∧ (∀ r ∈ R, r.1 ≤ 12) ∧ ∀ H', PurAt H' p → Keep [p] H H' → Q (.bl true) H'
  | _ => False
def sp__law_cut_well (K : PySem.W.Frag) : Sp := fun vs H Q _ => match vs with
  | [.ref p, .ref a, .int w] => Drw K 12 [.ref p, .ref a, .int w] H Q
  | _ => False
def sp__law_joined_well (K : PySem.W.Frag) : Sp := fun vs H Q _ => match vs with
  | [.ref p, .ref a, .int w] => Drw K 11 [.ref p, .ref a, .int w] H Q
  | _ => False
def sp__law_summed_well (K : PySem.W.Frag) : Sp := fun vs H Q _ => match vs with
  | [.ref p, .ref a, .int w] => Drw K 11 [.ref p, .ref a, .int w] H Q
  | _ => False
def sp_law (K : PySem.W.Frag) : Sp := fun vs H Q _ => match vs with
  | [.ref a] => ∃ ns : List Int, SqL K H a (ns.map V.int) ∧ ns.length ≤ 63 ∧ ∀ H', Q (.bl true) H'
  | _ => False
end G21

set_option Elab.async false
set_option linter.all false
set_option maxRecDepth 100000
set_option maxHeartbeats 4000000

/-! Readings, printed by gen.py. -/
namespace G21
open PySem PySem.Spec PyProof.Rows L2 U G
abbrev N__law_cut_well : List Str := ["_law_purse_here", "_law_rows_here", "_law_width", "_law_columns", "_law_due", "_law_person", "_law_row", "_law_handed", "_law_turn", "_law_k", "_law_column"]
def t__law_cut_well (K : PySem.W.Frag) : TS :=
  (tSeq (tAsg (tLc (iRng1 (tCons (tOp rAddI (tC (.int 1)) (tCl (sp__law_take K) [] ES0 (tCons (tVar 0) (tCons (tC (.int 12)) tNil)))) tNil)) (gName 9) tYes (tCl (sp__law_take K) [] ES0 (tCons (tVar 0) (tCons (tVar 2) tNil))) [9]) (gName 3))
  (tSeq (tAsg tDNewK (gName 4))
  (tSeq (tLock (tFor (iItems (tVar 1)) (gTup K 2 (gCons (gName 5) (gCons (gName 6) gNil))) (sDPut (tVar 4) (tVar 5) (tCB (rTupleOf K) (tCons (tLc (iList K (tVar 3)) (gName 10) tYes (tOp (rIxT K) (tVar 6) (tVar 10)) [10]) tNil)))))
  (tSeq (tAsg (tCB (rListOf K) (tCons (tVar 3) tNil)) (gName 7))
  (tSeq (tFor (iRng1 (tCons (tC (.int 2)) tNil)) (gName 8) (tIfS (tOr (tNot (tB (tCl (sp__law_again K) [] ES0 (tCons (tCl (sp_cut K) [] ES0 (tCons (tVar 1) (tCons (tVar 7) tNil))) (tCons (tVar 4) tNil))))) (tNot (tB (tCl (sp__law_again K) [] ES0 (tCons (tCl (sp_copied K) [] ES0 (tCons (tVar 1) tNil)) (tCons (tVar 1) tNil)))))) (tRet (tC (.bl false))) tNext))
  (tRet (tOp (rEqD K) (tVar 7) (tVar 3))))))))
abbrev N__law_joined_well : List Str := ["_law_purse_here", "_law_rows_here", "_law_width", "_law_other", "_law_due", "_law_person", "_law_row", "_law_kept", "_law_turn"]
def t__law_joined_well (K : PySem.W.Frag) : TS :=
  (tSeq (tAsg (tCl (sp__law_rows K) [] ES0 (tCons (tVar 0) (tCons (tOp rAddI (tC (.int 1)) (tCl (sp__law_take K) [] ES0 (tCons (tVar 0) (tCons (tOp rSubI (tC (.int 12)) (tVar 2)) tNil)))) tNil))) (gName 3))
  (tSeq (tAsg tDNewK (gName 4))
  (tSeq (tLock (tFor (iItems (tVar 1)) (gTup K 2 (gCons (gName 5) (gCons (gName 6) gNil))) (tIfS (tB (tDIn (tVar 5) (tVar 3))) (sDPut (tVar 4) (tVar 5) (tOp (rCatT K) (tVar 6) (tDGet (tVar 3) (tVar 5)))) tNext)))
  (tSeq (tAsg (tLst (tCons (tCB rDictD (tCons (tVar 1) tNil)) (tCons (tCB rDictD (tCons (tVar 3) tNil)) tNil))) (gName 7))
  (tSeq (tFor (iRng1 (tCons (tC (.int 2)) tNil)) (gName 8) (tIfS (tNot (tB (tCl (sp__law_again K) [] ES0 (tCons (tCl (sp_joined K) [] ES0 (tCons (tVar 1) (tCons (tVar 3) tNil))) (tCons (tVar 4) tNil))))) (tRet (tC (.bl false))) tNext))
  (tRet (tOp (rEqV K) (tLst (tCons (tVar 1) (tCons (tVar 3) tNil))) (tVar 7))))))))
abbrev N__law_summed : List Str := ["_law_some", "_law_column", "_law_by", "_law_people", "_law_numbers", "_law_rows_here", "_law_person", "_law_row", "_law_key", "_law_due"]
def t__law_summed (K : PySem.W.Frag) (w : World) : TS :=
  (tSeq (tAsg tDNewK (gName 3))
  (tSeq (tAsg tDNewK (gName 4))
  (tSeq (tFor (iList K (tVar 0)) (gName 5) (tLock (tFor (iItems (tVar 5)) (gTup K 2 (gCons (gName 6) (gCons (gName 7) gNil))) (tSeq (tAsg (tC (.int 0)) (gName 8))
  (tSeq (tIfS (tTest (tOp rNotNn (tVar 2) (tC .non))) (tAsg (tOp (rIxT K) (tVar 7) (tVar 2)) (gName 8)) tNext)
  (tSeq (sDPut (tVar 3) (tVar 8) (tOp rCat (tDGet2 (tVar 3) (tVar 8) (tLst tNil)) (tLst (tCons (tVar 6) tNil))))
  (sDPut (tVar 4) (tVar 8) (tOp rAddI (tDGet2 (tVar 4) (tVar 8) (tC (.int 0))) (tOp (rIxT K) (tVar 7) (tVar 1))))))))))
  (tSeq (tAsg tDNewK (gName 9))
  (tSeq (tLock (tFor (iKeys (tVar 3)) (gName 8) (sDPut (tVar 9) (tVar 8) (tTup (tCons (tCB (rSortedSet w) (tCons (tCB (rSetL K w) (tCons (tDGet (tVar 3) (tVar 8)) tNil)) tNil)) (tCons (tDGet (tVar 4) (tVar 8)) tNil))))))
  (tRet (tVar 9)))))))
abbrev N__law_summed_well : List Str := ["_law_purse_here", "_law_rows_here", "_law_width", "_law_some", "_law_least", "_law_k", "_law_wide", "_law_column", "_law_by", "_law_due", "_law_handed", "_law_kept", "_law_turn", "_law_told", "_law_one"]
def t__law_summed_well (K : PySem.W.Frag) : TS :=
  (tSeq (tAsg (tLst (tCons (tVar 1) tNil)) (gName 3))
  (tSeq (tAsg (tVar 2) (gName 4))
  (tSeq (tFor (iRng1 (tCons (tCl (sp__law_take K) [] ES0 (tCons (tVar 0) (tCons (tC (.int 8)) tNil))) tNil)) (gName 5) (tSeq (tAsg (tOp rAddI (tC (.int 1)) (tCl (sp__law_take K) [] ES0 (tCons (tVar 0) (tCons (tVar 2) tNil)))) (gName 6))
  (tSeq (tDrop (tBM K "list" rInsert (tVar 3) (tCons (tCl (sp__law_take K) [] ES0 (tCons (tVar 0) (tCons (tC (.int 9)) tNil))) (tCons (tCl (sp__law_rows K) [] ES0 (tCons (tVar 0) (tCons (tVar 6) tNil))) tNil))))
  (tAsg (tCB rMin2 (tCons (tVar 4) (tCons (tVar 6) tNil))) (gName 4)))))
  (tSeq (tAsg (tCl (sp__law_take K) [] ES0 (tCons (tVar 0) (tCons (tVar 4) tNil))) (gName 7))
  (tSeq (tAsg (tOp (rIxL K) (tLst (tCons (tC .non) (tCons (tCl (sp__law_take K) [] ES0 (tCons (tVar 0) (tCons (tVar 4) tNil))) tNil))) (tCl (sp__law_take K) [] ES0 (tCons (tVar 0) (tCons (tC (.int 2)) tNil)))) (gName 8))
  (tSeq (tAsg (tCl (sp__law_summed K) [] ES0 (tCons (tVar 3) (tCons (tVar 7) (tCons (tVar 8) tNil)))) (gName 9))
  (tSeq (tAsg (tCB (rListOf K) (tCons (tVar 3) tNil)) (gName 10))
  (tSeq (tAsg (tLc (iList K (tVar 3)) (gName 14) tYes (tCB rDictD (tCons (tVar 14) tNil)) [14]) (gName 11))
  (tSeq (tFor (iRng1 (tCons (tC (.int 2)) tNil)) (gName 12) (tSeq (tAsg (tCl (sp_summed K) [] ES0 (tCons (tVar 10) (tCons (tVar 7) (tCons (tVar 8) tNil)))) (gName 13))
  (tSeq (tIfS (tAnd (tTest (tOp rIsNn (tVar 8) (tC .non))) (tTest (tOp rEq (tVar 12) (tC (.int 1))))) (tAsg (tCl (sp_summed K) [.non] ES0 (tCons (tVar 10) (tCons (tVar 7) tNil))) (gName 13)) tNext)
  (tIfS (tNot (tB (tCl (sp__law_again K) [] ES0 (tCons (tVar 13) (tCons (tVar 9) tNil))))) (tRet (tC (.bl false))) tNext))))
  (tRet (tAndV (tOp (rEqV K) (tVar 10) (tVar 3)) (tOp (rEqV K) (tVar 3) (tVar 11)))))))))))))
abbrev N_law : List Str := ["_law_script", "_law_k", "_law_purse_here", "_law_width", "_law_rows_here", "_law_kept"]
def t_law (K : PySem.W.Frag) : TS :=
  (tSeq (tFor (iRng1 (tCons (tCB rMax2 (tCons (tC (.int 3)) (tCons (tCB rMin2 (tCons (tCB (rLenSeq K) (tCons (tVar 0) tNil)) (tCons (tC (.int 12)) tNil))) tNil))) tNil)) (gName 1) (tSeq (tAsg (tCl (sp__law_purse K) [] ES0 (tCons (tCl (sp__law_at K) [] ES0 (tCons (tVar 0) (tCons (tVar 1) tNil))) tNil)) (gName 2))
  (tSeq (tAsg (tOp (rIxL K) (tLst (tCons (tC (.int 1)) (tCons (tC (.int 2)) (tCons (tC (.int 3)) (tCons (tC (.int 4)) (tCons (tC (.int 6)) (tCons (tC (.int 11)) tNil))))))) (tCl (sp__law_take K) [] ES0 (tCons (tVar 2) (tCons (tC (.int 6)) tNil)))) (gName 3))
  (tSeq (tAsg (tCl (sp__law_rows K) [] ES0 (tCons (tVar 2) (tCons (tVar 3) tNil))) (gName 4))
  (tSeq (tAsg (tCB rDictD (tCons (tVar 4) tNil)) (gName 5))
  (tSeq (tIfS (tAnd (tTest (tOp rEq (tOp rModI (tVar 1) (tC (.int 3))) (tC (.int 2)))) (tNot (tB (tCl (sp__law_cut_well K) [] ES0 (tCons (tVar 2) (tCons (tCl (sp__law_rows K) [] ES0 (tCons (tVar 2) (tCons (tC (.int 12)) tNil))) (tCons (tC (.int 12)) tNil))))))) (tRet (tC (.bl false))) tNext)
  (tSeq (tIfS (tOr (tNot (tB (tCl (sp__law_cut_well K) [] ES0 (tCons (tVar 2) (tCons (tVar 4) (tCons (tVar 3) tNil)))))) (tNot (tB (tCl (sp__law_joined_well K) [] ES0 (tCons (tVar 2) (tCons (tVar 4) (tCons (tVar 3) tNil))))))) (tRet (tC (.bl false))) tNext)
  (tIfS (tOr (tNot (tB (tCl (sp__law_summed_well K) [] ES0 (tCons (tVar 2) (tCons (tVar 4) (tCons (tVar 3) tNil)))))) (tTest (tOp (rNeC K) (tVar 4) (tVar 5)))) (tRet (tC (.bl false))) tNext))))))))
  (tRet (tC (.bl true))))
end G21

set_option Elab.async false
set_option linter.all false
set_option maxRecDepth 100000
set_option maxHeartbeats 4000000
/-! k21: rows cut and copied. -/
namespace G21
open PySem PySem.Spec PyProof.Rows L2 U G
variable {K : PySem.W.Frag}
theorem for_items {d : Addr} {o : Obj} {kvs : List (Key × V)} {g : TG} {tb : TS} {D : Ends} {σ : L2.St} {H : Hp} (Pv : Nat → L2.St → Hp → Prop) (h0 : Pv 0 σ H) (hl : ∀ i σ H, Pv i σ H → H d = some (.frz o (.dK kvs)))
    (hs : ∀ i kv T σ H, kvs[i]? = some kv → Pv i σ H → H T = none → g (.ref T) σ (upd H T (.tup [kV kv.1, kv.2])) fun σ2 H2 => tb { D with nx := Pv (i + 1), ct := Pv (i + 1), bk := D.nx } σ2 H2) (hd : ∀ σ H, Pv kvs.length σ H → D.nx σ H) :
    ∃ W : Nat → Nat → L2.St → Hp → Prop, (∃ m, W 0 m σ H) ∧ ∀ i m σ H, W i m σ H →
      ((Iti d o kvs).stop i H ∧ D.nx σ H) ∨ ((Iti d o kvs).go i H ∧ ∃ N : L2.St → Hp → Prop, (∀ σ' H', N σ' H' → ∃ m', m' < m ∧ W (i + 1) m' σ' H') ∧ ∀ x H', (Iti d o kvs).yld i H x H' → g x σ H' fun σ2 H2 => tb { D with nx := N, ct := N, bk := D.nx } σ2 H2) := by
  refine ⟨fun i m σ H => m + i = kvs.length ∧ Pv i σ H, ⟨kvs.length, rfl, h0⟩, fun i m σ H ⟨hm, pv⟩ => ?_⟩
  have fz := hl i σ H pv
  rcases Nat.lt_or_ge i kvs.length with lt | ge
  · refine .inr ⟨⟨fz, lt⟩, Pv (i + 1), fun σ' H' z => ⟨m - 1, by omega, by omega, z⟩, ?_⟩
    rintro _ _ ⟨T, k, v, hk, rfl, nT, rfl⟩
    exact hs i (k, v) T σ _ hk pv nT
  · have ei : i = kvs.length := by omega
    subst ei
    exact .inl ⟨⟨fz, Nat.le_refl _⟩, hd σ H pv⟩
theorem bld_thaw {H : Hp} {a d : Addr} {od : Obj} {kvs : List (Key × V)} {o : HO} {F : Rw} (hd : H a = some (.frz od (.dK kvs))) (h : Bld K H d F) : Bld K (upd H a o) d F := by
  obtain ⟨fk, e, p⟩ := h
  refine ⟨fk, (upd_ne (ne_of e hd (by intro z; cases z))).trans e, L2.Paired.mapP p fun kv r h => ?_⟩
  obtain ⟨e1, t, e2, h⟩ := h
  exact ⟨e1, t, e2, seqT_frz hd h⟩
theorem but_seq {a t : Addr} {H H' : Hp} {kvs : List (Key × V)} {xs : List V} (hd : H a = some (.dK kvs)) (s : But a H H') (h : SqL K H t xs) : SqL K H' t xs := by
  rcases h with (h | ⟨q, h⟩) | h
  · exact .inl (.inl (s _ _ (ne_of h hd (by intro z; cases z)) h))
  · exact .inl (.inr ⟨q, s _ _ (ne_of h hd (by intro z; cases z)) h⟩)
  · exact .inr h
theorem key_new {α : Type} {R : List (Int × α)} {r : Int × α} {j : Nat} (nd : (R.map (·.1)).Nodup) (hr : R[j]? = some r) : r.1 ∉ (R.take j).map (·.1) := by
  have := take_fresh (ys := R.map (·.1)) (i := j) (k := r.1) nd (by rw [List.getElem?_map, hr]; rfl)
  rw [← List.map_take] at this
  exact this
theorem sh_i (l : List Int) : SeqAt.shaped (.list (l.map PyData.int)) = true := (Dd.list (n := 0) fun d hd => by
  obtain ⟨i, _, rfl⟩ := List.mem_map.mp hd
  exact Dd.int i).sh (by decide)
theorem nat_of {d : Int} (h : 0 ≤ d) : ((d.toNat : Nat) : Int) = d := Int.toNat_of_nonneg h
/-! ### rows shown -/
theorem rows_nice {R : Rw} {n : Nat} (g : Good R) (w : Wd R n) (n12 : n ≤ 12) (s : Sml R) : Nice (R.map rI) := by
  refine ⟨by rw [List.map_map]; exact g.nd, fun p hp => ?_, by rw [List.length_map]; have := g.few; omega⟩
  obtain ⟨r, hr, rfl⟩ := List.mem_map.mp hp
  have k := g.rng r hr
  refine ⟨⟨by show -(10 ^ 70) < r.1; omega, by show r.1 < 10 ^ 70; omega⟩, ?_⟩
  refine (fd_tuple (m := 0) (b := 0) fun d hd => ?_).mono (by decide) ?_
  · obtain ⟨x, hx, rfl⟩ := List.mem_map.mp hd
    have := s r hr x hx
    exact fd_int (by omega) (by omega)
  · rw [List.length_map, w r hr]
    omega
theorem cut_sml {cs : List Nat} {R : Rw} {n : Nat} (w : Wd R n) (cn : ∀ i ∈ cs, i < n) (s : Sml R) : Sml (cutR cs R) := fun r hr x hx => by
  obtain ⟨r', hr', rfl⟩ := List.mem_map.mp hr
  obtain ⟨c, hc, rfl⟩ := List.mem_map.mp hx
  have lt : c < r'.2.length := by rw [w r' hr']; exact cn c hc
  rw [List.getD_eq_getElem?_getD, List.getElem?_eq_getElem lt]
  exact s r' hr' _ (List.getElem_mem lt)
theorem cut_wd (cs : List Nat) (R : Rw) : Wd (cutR cs R) cs.length := fun r hr => by
  obtain ⟨r', _, rfl⟩ := List.mem_map.mp hr
  exact List.length_map _
theorem cut_good {cs : List Nat} {R : Rw} (g : Good R) : Good (cutR cs R) := .of (by
  unfold cutR
  rw [List.map_map]
  exact g.nd) fun r hr => by
    obtain ⟨r', hr', rfl⟩ := List.mem_map.mp hr
    exact g.rng r' hr'
theorem wd_perm {R R' : Rw} {n : Nat} (p : R.Perm R') (w : Wd R' n) : Wd R n := fun r hr => w r (p.mem_iff.mp hr)
end G21

set_option Elab.async false
set_option linter.all false
set_option maxRecDepth 100000
set_option maxHeartbeats 4000000
/-! k21: cut and copied well. -/
namespace G21
open PySem PySem.Spec PyProof.Rows L2 U G
variable {K : PySem.W.Frag}
theorem pure__law_cut_well (vs : List V) (H : Hp) (Q : VK) (E : XK) (h : sp__law_cut_well K vs H Q E) : t__law_cut_well K { nx := fun _ H' => Q .non H', rt := Q } (start N__law_cut_well vs) H := by
  unfold sp__law_cut_well at h
  split at h
  · rename_i p a w
    obtain ⟨R, n, rfl, P0, rw, wd, ne, n1, n12, sml, f12, q⟩ := h
    -- the columns
    refine ⟨_, rfl, P0, by decide, by decide, fun t H1 t0 t12 P1 k1 => ⟨_, _, rfl, rfl, _, rfl, by omega, by omega, fun Dc hDc => ?_⟩⟩
    have pc := P1.ne hDc
    refine lc_range (g := gName 9) (vs := [9]) (lo := 0) (n := (1 + t).toNat) (fun j H' => PurAt H' p ∧ Keep [p] H1 H' ∧ ∃ cs : List Nat, cs.length = j ∧ (∀ i ∈ cs, i < n) ∧ H' Dc = some (.lst (cs.map fun (i : Nat) => V.int (i : Int))))
      ⟨P1.same (same_new hDc), (Keep.refl).new hDc, [], rfl, by simp, upd_same⟩ (fun j H8 hj ⟨P8, k8, cs, hcl, hcn, hc8⟩ => ?_) (fun H2 ⟨P2, k2, cs, hcl, cn, hc2⟩ => ?_)
    · refine ⟨wipe1, _, rfl, _, rfl, P8, by omega, by omega, fun d H9 d0 dn P9 k9 => ?_⟩
      have hc9 := k9.k _ _ hc8 (by simp [pc.symm] : Dc ∉ [p])
      refine ⟨_, hc9, by rw [List.length_map, sizeLine_eq]; omega, P9.keep (l := [Dc]) (Keep.refl.put (by simp)) (by simp [pc]), (k8.trans k9).new hDc, cs ++ [d.toNat], by simp [hcl], fun i hi => ?_, ?_⟩
      · rcases List.mem_append.mp hi with hi | hi
        · exact hcn i hi
        · rw [List.mem_singleton.mp hi]
          omega
      · rw [upd_same, List.map_append]
        show some (HO.lst (_ ++ [V.int d])) = some (HO.lst (_ ++ [V.int ((d.toNat : Nat) : Int)]))
        rw [nat_of d0]
    have rw2 := RowsAt.keepP P1 k2 (RowsAt.keepP P0 k1 rw)
    have k02 := k1.trans k2
    have c1 : 1 ≤ cs.length := by omega
    have c12 : cs.length ≤ 12 := by omega
    have lenC : (cs.map fun (i : Nat) => V.int (i : Int)).length = cs.length := List.length_map _
    obtain ⟨kvs, hd, pr⟩ := rw2.ex
    have kl := paired_len pr
    have few := rw.ok.few
    -- what is due
    intro d nd
    have sd := same_new (o := .dK []) nd
    have dna : d ≠ a := (ne_of_none hd nd).symm
    refine ⟨a, .dK kvs, sd _ _ hd, trivial, fun od => ⟨_, rfl, a, od, kvs, rfl, upd_same, ?_⟩⟩
    refine for_items (d := a) (o := od) (kvs := kvs) (fun j σ H' => H' a = some (.frz od (.dK kvs)) ∧ But a H2 H' ∧ Bld K H' d (cutR cs (R.take j)) ∧ ∃ v5 v6, σ = [some (.ref p), some (.ref a), some (.int (n : Int)), some (.ref Dc), some (.ref d), v5, v6, none, none, none, none])
      ⟨upd_same, (fun b x nb e => (upd_ne nb).trans (sd _ _ e)), ⟨[], (upd_ne dna).trans upd_same, .nil⟩, _, _, rfl⟩ (fun j σ H' h => h.1) ?_ ?_
    · rintro j kv T σ H3 hj ⟨fz, bt, bl, v5, v6, rfl⟩ nT
      obtain ⟨r, hr, ek, t', et, ht⟩ := paired_at pr hj
      obtain ⟨kk, vv⟩ := kv
      have ek : kk = Sum.inl r.1 := ek
      have et : vv = .ref t' := et
      subst ek
      subst et
      have rm := List.mem_of_getElem? hr
      have jl : j < R.length := (List.getElem?_eq_some_iff.mp hr).1
      show gTup K 2 _ (V.ref T) _ (upd H3 T (.tup [V.int r.1, V.ref t'])) _
      have sT := same_new (o := .tup [V.int r.1, V.ref t']) nT
      have hc4 : SqL K (upd H3 T (.tup [V.int r.1, V.ref t'])) Dc (cs.map fun (i : Nat) => V.int (i : Int)) := sT.seq (but_seq hd bt (SqL.of hc2))
      have ht4 : SqT K (upd H3 T (.tup [V.int r.1, V.ref t'])) t' (r.2.map V.int) := Same.seqT sT (But.seqT hd bt ht)
      refine ⟨T, _, rfl, .inl (.inl upd_same), rfl, _, _, rfl, _, _, rfl, rfl, ?_⟩
      generalize upd H3 T (.tup [V.int r.1, V.ref t']) = H4 at sT hc4 ht4 ⊢
      refine ⟨_, rfl, Dc, rfl, ⟨_, hc4⟩, fun D2 hD2 => ?_⟩
      refine lcl_m (cutV' r.2) hc4 hD2 (by rw [lenC]; omega) (fun v acc R' hv' rr => ?_) ?_
      · obtain ⟨c, hc, rfl⟩ := List.mem_map.mp hv'
        have sD := same_new (o := .lst acc) hD2
        exact ⟨_, rfl, _, rfl, t', _, _, _, rfl, rfl, Same.seqT sD ht4, getI (by rw [wd r rm]; exact cn c hc), rr⟩
      have eL : (cs.map fun (i : Nat) => V.int (i : Int)).map (cutV' r.2) = (cs.map fun i => r.2.getD i 0).map V.int := by
        rw [List.map_map, List.map_map]
        rfl
      rw [eL]
      have sD := same_new (o := .lst ((cs.map fun i => r.2.getD i 0).map V.int)) hD2
      refine ⟨D2, _, rfl, .inl ⟨SqL.of upd_same, fun l nl => ?_⟩⟩
      have sl := sD.new (o := .tup ((cs.map fun i => r.2.getD i 0).map V.int)) nl
      have s34 := sT.trans sl
      obtain ⟨fk, hfk, pf⟩ := bl.keep s34
      have fl := paired_len pf
      have fl2 : (cutR cs (R.take j)).length ≤ R.length := by
        unfold cutR
        rw [List.length_map, List.length_take]
        omega
      refine ⟨_, rfl, _, rfl, d, _, rfl, DPut.k (k := Sum.inl r.1) hfk (by rw [fl, sizeLine_eq]; omega), ?_⟩
      have b := Bld.put (k := r.1) (v := .ref l) (x := cs.map fun i => r.2.getD i 0) hfk pf ⟨rfl, l, rfl, .inl (.inl upd_same)⟩
      have hnew : r.1 ∉ (cutR cs (R.take j)).map (·.1) := by
        unfold cutR
        rw [List.map_map]
        exact key_new rw.ok.nd hr
      rw [putA_new hnew] at b
      refine ⟨(upd_ne dna.symm).trans (s34 _ _ fz), (fun b x nb e => ?_), ?_, _, _, rfl⟩
      · rw [upd_ne (ne_of_none e nd)]
        exact s34 _ _ (bt b x nb e)
      · have e2 : cutR cs (R.take (j + 1)) = cutR cs (R.take j) ++ [(r.1, cs.map fun i => r.2.getD i 0)] := by
          unfold cutR
          rw [take_snoc hr, List.map_append]
          rfl
        rw [e2]
        exact b
    · rintro σ H3 ⟨fz, bt, bl, v5, v6, rfl⟩
      rw [kl, List.take_length] at bl
      refine ⟨fz, ?_⟩
      have s24 : Same H2 (upd H3 a (.dK kvs)) := thaw2 (od := od) hd fun b x nb e => bt b x nb e
      have rD : RowsAt K (upd H3 a (.dK kvs)) d (cutR cs R) := ⟨bld_thaw fz bl, cut_good rw.ok⟩
      generalize upd H3 a (.dK kvs) = H4 at s24 rD ⊢
      have hc4 := s24 _ _ hc2
      refine ⟨_, rfl, Dc, _, rfl, .inl (SqL.of hc4), fun lh nlh => ?_⟩
      have s5 := same_new (o := .lst (cs.map fun (i : Nat) => V.int (i : Int))) nlh
      have hlh : (upd H4 lh (.lst (cs.map fun (i : Nat) => V.int (i : Int)))) lh = _ := upd_same
      have rD5 := rD.keep s5
      have s25 := s24.trans s5
      generalize upd H4 lh (.lst (cs.map fun (i : Nat) => V.int (i : Int))) = H5 at s5 hlh rD5 s25 ⊢
      have rA5 := rw2.keep s25
      have nc := rows_nice (cut_good rw.ok) (cut_wd cs R) c12 (cut_sml wd cn sml)
      have nr := rows_nice rw.ok wd n12 sml
      -- twice
      refine ⟨_, rfl, by decide, by decide, for_range (lo := 0) (n := 2) (fun i σ H' => Same H5 H' ∧ ∃ v5 v6 v8, σ = [some (.ref p), some (.ref a), some (.int (n : Int)), some (.ref Dc), some (.ref d), v5, v6, some (.ref lh), v8, none, none]) ⟨Same.refl H5, _, _, _, rfl⟩ ?_ ?_⟩
      · rintro i σ H6 hi ⟨s6, v5, v6, v8, rfl⟩
        refine ⟨_, rfl, _, rfl, R, n, cs, rA5.keep s6, wd, ne, SqL.of (s6 _ _ hlh), c1, c12, cn, fun p7 R7 H7 pm7 r7 n7 s7 => ⟨_, rfl, ?_⟩⟩
        refine ⟨H6, R7.map rI, (cutR cs R).map rI, s7, n7, .inl ⟨R7, cs.length, r7, wd_perm pm7 (cut_wd cs R), c1, rfl⟩, rows_shw (rD5.keep (s6.trans s7)), pm7.map _, nc, fun H8 s8 => ⟨true, rfl, iteF ?_⟩⟩
        have s58 := s6.trans s8
        refine ⟨_, rfl, R, rA5.keep s58, fun e => absurd e ne, fun _ p9 R9 H9 pm9 r9 n9 s9 => ⟨_, rfl, ?_⟩⟩
        refine ⟨H8, R9.map rI, R.map rI, s9, n9, .inl ⟨R9, n, r9, wd_perm pm9 wd, n1, rfl⟩, rows_shw (rA5.keep (s58.trans s9)), pm9.map _, nr, fun H10 s10 => ⟨true, rfl, iteF ⟨s58.trans s10, _, _, _, rfl⟩⟩⟩
      · rintro σ H6 ⟨s6, v5, v6, v8, rfl⟩
        have s26 := s25.trans s6
        have eI : (cs.map fun (i : Nat) => V.int (i : Int)) = (cs.map fun (i : Nat) => (i : Int)).map V.int := by
          rw [List.map_map]
          rfl
        refine ⟨_, rfl, _, rfl, .list ((cs.map fun (i : Nat) => (i : Int)).map PyData.int), .list ((cs.map fun (i : Nat) => (i : Int)).map PyData.int), .lst (SqL.of (s6 _ _ hlh)) (by rw [eI]; exact dpAll_ints _), .lst (SqL.of (s26 _ _ hc2)) (by rw [eI]; exact dpAll_ints _), sh_i _, sh_i _, ?_⟩
        rw [SeqAt.eqv_refl _ (SeqAt.canLay_of_shaped (sh_i _))]
        exact q _ (P2.same s26) (k02.trans (.same s26))
  · exact h.elim
end G21

set_option Elab.async false
set_option linter.all false
set_option maxRecDepth 100000
set_option maxHeartbeats 4000000
/-! k21: joined well. -/
namespace G21
open PySem PySem.Spec PyProof.Rows L2 U G
variable {K : PySem.W.Frag}
theorem join_wd {A B : Rw} {n m : Nat} (wA : Wd A n) (wB : Wd B m) : Wd (joinR A B) (n + m) := fun r hr => by
  obtain ⟨r', hr', e⟩ := List.mem_filterMap.mp hr
  unfold joinRow at e
  cases hb : lookA B r'.1 with
  | none => rw [hb] at e; cases e
  | some b =>
    rw [hb] at e
    cases e
    show (r'.2 ++ b).length = n + m
    rw [List.length_append, wA r' hr', wB (r'.1, b) (lookA_mem hb)]
theorem join_sml {A B : Rw} (sA : Sml A) (sB : Sml B) : Sml (joinR A B) := fun r hr x hx => by
  obtain ⟨r', hr', e⟩ := List.mem_filterMap.mp hr
  unfold joinRow at e
  cases hb : lookA B r'.1 with
  | none => rw [hb] at e; cases e
  | some b =>
    rw [hb] at e
    cases e
    rcases List.mem_append.mp hx with hx | hx
    · exact sA r' hr' x hx
    · exact sB (r'.1, b) (lookA_mem hb) x hx
theorem join_key {B : Rw} {r x : Int × List Int} (h : joinRow B r = some x) : x.1 = r.1 := by
  unfold joinRow at h
  cases hb : lookA B r.1 with
  | none => rw [hb] at h; cases h
  | some b => rw [hb] at h; cases h; rfl
theorem paired_vals {H : Hp} {kvs : List (Key × V)} {R : Rw} (p : Paired (rowEnt K H) kvs R) (nd : (R.map (·.1)).Nodup) : ∀ kv ∈ kvs, valV kvs kv.1 = some kv.2 ∧ ∃ t, kv.2 = .ref t := fun kv hkv => by
  refine ⟨valV_mem (by
    rw [da_keys rowEnt_k p]
    exact List.Pairwise.map Sum.inl (fun a b h e => h (Sum.inl.inj e)) nd) hkv, ?_⟩
  obtain ⟨j, hj⟩ := List.mem_iff_getElem?.mp hkv
  obtain ⟨r, _, _, t, e, _⟩ := paired_at p hj
  exact ⟨t, e⟩
/-- rows and their copy -/
theorem eq_copy {H : Hp} {a b : Addr} {kvs : List (Key × V)} {n : Nat} (ha : H a = some (.dK kvs)) (hb : H b = some (.dK kvs)) (h : ∀ kv ∈ kvs, valV kvs kv.1 = some kv.2 ∧ ∃ t, kv.2 = .ref t) : EqV K H (n + 2) (.ref a) (.ref b) :=
  .inr (.inr (.inr ⟨a, b, kvs, kvs, rfl, rfl, ha, hb, rfl, fun p hp => ⟨p.2, (h p hp).1, .inr (.inl (by
    obtain ⟨t, e⟩ := (h p hp).2
    exact ⟨t, e, e⟩))⟩⟩))
theorem pure__law_joined_well (vs : List V) (H : Hp) (Q : VK) (E : XK) (h : sp__law_joined_well K vs H Q E) : t__law_joined_well K { nx := fun _ H' => Q .non H', rt := Q } (start N__law_joined_well vs) H := by
  unfold sp__law_joined_well at h
  split at h
  · rename_i p a w
    obtain ⟨R, n, rfl, P0, rw, wd, ne, n1, n11, sml, f12, q⟩ := h
    -- other rows
    refine ⟨_, rfl, _, rfl, _, rfl, _, _, rfl, rfl, P0, by omega, by omega, fun t H1 t0 t12 P1 k1 => ⟨_, _, rfl, rfl, ?_⟩⟩
    obtain ⟨m, hm⟩ : ∃ m : Nat, 1 + t = (m : Int) := ⟨(1 + t).toNat, by omega⟩
    refine ⟨P1, m, hm, by omega, fun o O H2 rO wO neO _ smO P2 nO k2 => ?_⟩
    have rw2 := RowsAt.keepP P1 k2 (RowsAt.keepP P0 k1 rw)
    have k02 := k1.trans k2
    obtain ⟨kvs, hd, pr⟩ := rw2.ex
    obtain ⟨kvo, hdo, po⟩ := rO.ex
    have kl := paired_len pr
    have few := rw.ok.few
    have noa : o ≠ a := fun e => by
      have h1 := (RowsAt.keepP P0 k1 rw).ex
      obtain ⟨_, h1, _⟩ := h1
      rw [← e, nO] at h1
      cases h1
    intro d nd
    have sd := same_new (o := .dK []) nd
    have dna : d ≠ a := (ne_of_none hd nd).symm
    have dno : d ≠ o := (ne_of_none hdo nd).symm
    refine ⟨a, .dK kvs, sd _ _ hd, trivial, fun od => ⟨_, rfl, a, od, kvs, rfl, upd_same, ?_⟩⟩
    refine for_items (d := a) (o := od) (kvs := kvs) (fun j σ H' => H' a = some (.frz od (.dK kvs)) ∧ But a H2 H' ∧ Bld K H' d (joinR (R.take j) O) ∧ ∃ v5 v6, σ = [some (.ref p), some (.ref a), some (.int (n : Int)), some (.ref o), some (.ref d), v5, v6, none, none])
      ⟨upd_same, (fun b x nb e => (upd_ne nb).trans (sd _ _ e)), ⟨[], (upd_ne dna).trans upd_same, .nil⟩, _, _, rfl⟩ (fun j σ H' h => h.1) ?_ ?_
    · rintro j kv T σ H3 hj ⟨fz, bt, bl, v5, v6, rfl⟩ nT
      obtain ⟨r, hr, ek, t', et, ht⟩ := paired_at pr hj
      obtain ⟨kk, vv⟩ := kv
      have ek : kk = Sum.inl r.1 := ek
      have et : vv = .ref t' := et
      subst ek
      subst et
      have rm := List.mem_of_getElem? hr
      have jl : j < R.length := (List.getElem?_eq_some_iff.mp hr).1
      show gTup K 2 _ (V.ref T) _ (upd H3 T (.tup [V.int r.1, V.ref t'])) _
      have sT := same_new (o := .tup [V.int r.1, V.ref t']) nT
      have ht4 : SqT K (upd H3 T (.tup [V.int r.1, V.ref t'])) t' (r.2.map V.int) := Same.seqT sT (But.seqT hd bt ht)
      have hdo4 : (upd H3 T (.tup [V.int r.1, V.ref t'])) o = some (.dK kvo) := sT _ _ (bt _ _ noa hdo)
      have bl4 := bl.keep sT
      have fz4 := sT _ _ fz
      have bt4 : But a H2 (upd H3 T (.tup [V.int r.1, V.ref t'])) := fun b x nb e => sT _ _ (bt b x nb e)
      refine ⟨T, _, rfl, .inl (.inl upd_same), rfl, _, _, rfl, _, _, rfl, rfl, ?_⟩
      generalize upd H3 T (.tup [V.int r.1, V.ref t']) = H4 at ht4 hdo4 bl4 fz4 bt4 ⊢
      refine ⟨_, rfl, _, rfl, o, _, rfl, DGet.k (k := Sum.inl r.1) hdo4, _, rfl, ?_⟩
      rcases da_val rowEnt_k po r.1 with ⟨h1, h2⟩ | ⟨vb, xb, h1, h2, _, tb, e2, htb⟩
      · rw [h1]
        refine iteF ⟨fz4, bt4, ?_, _, _, rfl⟩
        have : joinRow O r = none := by
          unfold joinRow
          rw [h2]
          rfl
        unfold joinR at bl4 ⊢
        rw [take_snoc hr, List.filterMap_append]
        simp only [List.filterMap_cons, List.filterMap_nil, this, List.append_nil]
        exact bl4
      · have e2 : vb = .ref tb := e2
        subst e2
        rw [h1]
        have htb4 := But.seqT hd bt4 htb
        have eF : joinRow O r = some (r.1, r.2 ++ xb) := by
          unfold joinRow
          rw [h2]
          rfl
        have hnew : r.1 ∉ (joinR (R.take j) O).map (·.1) := by
          intro z
          obtain ⟨x, hx, e⟩ := List.mem_map.mp z
          obtain ⟨r', hr', e'⟩ := List.mem_filterMap.mp hx
          have := join_key e'
          exact key_new rw.ok.nd hr (List.mem_map.mpr ⟨r', hr', this.symm.trans e⟩)
        have xl := wd r rm
        have xbl := wO (r.1, xb) (lookA_mem h2)
        have fin : ∀ (l : Addr) (H5 : Hp), Same H4 H5 → SqT K H5 l ((r.2 ++ xb).map V.int) → ∃ a_1 H6, V.ref d = V.ref a_1 ∧ DPut H5 a_1 (.int r.1) (.ref l) H6 ∧ (H6 a = some (.frz od (.dK kvs)) ∧ But a H2 H6 ∧ Bld K H6 d (joinR (R.take (j + 1)) O) ∧ ∃ v5 v6, [some (V.ref p), some (V.ref a), some (V.int (n : Int)), some (V.ref o), some (V.ref d), some (V.int r.1), some (V.ref t'), none, none] = [some (V.ref p), some (V.ref a), some (V.int (n : Int)), some (V.ref o), some (V.ref d), v5, v6, none, none]) := fun l H5 sl hl => by
          obtain ⟨fk, hfk, pf⟩ := bl4.keep sl
          have fl := paired_len pf
          have fle : (joinR (R.take j) O).length ≤ R.length := Nat.le_trans (List.length_filterMap_le _ _) (by rw [List.length_take]; omega)
          refine ⟨d, _, rfl, DPut.k (k := Sum.inl r.1) hfk (by rw [fl, sizeLine_eq]; omega), (upd_ne dna.symm).trans (sl _ _ fz4), (fun b x nb e => ?_), ?_, _, _, rfl⟩
          · rw [upd_ne (ne_of_none e nd)]
            exact sl _ _ (bt4 b x nb e)
          · have b2 := Bld.put (k := r.1) (v := .ref l) (x := r.2 ++ xb) hfk pf ⟨rfl, l, rfl, hl⟩
            rw [putA_new hnew] at b2
            have e3 : joinR (R.take (j + 1)) O = joinR (R.take j) O ++ [(r.1, r.2 ++ xb)] := by
              unfold joinR
              rw [take_snoc hr, List.filterMap_append]
              simp only [List.filterMap_cons, List.filterMap_nil, eF]
            rw [e3]
            exact b2
        refine iteT ⟨_, rfl, _, rfl, _, rfl, o, .ref tb, rfl, .inl ⟨kvo, Sum.inl r.1, .inl hdo4, rfl, h1.symm⟩, t', tb, _, _, rfl, rfl, ht4, htb4, ?_, ?_, fun e => ?_, fun e l nl => ?_⟩
        · intro z
          have := congrArg List.length z
          rw [List.length_map] at this
          rw [xl] at this
          have this : n = 0 := this
          omega
        · rw [List.length_map, List.length_map, xl, sizeLine_eq]
          have : xb.length = m := xbl
          omega
        · have xb0 : xb = [] := List.map_eq_nil_iff.mp e
          exact ⟨_, rfl, _, rfl, fin t' H4 (Same.refl H4) (by rw [xb0, List.append_nil]; exact ht4)⟩
        · exact ⟨_, rfl, _, rfl, fin l _ (same_new nl) (.inl (.inl (by rw [upd_same, List.map_append])))⟩
    · rintro σ H3 ⟨fz, bt, bl, v5, v6, rfl⟩
      rw [kl, List.take_length] at bl
      refine ⟨fz, ?_⟩
      have s24 : Same H2 (upd H3 a (.dK kvs)) := thaw2 (od := od) hd fun b x nb e => bt b x nb e
      have rD : RowsAt K (upd H3 a (.dK kvs)) d (joinR R O) := ⟨bld_thaw fz bl, joinR_good rw.ok⟩
      generalize upd H3 a (.dK kvs) = H4 at s24 rD ⊢
      -- copies
      refine ⟨_, rfl, a, kvs, rfl, .inl (s24 _ _ hd), fun c1 nc1 => ?_⟩
      have s5 := same_new (o := .dK kvs) nc1
      refine ⟨_, rfl, o, kvo, rfl, .inl (s5 _ _ (s24 _ _ hdo)), fun c2 nc2 => ⟨(by show 2 ≤ sizeLine; decide), fun lk nlk => ?_⟩⟩
      have s6 := same_new (o := .dK kvo) nc2
      have s7 := same_new (o := .lst [V.ref c1, V.ref c2]) nlk
      have hc1 := s7 _ _ (s6 _ _ (upd_same (H := H4) (a := c1) (o := .dK kvs)))
      have hc2 := s7 _ _ (upd_same (H := upd H4 c1 (.dK kvs)) (a := c2) (o := .dK kvo))
      have hlk : (upd (upd (upd H4 c1 (.dK kvs)) c2 (.dK kvo)) lk (.lst [V.ref c1, V.ref c2])) lk = _ := upd_same
      have s47 := (s5.trans s6).trans s7
      generalize upd (upd (upd H4 c1 (.dK kvs)) c2 (.dK kvo)) lk (.lst [V.ref c1, V.ref c2]) = H7 at hc1 hc2 hlk s47 ⊢
      have s27 := s24.trans s47
      have rA7 := rw2.keep s27
      have rO7 := rO.keep s27
      have rD7 := rD.keep s47
      have nc := rows_nice (joinR_good (B := O) rw.ok) (join_wd wd wO) (by omega) (join_sml sml smO)
      refine ⟨_, rfl, by decide, by decide, for_range (lo := 0) (n := 2) (fun i σ H' => Same H7 H' ∧ ∃ v5 v6 v8, σ = [some (.ref p), some (.ref a), some (.int (n : Int)), some (.ref o), some (.ref d), v5, v6, some (.ref lk), v8]) ⟨Same.refl H7, _, _, _, rfl⟩ ?_ ?_⟩
      · rintro i σ H8 hi ⟨s8, v5, v6, v8, rfl⟩
        refine ⟨_, rfl, _, rfl, R, O, n, m, rA7.keep s8, rO7.keep s8, wd, wO, ne, neO, n1, by omega, fun p9 R9 H9 pm9 r9 n9 s9 => ⟨_, rfl, ?_⟩⟩
        refine ⟨H8, R9.map rI, (joinR R O).map rI, s9, n9, .inl ⟨R9, n + m, r9, wd_perm pm9 (join_wd wd wO), by omega, rfl⟩, rows_shw (rD7.keep (s8.trans s9)), pm9.map _, nc, fun H10 s10 => ⟨true, rfl, iteF ⟨s8.trans s10, _, _, _, rfl⟩⟩⟩
      · rintro σ H8 ⟨s8, v5, v6, v8, rfl⟩
        have s28 := s27.trans s8
        refine ⟨_, rfl, _, rfl, (by show 2 ≤ sizeLine; decide), fun ll nll => ⟨_, rfl, 2, by decide, ?_, ?_⟩⟩
        · have s9 := same_new (o := .lst [V.ref a, V.ref o]) nll
          exact .inl ⟨ll, lk, _, _, rfl, rfl, SqL.of upd_same, SqL.of (s9 _ _ (s8 _ _ hlk)), .cons (eq_copy (n := 0) (s9 _ _ (s28 _ _ hd)) (s9 _ _ (s8 _ _ hc1)) (paired_vals pr rw.ok.nd)) (.cons (eq_copy (n := 0) (s9 _ _ (s28 _ _ hdo)) (s9 _ _ (s8 _ _ hc2)) (paired_vals po rO.ok.nd)) .nil)⟩
        · exact q _ ((P2.same s28).same (same_new nll)) ((k02.trans (.same s28)).trans (.same (same_new nll)))
  · exact h.elim
end G21

set_option Elab.async false
set_option linter.all false
set_option maxRecDepth 100000
set_option maxHeartbeats 4000000
/-! k21: the law's own sum. -/
namespace G21
open PySem PySem.Spec PyProof.Rows L2 U G
variable {K : PySem.W.Frag}
/-! ### people and numbers by keys -/
def psOf (es : List Ent) (k : Int) : List Int := (es.filter fun e => decide (e.2.1 = k)).map (·.1)
theorem psOf_app (es : List Ent) (e : Ent) (k : Int) : psOf (es ++ [e]) k = psOf es k ++ if e.2.1 = k then [e.1] else [] := by
  unfold psOf
  rw [List.filter_append, List.map_append, List.filter_cons]
  by_cases c : e.2.1 = k
  · rw [decide_eq_true c, if_pos rfl, if_pos c]
    rfl
  · rw [decide_eq_false c, if_neg (by decide), if_neg c]
    rfl
theorem psOf_mem {es : List Ent} {k p : Int} : p ∈ psOf es k ↔ ∃ e ∈ es, e.2.1 = k ∧ e.1 = p := by
  unfold psOf
  rw [List.mem_map]
  exact ⟨fun ⟨e, he, c⟩ => ⟨e, (List.mem_filter.mp he).1, of_decide_eq_true (List.mem_filter.mp he).2, c⟩, fun ⟨e, he, c1, c2⟩ => ⟨e, List.mem_filter.mpr ⟨he, decide_eq_true c1⟩, c2⟩⟩
theorem psOf_none {es : List Ent} {k : Int} (h : ∀ e ∈ es, e.2.1 ≠ k) : psOf es k = [] := by
  unfold psOf
  rw [List.filter_eq_nil_iff.mpr fun e he => by rw [decide_eq_false (h e he)]; decide]
  rfl
structure Km {α : Type} (f : List Ent → Int → α) (es : List Ent) (P : List (Int × α)) : Prop where
  nd : (P.map (·.1)).Nodup
  cov : ∀ e ∈ es, e.2.1 ∈ P.map (·.1)
  hit : ∀ g ∈ P, ∃ e ∈ es, e.2.1 = g.1
  val : ∀ g ∈ P, g.2 = f es g.1
theorem Km.nil {α : Type} {f : List Ent → Int → α} : Km f [] [] := ⟨List.nodup_nil, by simp, by simp, by simp⟩
theorem Km.look {α : Type} {f : List Ent → Int → α} {es : List Ent} {P : List (Int × α)} {d : α} (S : Km f es P) (k : Int) (h0 : (∀ e ∈ es, e.2.1 ≠ k) → f es k = d) : (lookA P k).getD d = f es k := by
  cases h : lookA P k with
  | some x => exact S.val _ (lookA_mem h)
  | none => exact (h0 fun e he c => lookA_none.mp h (by rw [← c]; exact S.cov e he)).symm
theorem Km.step {α : Type} {f : List Ent → Int → α} {es : List Ent} {P : List (Int × α)} {e : Ent} {x : α} (S : Km f es P) (hx : x = f (es ++ [e]) e.2.1) (ho : ∀ k, k ≠ e.2.1 → f (es ++ [e]) k = f es k) : Km f (es ++ [e]) (putA P e.2.1 x) := by
  have keys := putA_keys P e.2.1 x
  refine ⟨?_, fun e' he => ?_, fun g hg => ?_, fun g hg => ?_⟩
  · rw [keys]
    split
    · exact S.nd
    · rename_i c
      rw [List.nodup_append]
      exact ⟨S.nd, by simp, fun a ha b hb z => c (by rw [← List.mem_singleton.mp hb, ← z]; exact ha)⟩
  · rw [keys]
    rcases List.mem_append.mp he with he | he
    · have := S.cov e' he
      split
      · exact this
      · exact List.mem_append_left _ this
    · rw [List.mem_singleton.mp he]
      split
      · assumption
      · exact List.mem_append_right _ (List.mem_singleton.mpr rfl)
  · rcases putA_mem hg with rfl | ⟨hg, _⟩
    · exact ⟨e, List.mem_append_right _ (List.mem_singleton.mpr rfl), rfl⟩
    · obtain ⟨e', he', c⟩ := S.hit g hg
      exact ⟨e', List.mem_append_left _ he', c⟩
  · rcases putA_mem hg with rfl | ⟨hg, nk⟩
    · exact hx
    · rw [S.val g hg, ho g.1 nk]
theorem Km.pstep {es : List Ent} {P : List (Int × List Int)} (S : Km psOf es P) (e : Ent) : Km psOf (es ++ [e]) (putA P e.2.1 ((lookA P e.2.1).getD [] ++ [e.1])) :=
  S.step (by rw [S.look e.2.1 psOf_none, psOf_app, if_pos rfl]) fun k hk => by rw [psOf_app, if_neg hk.symm, List.append_nil]
theorem Km.nstep {es : List Ent} {N : List (Int × Int)} (S : Km sumOf es N) (e : Ent) : Km sumOf (es ++ [e]) (putA N e.2.1 ((lookA N e.2.1).getD 0 + e.2.2)) :=
  S.step (by rw [S.look e.2.1 sumOf_none, sumOf_app, if_pos rfl]) fun k hk => by rw [sumOf_app, if_neg hk.symm, Int.add_zero]
theorem Km.len {α : Type} {f : List Ent → Int → α} {es : List Ent} {P : List (Int × α)} (S : Km f es P) : P.length ≤ es.length := by
  have := nodup_sub (l := P.map (·.1)) (m := es.map (·.2.1)) S.nd fun k hk => by
    obtain ⟨g, hg, rfl⟩ := List.mem_map.mp hk
    obtain ⟨e, he, c⟩ := S.hit g hg
    exact List.mem_map.mpr ⟨e, he, c⟩
  rw [List.length_map, List.length_map] at this
  exact this
/-! ### the dicts -/
def pplEnt (H : Hp) (kv : Key × V) (g : Int × List Int) : Prop := kv.1 = Sum.inl g.1 ∧ ∃ l, kv.2 = .ref l ∧ H l = some (.lst (g.2.map V.int))
def numEnt (kv : Key × V) (g : Int × Int) : Prop := kv.1 = Sum.inl g.1 ∧ kv.2 = .int g.2
def PplD (H : Hp) (d : Addr) (P : List (Int × List Int)) : Prop := ∃ kvs, H d = some (.dK kvs) ∧ Paired (pplEnt H) kvs P
def NumD (H : Hp) (d : Addr) (N : List (Int × Int)) : Prop := ∃ kvs, H d = some (.dK kvs) ∧ Paired numEnt kvs N
theorem pplEnt_k {H : Hp} : ∀ kv g, pplEnt H kv g → kv.1 = Sum.inl g.1 := fun _ _ h => h.1
theorem numEnt_k : ∀ kv g, numEnt kv g → kv.1 = Sum.inl g.1 := fun _ _ h => h.1
theorem PplD.keep {H H' : Hp} {d : Addr} {P : List (Int × List Int)} (h : PplD H d P) (s : Same H H') : PplD H' d P := by
  obtain ⟨kvs, e, p⟩ := h
  exact ⟨kvs, s _ _ e, L2.Paired.mapP p fun kv g ⟨e, l, e2, hl⟩ => ⟨e, l, e2, s _ _ hl⟩⟩
theorem NumD.keep {H H' : Hp} {d : Addr} {N : List (Int × Int)} (h : NumD H d N) (s : Same H H') : NumD H' d N := by
  obtain ⟨kvs, e, p⟩ := h
  exact ⟨kvs, s _ _ e, p⟩
theorem PplD.put {H : Hp} {d l : Addr} {P : List (Int × List Int)} {kvs : List (Key × V)} {k : Int} {ps : List Int} (hd : H d = some (.dK kvs)) (hp : Paired (pplEnt H) kvs P) (hl : H l = some (.lst (ps.map V.int))) : PplD (upd H d (.dK (putK kvs (Sum.inl k) (.ref l)))) d (putA P k ps) :=
  ⟨_, upd_same, L2.Paired.mapP (da_put pplEnt_k hp (show pplEnt H (Sum.inl k, .ref l) (k, ps) from ⟨rfl, l, rfl, hl⟩)) fun kv g ⟨e, l, e2, hl⟩ => ⟨e, l, e2, lst_dict hd hl⟩⟩
theorem NumD.put {H : Hp} {d : Addr} {N : List (Int × Int)} {kvs : List (Key × V)} {k m : Int} (hp : Paired numEnt kvs N) : NumD (upd H d (.dK (putK kvs (Sum.inl k) (.int m)))) d (putA N k m) :=
  ⟨_, upd_same, da_put numEnt_k hp (show numEnt (Sum.inl k, .int m) (k, m) from ⟨rfl, rfl⟩)⟩
/-- another dict changes -/
theorem PplD.other {H : Hp} {d d' : Addr} {P : List (Int × List Int)} {kvs : List (Key × V)} {o : HO} (h : PplD H d P) (hd' : H d' = some (.dK kvs)) (n : d ≠ d') : PplD (upd H d' o) d P := by
  obtain ⟨ks, e, p⟩ := h
  exact ⟨ks, (upd_ne n).trans e, L2.Paired.mapP p fun kv g ⟨e, l, e2, hl⟩ => ⟨e, l, e2, lst_dict hd' hl⟩⟩
theorem NumD.other {H : Hp} {d d' : Addr} {N : List (Int × Int)} {o : HO} (h : NumD H d N) (n : d ≠ d') : NumD (upd H d' o) d N := by
  obtain ⟨ks, e, p⟩ := h
  exact ⟨ks, (upd_ne n).trans e, p⟩
theorem PplD.thaw {H : Hp} {a d : Addr} {od : Obj} {kvs : List (Key × V)} {o : HO} {P : List (Int × List Int)} (hd : H a = some (.frz od (.dK kvs))) (h : PplD H d P) : PplD (upd H a o) d P := by
  obtain ⟨ks, e, p⟩ := h
  exact ⟨ks, (upd_ne (ne_of e hd (by intro z; cases z))).trans e, L2.Paired.mapP p fun kv g ⟨e, l, e2, hl⟩ => ⟨e, l, e2, (upd_ne (ne_of hl hd (by intro z; cases z))).trans hl⟩⟩
theorem NumD.thaw {H : Hp} {a d : Addr} {od : Obj} {kvs : List (Key × V)} {o : HO} {N : List (Int × Int)} (hd : H a = some (.frz od (.dK kvs))) (h : NumD H d N) : NumD (upd H a o) d N := by
  obtain ⟨ks, e, p⟩ := h
  exact ⟨ks, (upd_ne (ne_of e hd (by intro z; cases z))).trans e, p⟩
end G21

set_option Elab.async false
set_option linter.all false
set_option maxRecDepth 100000
set_option maxHeartbeats 4000000
/-! k21: the law's own sum, walked: one person's row. -/
namespace G21
open PySem PySem.Spec PyProof.Rows L2 U G
variable {K : PySem.W.Frag}
abbrev tPut (K : PySem.W.Frag) : TS := (tSeq (sDPut (tVar 3) (tVar 8) (tOp rCat (tDGet2 (tVar 3) (tVar 8) (tLst tNil)) (tLst (tCons (tVar 6) tNil))))
  (sDPut (tVar 4) (tVar 8) (tOp rAddI (tDGet2 (tVar 4) (tVar 8) (tC (.int 0))) (tOp (rIxT K) (tVar 7) (tVar 1)))))
theorem put_step {D : Ends} {l a dP dN t : Addr} {H1 H : Hp} {k key : Int} {x : List Int} {col n : Nat} {v2 v9 : Option V} {P : List (Int × List Int)} {N : List (Int × Int)} {es : List Ent}
    (nP : H1 dP = none) (nN : H1 dN = none) (dne : dP ≠ dN) (bt : But a H1 H) (ht : SqT K H t (x.map V.int)) (xl : x.length = n) (hc : col < n)
    (hP : PplD H dP P) (hN : NumD H dN N) (sP : Km psOf es P) (sN : Km sumOf es N) (el : es.length ≤ 1000)
    (q : ∀ H' P' N', But a H1 H' → (∀ o, H a = some o → a ≠ dP → a ≠ dN → H' a = some o) → PplD H' dP P' → NumD H' dN N' → Km psOf (es ++ [(k, key, x.getD col 0)]) P' → Km sumOf (es ++ [(k, key, x.getD col 0)]) N' → (N.map (·.1) = P.map (·.1) → N'.map (·.1) = P'.map (·.1)) →
      D.nx [some (.ref l), some (.int (col : Int)), v2, some (.ref dP), some (.ref dN), some (.ref a), some (.int k), some (.ref t), some (.int key), v9] H') :
    tPut K D [some (.ref l), some (.int (col : Int)), v2, some (.ref dP), some (.ref dN), some (.ref a), some (.int k), some (.ref t), some (.int key), v9] H := by
  obtain ⟨fk, hfk, pf⟩ := hP
  have lP := sP.len
  have lN := sN.len
  refine ⟨_, rfl, dP, rfl, .inl ⟨_, .inl hfk⟩, _, rfl, Nat.zero_le _, fun l0 n0 => ?_⟩
  have s1 := same_new (o := .lst []) n0
  have gl0 : (upd H l0 (.lst [])) l0 = some (.lst (([] : List Int).map V.int)) := upd_same
  generalize upd H l0 (.lst []) = H2 at s1 gl0 ⊢
  refine ⟨valV fk (Sum.inl key), DGet.k (k := Sum.inl key) (s1 _ _ hfk), ?_⟩
  have go : ∀ (lp : Addr) (ps : List Int), H2 lp = some (.lst (ps.map V.int)) → (lookA P key).getD [] = ps →
      (tLst (tCons (tVar 6) tNil)) [some (.ref l), some (.int (col : Int)), v2, some (.ref dP), some (.ref dN), some (.ref a), some (.int k), some (.ref t), some (.int key), v9] H2 fun y H3 => rCat (.ref lp) y H3 fun v H4 =>
        (tVar 3) [some (.ref l), some (.int (col : Int)), v2, some (.ref dP), some (.ref dN), some (.ref a), some (.int k), some (.ref t), some (.int key), v9] H4 fun x H5 => (tVar 8) [some (.ref l), some (.int (col : Int)), v2, some (.ref dP), some (.ref dN), some (.ref a), some (.int k), some (.ref t), some (.int key), v9] H5 fun y H6 => ∃ a' H7, x = .ref a' ∧ DPut H6 a' y v H7 ∧
          (sDPut (tVar 4) (tVar 8) (tOp rAddI (tDGet2 (tVar 4) (tVar 8) (tC (.int 0))) (tOp (rIxT K) (tVar 7) (tVar 1)))) D [some (.ref l), some (.int (col : Int)), v2, some (.ref dP), some (.ref dN), some (.ref a), some (.int k), some (.ref t), some (.int key), v9] H7 := by
    intro lp ps hlp hlook
    have pl : ps.length ≤ es.length := by
      rw [← hlook, sP.look key psOf_none]
      unfold psOf
      rw [List.length_map]
      exact List.length_filter_le _ _
    refine ⟨_, rfl, (by show 1 ≤ sizeLine; decide), fun l1 n1 => ⟨lp, l1, _, _, rfl, rfl, (same_new n1) _ _ hlp, upd_same, by rw [List.length_map, sizeLine_eq]; show ps.length + 1 ≤ _; omega, fun l2 n2 => ?_⟩⟩
    have s3 := (s1.new (o := .lst [V.int k]) n1).new (o := .lst (ps.map V.int ++ [V.int k])) n2
    have hl2 : (upd (upd H2 l1 (.lst [V.int k])) l2 (.lst (ps.map V.int ++ [V.int k]))) l2 = some (.lst ((ps ++ [k]).map V.int)) := by
      rw [upd_same, List.map_append]
      rfl
    generalize upd (upd H2 l1 (.lst [V.int k])) l2 (.lst (ps.map V.int ++ [V.int k])) = H3 at s3 hl2 ⊢
    have hfk3 := s3 _ _ hfk
    have fl := paired_len pf
    refine ⟨_, rfl, _, rfl, dP, _, rfl, DPut.k (k := Sum.inl key) hfk3 (by rw [fl, sizeLine_eq]; omega), ?_⟩
    have pP := PplD.put (k := key) hfk3 (L2.Paired.mapP pf fun kv g ⟨e, l, e2, hl⟩ => ⟨e, l, e2, s3 _ _ hl⟩) hl2
    have ht4 : SqT K (upd H3 dP (.dK (putK fk (Sum.inl key) (.ref l2)))) t (x.map V.int) := seqT_dict hfk3 (Same.seqT s3 ht)
    obtain ⟨nk, hnk, pn⟩ := (hN.keep s3).other (o := .dK (putK fk (Sum.inl key) (.ref l2))) dne.symm
    have nl := paired_len pn
    refine ⟨_, rfl, dN, rfl, .inl ⟨_, .inl hnk⟩, _, rfl, valV nk (Sum.inl key), DGet.k (k := Sum.inl key) hnk, ?_⟩
    have fin : ∀ m : Int, (lookA N key).getD 0 = m → D.nx [some (.ref l), some (.int (col : Int)), v2, some (.ref dP), some (.ref dN), some (.ref a), some (.int k), some (.ref t), some (.int key), v9] (upd (upd H3 dP (.dK (putK fk (Sum.inl key) (.ref l2)))) dN (.dK (putK nk (Sum.inl key) (.int (m + x.getD col 0))))) := fun m hm => by
      refine q _ (putA P key (ps ++ [k])) (putA N key (m + x.getD col 0)) (fun b y nb e => ?_) (fun o ho n1 n2 => ?_) (pP.other hnk dne) (NumD.put pn) ?_ ?_ fun ek => ?_
      · rw [upd_ne (ne_of_none e nN), upd_ne (ne_of_none e nP)]
        exact s3 _ _ (bt b y nb e)
      · rw [upd_ne n2, upd_ne n1]
        exact s3 _ _ ho
      · have := sP.pstep (k, key, x.getD col 0)
        rw [hlook] at this
        exact this
      · have := sN.nstep (k, key, x.getD col 0)
        rw [hm] at this
        exact this
      · rw [putA_keys, putA_keys, ek]
    rcases da_val numEnt_k pn key with ⟨h1, h2⟩ | ⟨v, y, h1, h2, _, e2⟩
    · rw [h1]
      exact ⟨_, rfl, _, rfl, t, _, _, _, rfl, rfl, ht4, getI (by rw [xl]; exact hc), _, _, rfl, rfl, _, rfl, _, rfl, dN, _, rfl, DPut.k (k := Sum.inl key) hnk (by rw [nl, sizeLine_eq]; omega), fin 0 (by rw [h2]; rfl)⟩
    · have e2 : v = .int y := e2
      subst e2
      rw [h1]
      exact ⟨_, rfl, _, rfl, t, _, _, _, rfl, rfl, ht4, getI (by rw [xl]; exact hc), _, _, rfl, rfl, _, rfl, _, rfl, dN, _, rfl, DPut.k (k := Sum.inl key) hnk (by rw [nl, sizeLine_eq]; omega), fin y (by rw [h2]; rfl)⟩
  rcases da_val pplEnt_k pf key with ⟨h1, h2⟩ | ⟨v, y, h1, h2, _, lp, e2, hlp⟩
  · rw [h1]
    exact go l0 [] gl0 (by rw [h2]; rfl)
  · have e2 : v = .ref lp := e2
    subst e2
    rw [h1]
    exact go lp y (s1 _ _ hlp) (by rw [h2]; rfl)
end G21

set_option Elab.async false
set_option linter.all false
set_option maxRecDepth 100000
set_option maxHeartbeats 4000000
/-! k21: the law's own sum, walked. -/
namespace G21
open PySem PySem.Spec PyProof.Rows L2 U G
variable {K : PySem.W.Frag}
theorem ents_len {col : Nat} {by_ : Option Nat} : ∀ {Rs : List Rw}, (∀ R ∈ Rs, R.length < 62) → (ents col by_ Rs).length ≤ 62 * Rs.length
  | [], _ => Nat.zero_le _
  | R :: Rs, h => by
    have ih := ents_len (col := col) (by_ := by_) (Rs := Rs) fun R hR => h R (List.mem_cons_of_mem _ hR)
    have h1 := h R (List.mem_cons_self ..)
    unfold ents at ih ⊢
    rw [List.flatMap_cons, List.length_append, List.length_cons]
    have e : (entR col by_ R).length = R.length := List.length_map _
    omega
theorem paired_mem {α β : Type} {R : α → β → Prop} {as : List α} {bs : List β} (h : Paired R as bs) {b : β} (hb : b ∈ bs) : ∃ a, R a b := by
  induction h with
  | nil => cases hb
  | cons hd _ ih =>
    rcases List.mem_cons.mp hb with rfl | hb
    · exact ⟨_, hd⟩
    · exact ih hb
/-- one group of the sum -/
def Grp (es : List Ent) (p : Int × List Int) (g : Int × (List Int × Int)) : Prop := g.1 = p.1 ∧ g.2.1.Pairwise (· < ·) ∧ (∀ x, x ∈ g.2.1 ↔ x ∈ p.2) ∧ g.2.2 = sumOf es p.1
theorem grp_keys {es : List Ent} {P : List (Int × List Int)} {G : Gs} (h : Paired (Grp es) P G) : G.map (·.1) = P.map (·.1) := by
  induction h with
  | nil => rfl
  | cons hd _ ih => rw [List.map_cons, List.map_cons, ih, hd.1]
theorem grp_mem {es : List Ent} {P : List (Int × List Int)} {G : Gs} (h : Paired (Grp es) P G) {g : Int × (List Int × Int)} (hg : g ∈ G) : ∃ p ∈ P, Grp es p g := by
  induction h with
  | nil => cases hg
  | cons hd _ ih =>
    rcases List.mem_cons.mp hg with rfl | hg
    · exact ⟨_, List.mem_cons_self .., hd⟩
    · obtain ⟨p, hp, x⟩ := ih hg
      exact ⟨p, List.mem_cons_of_mem _ hp, x⟩
theorem grp_sm {es : List Ent} {P : List (Int × List Int)} {G : Gs} (S : Km psOf es P) (h : Paired (Grp es) P G) : Sm es G := by
  refine ⟨by rw [grp_keys h]; exact S.nd, fun e he => by rw [grp_keys h]; exact S.cov e he, fun g hg => ?_, fun g hg => ?_, fun g hg x => ?_, fun g hg => ?_⟩
  · obtain ⟨p, hp, e, _⟩ := grp_mem h hg
    obtain ⟨e', he', c⟩ := S.hit p hp
    exact ⟨e', he', c.trans e.symm⟩
  · obtain ⟨p, hp, _, s, _⟩ := grp_mem h hg
    exact s
  · obtain ⟨p, hp, e, _, m, _⟩ := grp_mem h hg
    rw [m, S.val p hp, psOf_mem, e]
  · obtain ⟨p, hp, e, _, _, m⟩ := grp_mem h hg
    rw [m, e]
theorem pure__law_summed (w : World) (vs : List V) (H : Hp) (Q : VK) (E : XK) (h : sp__law_summed K vs H Q E) : t__law_summed K w { nx := fun _ H' => Q .non H', rt := Q } (start N__law_summed vs) H := by
  unfold sp__law_summed at h
  split at h
  · rename_i l c v
    obtain ⟨as, Rs, col, by_, rfl, rfl, hl, hp, r8, q⟩ := h
    have len := paired_len hp
    have small : ∀ R ∈ Rs, R.length < 62 := fun R hR => by
      obtain ⟨a, z⟩ := paired_mem hp hR
      exact z.1.ok.few
    intro dP nP dN nN0
    have s1 := same_new (o := .dK []) nP
    have s2 := s1.new (o := .dK []) nN0
    have nN : H dN = none := s1.free nN0
    have dne : dP ≠ dN := fun e => by
      rw [← e, upd_same] at nN0
      cases nN0
    refine ⟨_, rfl, l, rfl, ⟨_, s2.seq hl⟩, for_list (K := K) (a := l) (xs := as.map V.ref) (fun i σ H' => ∃ v5 v6 v7 v8 P N, σ = [some (.ref l), some (.int (col : Int)), some (byV by_), some (.ref dP), some (.ref dN), v5, v6, v7, v8, none] ∧ Same H H' ∧ PplD H' dP P ∧ NumD H' dN N ∧ Km psOf (ents col by_ (Rs.take i)) P ∧ Km sumOf (ents col by_ (Rs.take i)) N ∧ N.map (·.1) = P.map (·.1))
      ⟨_, _, _, _, [], [], rfl, s2, ⟨[], (upd_ne dne).trans upd_same, .nil⟩, ⟨[], upd_same, .nil⟩, Km.nil, Km.nil, rfl⟩ (fun i σ H' _ ⟨_, _, _, _, _, _, _, s, _⟩ => s.seq hl) ?_ ?_⟩
    · rintro i y σ H2 hi ⟨v5, v6, v7, v8, P, N, rfl, sH, hP, hN, kP, kN, ek⟩
      rw [List.getElem?_map] at hi
      cases ha : as[i]? with
      | none => rw [ha] at hi; cases hi
      | some a =>
        rw [ha] at hi
        cases hi
        obtain ⟨R, hR, rw, ne, n, wd, cn, bn⟩ := paired_at hp ha
        obtain ⟨kvs, hd, pr⟩ := rw.ex
        have hd2 := sH _ _ hd
        have kl := paired_len pr
        have nPa : dP ≠ a := (ne_of_none hd nP).symm
        have nNa : dN ≠ a := (ne_of_none hd nN).symm
        have tot : (ents col by_ (Rs.take i) ++ entR col by_ R).length ≤ 1000 := by
          rw [← ents_take col by_ hR]
          refine Nat.le_trans (ents_len fun R hR => small R (List.mem_of_mem_take hR)) ?_
          rw [List.length_take]
          omega
        rw [List.length_append] at tot
        refine ⟨a, .dK kvs, hd2, trivial, fun od => ⟨_, rfl, a, od, kvs, rfl, upd_same, ?_⟩⟩
        refine for_items (d := a) (o := od) (kvs := kvs) (fun j σ H' => H' a = some (.frz od (.dK kvs)) ∧ But a H H' ∧ ∃ v6 v7 v8 P N, σ = [some (.ref l), some (.int (col : Int)), some (byV by_), some (.ref dP), some (.ref dN), some (.ref a), v6, v7, v8, none] ∧ PplD H' dP P ∧ NumD H' dN N ∧ Km psOf (ents col by_ (Rs.take i) ++ (entR col by_ R).take j) P ∧ Km sumOf (ents col by_ (Rs.take i) ++ (entR col by_ R).take j) N ∧ N.map (·.1) = P.map (·.1))
          ⟨upd_same, (fun b x nb e => (upd_ne nb).trans (sH _ _ e)), _, _, _, P, N, rfl, hP.other hd2 nPa, hN.other nNa, by rw [List.take_zero, List.append_nil]; exact kP, by rw [List.take_zero, List.append_nil]; exact kN, ek⟩ (fun j σ H' h => h.1) ?_ ?_
        · rintro j kv T σ H3 hj ⟨fz, bt, w6, w7, w8, P3, N3, rfl, hP3, hN3, kP3, kN3, ek3⟩ nT
          obtain ⟨r, hr, ekk, t, et, ht⟩ := paired_at pr hj
          obtain ⟨kk, vv⟩ := kv
          have ekk : kk = Sum.inl r.1 := ekk
          have et : vv = .ref t := et
          subst ekk
          subst et
          have rm := List.mem_of_getElem? hr
          have hje : (entR col by_ R)[j]? = some (r.1, keyR by_ r.2, r.2.getD col 0) := by
            unfold entR
            rw [List.getElem?_map, hr]
            rfl
          show gTup K 2 _ (V.ref T) _ (upd H3 T (.tup [V.int r.1, V.ref t])) _
          have sT := same_new (o := .tup [V.int r.1, V.ref t]) nT
          have ht4 : SqT K (upd H3 T (.tup [V.int r.1, V.ref t])) t (r.2.map V.int) := Same.seqT sT (But.seqT hd bt ht)
          have hP4 := hP3.keep sT
          have hN4 := hN3.keep sT
          have fz4 := sT _ _ fz
          have bt4 : But a H (upd H3 T (.tup [V.int r.1, V.ref t])) := fun b x nb e => sT _ _ (bt b x nb e)
          refine ⟨T, _, rfl, .inl (.inl upd_same), rfl, _, _, rfl, _, _, rfl, rfl, ?_⟩
          generalize upd H3 T (.tup [V.int r.1, V.ref t]) = H4 at ht4 hP4 hN4 fz4 bt4 ⊢
          have elen : (ents col by_ (Rs.take i) ++ (entR col by_ R).take j).length ≤ 1000 := by
            rw [List.length_append, List.length_take]
            omega
          have rest : ∀ D : Ends, (∀ σ' H', (H' a = some (.frz od (.dK kvs)) ∧ But a H H' ∧ ∃ v6 v7 v8 P N, σ' = [some (.ref l), some (.int (col : Int)), some (byV by_), some (.ref dP), some (.ref dN), some (.ref a), v6, v7, v8, none] ∧ PplD H' dP P ∧ NumD H' dN N ∧ Km psOf (ents col by_ (Rs.take i) ++ (entR col by_ R).take (j + 1)) P ∧ Km sumOf (ents col by_ (Rs.take i) ++ (entR col by_ R).take (j + 1)) N ∧ N.map (·.1) = P.map (·.1)) → D.nx σ' H') →
              tPut K D [some (.ref l), some (.int (col : Int)), some (byV by_), some (.ref dP), some (.ref dN), some (.ref a), some (.int r.1), some (.ref t), some (.int (keyR by_ r.2)), none] H4 := fun D hD =>
            put_step (n := n) nP nN dne bt4 ht4 (wd r rm) cn hP4 hN4 kP3 kN3 elen fun H' P' N' b' f' p' n' k1 k2 e' => hD _ _ ⟨f' _ fz4 nPa.symm nNa.symm, b', _, _, _, P', N', rfl, p', n', by rw [take_snoc hje, ← List.append_assoc]; exact k1, by rw [take_snoc hje, ← List.append_assoc]; exact k2, e' ek3⟩
          refine ⟨_, rfl, rfl, _, rfl, ?_⟩
          cases by_ with
          | none => exact iteF (rest _ fun _ _ z => z)
          | some b => exact iteT ⟨_, rfl, _, rfl, t, _, _, _, rfl, rfl, ht4, getI (by rw [wd r rm]; exact bn b rfl), rest _ fun _ _ z => z⟩
        · rintro σ H3 ⟨fz, bt, w6, w7, w8, P3, N3, rfl, hP3, hN3, kP3, kN3, ek3⟩
          have e1 : (entR col by_ R).take kvs.length = entR col by_ R := List.take_of_length_le (by
            unfold entR
            rw [List.length_map, kl]
            exact Nat.le_refl _)
          rw [e1, ← ents_take col by_ hR] at kP3 kN3
          exact ⟨fz, _, _, _, _, P3, N3, rfl, thaw2 (od := od) hd fun b x nb e => bt b x nb e, hP3.thaw fz, hN3.thaw fz, kP3, kN3, ek3⟩
    · rintro σ H2 ⟨v5, v6, v7, v8, P, N, rfl, sH, hP, hN, kP, kN, ek⟩
      rw [List.length_map, len, List.take_length] at kP kN
      have rng : ∀ e ∈ ents col by_ Rs, 0 < e.1 ∧ e.1 ≤ 60 := fun e he => by
        obtain ⟨R, hR, he⟩ := List.mem_flatMap.mp he
        obtain ⟨r, hr, rfl⟩ := List.mem_map.mp he
        obtain ⟨a, z⟩ := paired_mem hp hR
        exact z.1.ok.rng r hr
      have tot : (ents col by_ Rs).length ≤ 1000 := Nat.le_trans (ents_len small) (by omega)
      generalize ents col by_ Rs = es at kP kN rng tot q
      have lP := kP.len
      obtain ⟨fk, hfk, pf⟩ := hP
      obtain ⟨nk, hnk, pn⟩ := hN
      have fl := paired_len pf
      intro dG nG
      have s3 := same_new (o := .dK []) nG
      have gP : dG ≠ dP := (ne_of_none hfk nG).symm
      have gN : dG ≠ dN := (ne_of_none hnk nG).symm
      refine ⟨dP, .dK fk, s3 _ _ hfk, trivial, fun od => ⟨_, rfl, dP, od, rfl, .inl ⟨fk, upd_same, ?_⟩⟩⟩
      refine for_keys (d := dP) (o := od) (kvs := fk) (fun j σ H' => H' dP = some (.frz od (.dK fk)) ∧ But dP H2 H' ∧ ∃ v5 v6 v7 v8 G, σ = [some (.ref l), some (.int (col : Int)), some (byV by_), some (.ref dP), some (.ref dN), v5, v6, v7, v8, some (.ref dG)] ∧ SumsAt K H' dG G ∧ Paired (Grp es) (P.take j) G)
        ⟨upd_same, (fun b x nb e => (upd_ne nb).trans (s3 _ _ e)), _, _, _, _, [], rfl, ⟨[], (upd_ne gP).trans upd_same, .nil⟩, .nil⟩ (fun j σ H' h => h.1) ?_ ?_
      · rintro j kv σ H3 hj ⟨fz, bt, v5, v6, v7, v8, G, rfl, ⟨gk, hgk, pg⟩, gr⟩
        obtain ⟨pp, hpp, ekk, lp, el, hlp⟩ := paired_at pf hj
        obtain ⟨kk, vv⟩ := kv
        have ekk : kk = Sum.inl pp.1 := ekk
        have el : vv = .ref lp := el
        subst ekk
        subst el
        have pm := List.mem_of_getElem? hpp
        have hval : valV fk (Sum.inl pp.1) = some (.ref lp) := valV_mem (by
          rw [da_keys pplEnt_k pf]
          exact List.Pairwise.map Sum.inl (fun a b h e => h (Sum.inl.inj e)) kP.nd) (List.mem_of_getElem? hj)
        have hlp3 := bt _ _ (ne_of hlp hfk (by intro z; cases z)) hlp
        have hnk3 := bt _ _ dne.symm hnk
        have ppl : pp.2.length ≤ 1000 := by
          rw [kP.val pp pm]
          unfold psOf
          rw [List.length_map]
          exact Nat.le_trans (List.length_filter_le _ _) tot
        refine ⟨_, rfl, _, rfl, dP, .ref lp, rfl, .inl ⟨fk, Sum.inl pp.1, .inr ⟨od, fz⟩, rfl, hval.symm⟩, lp, pp.2, rfl, SqL.of hlp3, ppl, fun q0 c nq hcn hks => ?_⟩
        have c64 : c < 64 := by
          obtain ⟨ks, nd, lk, mem⟩ := hks
          have := nodup_len (n := 60) nd fun k hk => by
            have h1 := mem k hk
            rw [kP.val pp pm] at h1
            obtain ⟨e, he, _, ce⟩ := psOf_mem.mp h1
            rw [← ce]
            exact rng e he
          omega
        refine ⟨q0, _, c, rfl, upd_same, c64, fun ns lr srt mem hlen nr => ?_⟩
        have s4 := (same_new (o := SetO w q0 (fun j => decide (j ∈ pp.2)) c) nq).new (o := .lst (ns.map V.int)) nr
        have hlr : (upd (upd H3 q0 (SetO w q0 (fun j => decide (j ∈ pp.2)) c)) lr (.lst (ns.map V.int))) lr = _ := upd_same
        generalize upd (upd H3 q0 (SetO w q0 (fun j => decide (j ∈ pp.2)) c)) lr (.lst (ns.map V.int)) = H4 at s4 hlr ⊢
        have keyN : pp.1 ∈ N.map (·.1) := by
          rw [ek]
          exact List.mem_map.mpr ⟨pp, pm, rfl⟩
        rcases da_val numEnt_k pn pp.1 with ⟨_, h2⟩ | ⟨v, y, h1, h2, _, e2⟩
        · exact absurd keyN (lookA_none.mp h2)
        · have e2 : v = .int y := e2
          subst e2
          have yv : y = sumOf es pp.1 := kN.val _ (lookA_mem h2)
          refine ⟨_, rfl, _, rfl, dN, .int y, rfl, .inl ⟨nk, Sum.inl pp.1, .inl (s4 _ _ hnk3), rfl, h1.symm⟩, (by show 2 ≤ sizeLine; decide), fun tt ntt => ?_⟩
          have s5 := s4.new (o := .tup [V.ref lr, V.int y]) ntt
          have htt : (upd H4 tt (.tup [V.ref lr, V.int y])) tt = _ := upd_same
          have hlr5 := (same_new (o := .tup [V.ref lr, V.int y]) ntt) _ _ hlr
          generalize upd H4 tt (.tup [V.ref lr, V.int y]) = H5 at s5 htt hlr5 ⊢
          have hgk5 := s5 _ _ hgk
          have gl := paired_len pg
          have gl2 := paired_len gr
          rw [List.length_take] at gl2
          have b := SumsAt.put (k := pp.1) (v := .ref tt) (x := (ns, y)) hgk5 (L2.Paired.mapP pg (sumEnt_same s5)) ⟨rfl, tt, lr, rfl, .inl (.inl htt), hlr5⟩
          have hnew : pp.1 ∉ G.map (·.1) := by
            rw [grp_keys gr]
            exact key_new kP.nd hpp
          rw [putA_new hnew] at b
          refine ⟨_, rfl, _, rfl, dG, _, rfl, DPut.k (k := Sum.inl pp.1) hgk5 (by rw [gl, ← gl2, sizeLine_eq]; omega), ?_⟩
          refine ⟨(upd_ne gP.symm).trans (s5 _ _ fz), (fun b x nb e => ?_), _, _, _, _, _, rfl, b, ?_⟩
          · rw [upd_ne (ne_of_none e nG)]
            exact s5 _ _ (bt b x nb e)
          · rw [take_snoc hpp]
            exact paired_app gr (.cons ⟨rfl, srt, fun x => by rw [mem x, decide_eq_true_eq], yv⟩ .nil)
      · rintro σ H3 ⟨fz, bt, v5, v6, v7, v8, G, rfl, sa, gr⟩
        rw [fl, List.take_length] at gr
        refine ⟨fz, _, rfl, q dG G _ (grp_sm kP gr) (SumsAt.thaw fz sa) (sH.free nG) (sH.trans (thaw2 (od := od) hfk fun b x nb e => bt b x nb e))⟩
  · exact h.elim
end G21

set_option Elab.async false
set_option linter.all false
set_option maxRecDepth 100000
set_option maxHeartbeats 4000000
/-! k21: summed well: helpers. -/
namespace G21
open PySem PySem.Spec PyProof.Rows L2 U G
variable {K : PySem.W.Frag}
theorem rows_lst {H : Hp} {d a : Addr} {ys : List V} {o : HO} {R : Rw} (hd : H d = some (.lst ys)) (h : RowsAt K H a R) : RowsAt K (upd H d o) a R := by
  obtain ⟨kvs, e, p⟩ := h.ex
  refine ⟨⟨kvs, (upd_ne (ne_of e hd (by intro z; cases z))).trans e, L2.Paired.mapP p fun kv r h => ?_⟩, h.ok⟩
  obtain ⟨e1, t, e2, h⟩ := h
  exact ⟨e1, t, e2, seqT_l hd h⟩
theorem paired_take {α β : Type} {R : α → β → Prop} {as : List α} {bs : List β} (h : Paired R as bs) : ∀ n, Paired R (as.take n) (bs.take n) := by
  induction h with
  | nil =>
    intro n
    rw [List.take_nil, List.take_nil]
    exact .nil
  | cons hd _ ih =>
    intro n
    cases n with
    | zero => exact .nil
    | succ n => exact .cons hd (ih n)
theorem paired_drop {α β : Type} {R : α → β → Prop} {as : List α} {bs : List β} (h : Paired R as bs) : ∀ n, Paired R (as.drop n) (bs.drop n) := by
  induction h with
  | nil =>
    intro n
    rw [List.drop_nil, List.drop_nil]
    exact .nil
  | cons hd t ih =>
    intro n
    cases n with
    | zero => exact .cons hd t
    | succ n => exact ih n
/-- drawn rows that can be summed by columns below least -/
def Dr (K : PySem.W.Frag) (H : Hp) (least : Nat) (a : Addr) (R : Rw) : Prop := RowsAt K H a R ∧ R ≠ [] ∧ Sml R ∧ (∀ r ∈ R, r.1 ≤ 12) ∧ ∃ n, Wd R n ∧ least ≤ n
theorem Dr.keepP {H H' : Hp} {p a : Addr} {R : Rw} {least : Nat} (hp : PurAt H p) (k : Keep [p] H H') (h : Dr K H least a R) : Dr K H' least a R := ⟨RowsAt.keepP hp k h.1, h.2⟩
theorem Dr.keep {H H' : Hp} {a : Addr} {R : Rw} {least : Nat} (s : Same H H') (h : Dr K H least a R) : Dr K H' least a R := ⟨h.1.keep s, h.2⟩
theorem Dr.lst {H : Hp} {d a : Addr} {ys : List V} {o : HO} {R : Rw} {least : Nat} (hd : H d = some (.lst ys)) (h : Dr K H least a R) : Dr K (upd H d o) least a R := ⟨rows_lst hd h.1, h.2⟩
theorem Dr.less {H : Hp} {a : Addr} {R : Rw} {m n : Nat} (h : Dr K H n a R) (le : m ≤ n) : Dr K H m a R := by
  obtain ⟨h1, h2, h3, h4, k, w, l⟩ := h
  exact ⟨h1, h2, h3, h4, k, w, by omega⟩
theorem drs_smb {H : Hp} {as : List Addr} {Rs : List Rw} {least col : Nat} {by_ : Option Nat} (h : Paired (Dr K H least) as Rs) (hc : col < least) (hb : ∀ b, by_ = some b → b < least) : Paired (Smb K H col by_) as Rs := L2.Paired.mapP h fun a R ⟨h1, h2, _, _, n, w, le⟩ => ⟨h1, h2, n, w, by omega, fun b e => by have := hb b e; omega⟩
/-! ### sums shown -/
theorem good_len12 {R : Rw} (g : Good R) (h : ∀ r ∈ R, r.1 ≤ 12) : R.length ≤ 12 := by
  have := nodup_len (n := 12) g.nd fun k hk => by
    obtain ⟨r, hr, rfl⟩ := List.mem_map.mp hk
    have := g.rng r hr
    have := h r hr
    omega
  rw [List.length_map] at this
  exact this
theorem sum_bound {es : List Ent} {k : Int} (h : ∀ e ∈ es, -(10 ^ 60) < e.2.2 ∧ e.2.2 < 10 ^ 60) : -((es.length : Int) * 10 ^ 60) ≤ sumOf es k ∧ sumOf es k ≤ (es.length : Int) * 10 ^ 60 := by
  unfold sumOf
  induction es with
  | nil => exact ⟨by show -((0 : Int) * 10 ^ 60) ≤ 0; decide, by show (0 : Int) ≤ 0 * 10 ^ 60; decide⟩
  | cons e es ih =>
    have i := ih fun e he => h e (List.mem_cons_of_mem _ he)
    have b := h e (List.mem_cons_self ..)
    rw [List.filter_cons, List.length_cons]
    split
    · rw [List.map_cons, List.sum_cons]
      omega
    · omega
theorem sums_nice {es : List Ent} {G : Gs} (S : Sm es G) (le : es.length ≤ 100) (rng : ∀ e ∈ es, 0 < e.1 ∧ e.1 ≤ 60) (kb : ∀ e ∈ es, -(10 ^ 60) < e.2.1 ∧ e.2.1 < 10 ^ 60) (nb : ∀ e ∈ es, -(10 ^ 60) < e.2.2 ∧ e.2.2 < 10 ^ 60) : Nice (G.map gI) := by
  have gl : G.length ≤ es.length := by
    have := nodup_sub (l := G.map (·.1)) (m := es.map (·.2.1)) S.nd fun k hk => by
      obtain ⟨g, hg, rfl⟩ := List.mem_map.mp hk
      obtain ⟨e, he, c⟩ := S.hit g hg
      exact List.mem_map.mpr ⟨e, he, c⟩
    rw [List.length_map, List.length_map] at this
    exact this
  refine ⟨by rw [List.map_map]; exact S.nd, fun p hp => ?_, by rw [List.length_map]; omega⟩
  obtain ⟨g, hg, rfl⟩ := List.mem_map.mp hp
  obtain ⟨e, he, c⟩ := S.hit g hg
  have k := kb e he
  rw [c] at k
  have sb := sum_bound (k := g.1) nb
  refine ⟨⟨by show -(10 ^ 70) < g.1; omega, by show g.1 < 10 ^ 70; omega⟩, ?_⟩
  have ppl : g.2.1.length ≤ 60 := nodup_len (n := 60) (rise_nodup (S.srt g hg)) fun x hx => by
    obtain ⟨e, he, _, ce⟩ := (S.mem g hg x).mp hx
    rw [← ce]
    exact rng e he
  refine (fd_tuple (m := 2) (b := 60) fun d hd => ?_).mono (Nat.le_refl _) (by show 2 * (60 + 1) ≤ 200; decide)
  rcases List.mem_cons.mp hd with rfl | hd
  · refine (fd_list (m := 0) (b := 0) fun d hd => ?_).mono (by decide) (by rw [List.length_map]; omega)
    obtain ⟨x, hx, rfl⟩ := List.mem_map.mp hd
    obtain ⟨e, he, _, ce⟩ := (S.mem g hg x).mp hx
    have := rng e he
    exact fd_int (by omega) (by omega)
  · rw [List.mem_singleton.mp hd, S.num g hg]
    exact (fd_int (by omega) (by omega)).mono (by decide) (by decide)
end G21

set_option Elab.async false
set_option linter.all false
set_option maxRecDepth 100000
set_option maxHeartbeats 4000000
/-! Promises of law k23. -/
namespace G23
open PySem PySem.Spec PyProof.Rows L2 U G
def lessR (gs : List Int) (R : Rw) : Rw := R.filter fun r => !decide (r.1 ∈ gs)
def lessE (gs : List Int) (es : List Ent) : List Ent := es.filter fun e => !decide (e.1 ∈ gs)
/-- rows that can be summed -/
def Smb (K : PySem.W.Frag) (H : Hp) (col : Nat) (by_ : Option Nat) (a : Addr) (R : Rw) : Prop := RowsAt K H a R ∧ R ≠ [] ∧ ∃ n, Wd R n ∧ col < n ∧ ∀ b, by_ = some b → b < n
def sp__law_less (K : PySem.W.Frag) : Sp := fun vs H Q _ => match vs with
  | [.ref a, .ref g] => ∃ R, ∃ gs : List Int, RowsAt K H a R ∧ SqL K H g (gs.map V.int) ∧ ∀ p H', RowsAt K H' p (lessR gs R) → H p = none → Same H H' → Q (.ref p) H'
  | _ => False
def sp__law_turned (K : PySem.W.Frag) : Sp := fun vs H Q _ => match vs with
  | [.ref a] => ∃ R, RowsAt K H a R ∧ ∀ p H', RowsAt K H' p R.reverse → H p = none → Same H H' → Q (.ref p) H'
  | _ => False
def sp__law_key (K : PySem.W.Frag) : Sp := fun vs H Q _ => match vs with
  | [.ref t, v] => ∃ (xs : List Int) (by_ : Option Nat), v = byV by_ ∧ SqT K H t (xs.map V.int) ∧ (∀ c, by_ = some c → c < xs.length) ∧ Q (.int (keyR by_ xs)) H
  | _ => False
def sp__law_sums_less (K : PySem.W.Frag) : Sp := fun vs H Q _ => match vs with
  | [.ref l, .ref g, .int c, v] => ∃ (as : List Addr) (Rs : List Rw) (gs : List Int) (col : Nat) (by_ : Option Nat), c = (col : Int) ∧ v = byV by_ ∧ SqL K H l (as.map V.ref) ∧ SqL K H g (gs.map V.int) ∧ Paired (Smb K H col by_) as Rs ∧ 1 ≤ Rs.length ∧ Rs.length ≤ 8 ∧
    ∀ p G H', Sm (lessE gs (ents col by_ Rs)) G → SumsAt K H' p G → H p = none → Same H H' → Q (.ref p) H'
  | _ => False
def sp__law_sums_right (K : PySem.W.Frag) : Sp := fun vs H Q _ => match vs with
  | [.ref l, .ref g, .int c, v] => ∃ (as : List Addr) (Rs : List Rw) (gs : List Int) (col : Nat) (by_ : Option Nat), c = (col : Int) ∧ v = byV by_ ∧ SqL K H l (as.map V.ref) ∧ SqL K H g (gs.map V.int) ∧ Paired (Smb K H col by_) as Rs ∧ 1 ≤ Rs.length ∧ Rs.length ≤ 8 ∧
    ∀ H', Same H H' → Q (.bl true) H'
  | _ => False
def sp__law_ways_right (K : PySem.W.Frag) : Sp := fun vs H Q _ => match vs with
  | [.ref a, .ref b, .ref g, .ref c] => ∃ A B n, ∃ gs : List Int, ∃ cs : List Nat, RowsAt K H a A ∧ RowsAt K H b B ∧ Wd A n ∧ Wd B n ∧ A ≠ [] ∧ B ≠ [] ∧ 1 ≤ n ∧ n ≤ 6 ∧ SqL K H g (gs.map V.int) ∧ SqL K H c (cs.map fun (i : Nat) => V.int (i : Int)) ∧ 1 ≤ cs.length ∧ cs.length ≤ 12 ∧ (∀ i ∈ cs, i < n) ∧
    ∀ H', Same H H' → Q (.bl true) H'
  | _ => False
def sp__law_long_way (K : PySem.W.Frag) : Sp := fun vs H Q _ => match vs with
  | [.ref a, .ref b, .ref d, .ref g, .ref c] => ∃ A B D n, ∃ gs : List Int, ∃ cs : List Nat, RowsAt K H a A ∧ RowsAt K H b B ∧ RowsAt K H d D ∧ Wd A n ∧ Wd B n ∧ Wd D n ∧ A ≠ [] ∧ B ≠ [] ∧ D ≠ [] ∧ 2 ≤ n ∧ n ≤ 6 ∧ SqL K H g (gs.map V.int) ∧ SqL K H c (cs.map fun (i : Nat) => V.int (i : Int)) ∧ 2 ≤ cs.length ∧ cs.length ≤ 12 ∧ (∀ i ∈ cs, i < n) ∧
    ∀ H', Same H H' → Q (.bl true) H'
  | _ => False
def sp_law (K : PySem.W.Frag) : Sp := fun vs H Q _ => match vs with
  | [.ref a] => ∃ ns : List Int, SqL K H a (ns.map V.int) ∧ ns.length ≤ 63 ∧ ∀ H', Q (.bl true) H'
  | _ => False
end G23

set_option Elab.async false
set_option linter.all false
set_option maxRecDepth 100000
set_option maxHeartbeats 4000000
/-! Plain law of k23. -/
namespace G23
open PySem PySem.Spec PyProof.Rows L2 U G
/-! ### dicts compared -/
theorem eqDc_nil (ds : List (Key × PyData)) : eqDc ds [] = ds.isEmpty := by
  cases ds with
  | nil => rfl
  | cons q r => rfl
theorem dcLook_of {ds : List (Key × PyData)} {q : Key × PyData} (nd : (ds.map (·.1)).Nodup) (h : q ∈ ds) : dcLook ds q.1 = some q.2 := by
  unfold dcLook
  induction ds with
  | nil => cases h
  | cons p r ih =>
    rw [List.map_cons, List.nodup_cons] at nd
    rw [List.find?_cons]
    rcases List.mem_cons.mp h with rfl | h
    · rw [decide_eq_true rfl]
      rfl
    · rw [decide_eq_false fun e => nd.1 (by rw [e]; exact List.mem_map.mpr ⟨_, h, rfl⟩)]
      exact ih nd.2 h
theorem eqDc_perm {ds es : List (Key × PyData)} (p : ds.Perm es) (nd : (es.map (·.1)).Nodup) (ok : ∀ q ∈ ds, PyData.canLay0 q.2 = true) : eqDc ds es = true := by
  unfold eqDc
  rw [p.length_eq, beq_self_eq_true, Bool.true_and, List.all_eq_true]
  intro q hq
  unfold hitD
  rw [dcLook_of nd (p.mem_iff.mp hq)]
  exact SeqAt.eqv_refl _ (ok q hq)
/-! ### rows -/
def dR (R : Rw) : List (Key × PyData) := R.map fun r => (Sum.inl r.1, PyData.tuple (r.2.map PyData.int))
theorem dR_sh (R : Rw) : ∀ q ∈ dR R, SeqAt.shaped q.2 = true := fun q hq => by
  obtain ⟨r, _, rfl⟩ := List.mem_map.mp hq
  exact (Dd.tuple (n := 0) fun d hd => by
    obtain ⟨i, _, rfl⟩ := List.mem_map.mp hd
    exact Dd.int i).sh (by decide)
theorem dR_keys (R : Rw) : (dR R).map (·.1) = (R.map (·.1)).map Sum.inl := by
  unfold dR
  rw [List.map_map, List.map_map]
  rfl
theorem inl_nodup {l : List Int} (h : l.Nodup) : (l.map (Sum.inl : Int → Key)).Nodup := List.Pairwise.map Sum.inl (fun a b h e => h (Sum.inl.inj e)) h
theorem rows_eq {R R' : Rw} (p : R.Perm R') (g : Good R') : eqDc (dR R) (dR R') = true := eqDc_perm (p.map _) (by rw [dR_keys]; exact inl_nodup g.nd) fun q hq => SeqAt.canLay_of_shaped (dR_sh R q hq)
theorem dR_nil (R : Rw) : eqDc (dR R) [] = R.isEmpty := by
  rw [eqDc_nil]
  cases R <;> rfl
/-! ### those who leave -/
theorem less_perm {gs : List Int} {R R' : Rw} (p : R.Perm R') : (lessR gs R).Perm (lessR gs R') := p.filter _
theorem less_good {gs : List Int} {R : Rw} (g : Good R) : Good (lessR gs R) := g.sub List.filter_sublist
theorem less_cut (gs : List Int) (cs : List Nat) (R : Rw) : lessR gs (cutR cs R) = cutR cs (lessR gs R) := by
  unfold lessR cutR
  rw [List.filter_map]
  rfl
theorem look_less {gs : List Int} {k : Int} (hk : k ∉ gs) : ∀ R : Rw, lookA (lessR gs R) k = lookA R k
  | [] => rfl
  | r :: R => by
    unfold lessR
    rw [List.filter_cons, lookA_cons]
    by_cases c : r.1 ∈ gs
    · rw [decide_eq_true c, if_neg (by decide), if_neg (fun e => hk (by rw [← e]; exact c))]
      exact look_less hk R
    · rw [decide_eq_false c, if_pos (by decide), lookA_cons]
      split
      · rfl
      · exact look_less hk R
theorem look_less_gone {gs : List Int} {k : Int} (hk : k ∈ gs) (R : Rw) : lookA (lessR gs R) k = none := lookA_none.mpr fun z => by
  obtain ⟨r, hr, rfl⟩ := List.mem_map.mp z
  have := (List.mem_filter.mp hr).2
  rw [decide_eq_true hk] at this
  cases this
theorem less_join (gs : List Int) (B : Rw) : ∀ A : Rw, lessR gs (joinR A B) = joinR (lessR gs A) (lessR gs B)
  | [] => rfl
  | r :: A => by
    have ih := less_join gs B A
    unfold lessR joinR at ih ⊢
    rw [List.filterMap_cons, List.filter_cons]
    by_cases c : r.1 ∈ gs
    · rw [decide_eq_true c, if_neg (by decide)]
      cases hj : joinRow B r with
      | none => exact ih
      | some x =>
        have hx : x.1 = r.1 := by
          unfold joinRow at hj
          cases hb : lookA B r.1 with
          | none => rw [hb] at hj; cases hj
          | some b => rw [hb] at hj; cases hj; rfl
        show List.filter _ (x :: _) = _
        rw [List.filter_cons, hx, decide_eq_true c, if_neg (by decide)]
        exact ih
    · rw [decide_eq_false c, if_pos (by decide), List.filterMap_cons]
      have e : joinRow (List.filter (fun r => !decide (r.1 ∈ gs)) B) r = joinRow B r := by
        unfold joinRow
        have := look_less c B
        unfold lessR at this
        rw [this]
      rw [e]
      cases hj : joinRow B r with
      | none => exact ih
      | some x =>
        have hx : x.1 = r.1 := by
          unfold joinRow at hj
          cases hb : lookA B r.1 with
          | none => rw [hb] at hj; cases hj
          | some b => rw [hb] at hj; cases hj; rfl
        show List.filter _ (x :: _) = x :: _
        rw [List.filter_cons, hx, decide_eq_false c, if_pos (by decide)]
        exact congrArg _ ih
theorem join_nilA (B : Rw) : joinR [] B = [] := rfl
theorem join_nilB : ∀ A : Rw, joinR A [] = []
  | [] => rfl
  | r :: A => by
    have h : joinRow [] r = none := rfl
    have ih := join_nilB A
    unfold joinR at ih ⊢
    rw [List.filterMap_cons, h]
    exact ih
theorem look_perm {R R' : Rw} (p : R.Perm R') (g : Good R') (k : Int) : lookA R k = lookA R' k := by
  have g2 := g.perm p
  cases h : lookA R' k with
  | none => exact lookA_none.mpr fun z => lookA_none.mp h ((p.map (·.1)).mem_iff.mp z)
  | some x => exact lookA_of_mem g2.nd (p.mem_iff.mpr (lookA_mem h))
theorem join_perm {A A' B B' : Rw} (p : A.Perm A') (q : B.Perm B') (g : Good B') : (joinR A B).Perm (joinR A' B') := by
  have e : joinRow B = joinRow B' := funext fun r => by
    unfold joinRow
    rw [look_perm q g]
  unfold joinR
  rw [e]
  exact p.filterMap _
theorem join_wd {A B : Rw} {n m : Nat} (wA : Wd A n) (wB : Wd B m) : Wd (joinR A B) (n + m) := fun r hr => by
  obtain ⟨r', hr', e⟩ := List.mem_filterMap.mp hr
  unfold joinRow at e
  cases hb : lookA B r'.1 with
  | none => rw [hb] at e; cases e
  | some b =>
    rw [hb] at e
    cases e
    show (r'.2 ++ b).length = n + m
    rw [List.length_append, wA r' hr', wB (r'.1, b) (lookA_mem hb)]
theorem cut_wd (cs : List Nat) (R : Rw) : Wd (cutR cs R) cs.length := fun r hr => by
  obtain ⟨r', _, rfl⟩ := List.mem_map.mp hr
  exact List.length_map _
theorem cut_perm {cs : List Nat} {R R' : Rw} (p : R.Perm R') : (cutR cs R).Perm (cutR cs R') := p.map _
theorem wd_perm {R R' : Rw} {n : Nat} (p : R.Perm R') (w : Wd R' n) : Wd R n := fun r hr => w r (p.mem_iff.mp hr)
theorem wd_less {gs : List Int} {R : Rw} {n : Nat} (w : Wd R n) : Wd (lessR gs R) n := fun r hr => w r (List.mem_filter.mp hr).1
theorem cut_ne {cs : List Nat} {R : Rw} (h : R ≠ []) : cutR cs R ≠ [] := fun e => h (List.map_eq_nil_iff.mp e)
/-! ### sums -/
def dG (G : Gs) : List (Key × PyData) := G.map fun g => (Sum.inl g.1, PyData.tuple [PyData.list (g.2.1.map PyData.int), PyData.int g.2.2])
theorem dG_sh (G : Gs) : ∀ q ∈ dG G, SeqAt.shaped q.2 = true := fun q hq => by
  obtain ⟨g, _, rfl⟩ := List.mem_map.mp hq
  exact (Dd.tuple (n := 1) fun d hd => by
    rcases List.mem_cons.mp hd with rfl | hd
    · exact Dd.list (n := 0) fun d hd => by
        obtain ⟨i, _, rfl⟩ := List.mem_map.mp hd
        exact Dd.int i
    · rw [List.mem_singleton.mp hd]
      exact (Dd.int _).mono (by decide)).sh (by decide)
theorem dG_keys (G : Gs) : (dG G).map (·.1) = (G.map (·.1)).map Sum.inl := by
  unfold dG
  rw [List.map_map, List.map_map]
  rfl
theorem rise_same : ∀ {l m : List Int}, l.Pairwise (· < ·) → m.Pairwise (· < ·) → (∀ x, x ∈ l ↔ x ∈ m) → l = m := fun hl hm h =>
  PySem.W.ksm_same ((List.perm_ext_iff_of_nodup (rise_nodup hl) (rise_nodup hm)).mpr h) (hl.imp Int.le_of_lt) (hm.imp Int.le_of_lt)
theorem sum_perm {l m : List Int} (p : l.Perm m) : l.sum = m.sum := by
  induction p with
  | nil => rfl
  | cons x _ ih => rw [List.sum_cons, List.sum_cons, ih]
  | swap x y l =>
    simp only [List.sum_cons]
    omega
  | trans _ _ i1 i2 => exact i1.trans i2
theorem sumOf_perm {es fs : List Ent} (p : es.Perm fs) (k : Int) : sumOf es k = sumOf fs k := by
  unfold sumOf
  exact sum_perm ((p.filter _).map _)
/-- one and the same sum -/
theorem _root_.G.Sm.sub {es fs : List Ent} {G F : Gs} (p : es.Perm fs) (S : Sm es G) (T : Sm fs F) : ∀ g ∈ G, g ∈ F := fun g hg => by
  obtain ⟨e, he, c⟩ := S.hit g hg
  have hk := T.cov e (p.mem_iff.mp he)
  rw [c] at hk
  obtain ⟨f, hf, ef⟩ := List.mem_map.mp hk
  have e1 : g.2.1 = f.2.1 := rise_same (S.srt g hg) (T.srt f hf) fun x => by
    rw [S.mem g hg, T.mem f hf, ef]
    exact ⟨fun ⟨e, he, r⟩ => ⟨e, p.mem_iff.mp he, r⟩, fun ⟨e, he, r⟩ => ⟨e, p.mem_iff.mpr he, r⟩⟩
  have e2 : g.2.2 = f.2.2 := by rw [S.num g hg, T.num f hf, ef, sumOf_perm p]
  have e3 : g = f := Prod.ext ef.symm (Prod.ext e1 e2)
  rw [e3]
  exact hf
theorem keys_nd {α : Type} : ∀ {l : List (Int × α)}, (l.map (·.1)).Nodup → l.Nodup
  | [], _ => List.nodup_nil
  | q :: l, h => by
    rw [List.map_cons, List.nodup_cons] at h
    exact List.nodup_cons.mpr ⟨fun z => h.1 (List.mem_map.mpr ⟨q, z, rfl⟩), keys_nd h.2⟩
theorem _root_.G.Sm.perm {es fs : List Ent} {G F : Gs} (p : es.Perm fs) (S : Sm es G) (T : Sm fs F) : G.Perm F :=
  (List.perm_ext_iff_of_nodup (keys_nd S.nd) (keys_nd T.nd)).mpr fun g => ⟨S.sub p T g, T.sub p.symm S g⟩
theorem sums_eq {es fs : List Ent} {G F : Gs} (p : es.Perm fs) (S : Sm es G) (T : Sm fs F) : eqDc (dG G) (dG F) = true := eqDc_perm ((S.perm p T).map _) (by rw [dG_keys]; exact inl_nodup T.nd) fun q hq => SeqAt.canLay_of_shaped (dG_sh G q hq)
theorem dG_nil (G : Gs) : eqDc (dG G) [] = G.isEmpty := by
  rw [eqDc_nil]
  cases G <;> rfl
theorem _root_.G.Sm.empty {es : List Ent} {G : Gs} (S : Sm es G) : G.isEmpty = es.isEmpty := by
  cases G with
  | nil =>
    cases es with
    | nil => rfl
    | cons e r => exact absurd (S.cov e (List.mem_cons_self ..)) (by simp)
  | cons g r =>
    obtain ⟨e, he, _⟩ := S.hit g (List.mem_cons_self ..)
    cases es with
    | nil => cases he
    | cons e' r' => rfl
/-! ### a sum without those who left -/
def goneE (gs : List Int) (es : List Ent) : List Ent := es.filter fun e => decide (e.1 ∈ gs)
theorem sum_split (gs : List Int) (k : Int) : ∀ es : List Ent, sumOf es k = sumOf (goneE gs es) k + sumOf (lessE gs es) k
  | [] => rfl
  | e :: es => by
    have ih := sum_split gs k es
    have cons : ∀ (e : Ent) (es : List Ent), sumOf (e :: es) k = (if e.2.1 = k then e.2.2 else 0) + sumOf es k := fun e es => by
      unfold sumOf
      by_cases c : e.2.1 = k
      · rw [if_pos c, List.filter_cons, if_pos (decide_eq_true c), List.map_cons, List.sum_cons]
      · rw [if_neg c, List.filter_cons, if_neg (by rw [decide_eq_false c]; decide), Int.zero_add]
    by_cases c : e.1 ∈ gs
    · have h1 : goneE gs (e :: es) = e :: goneE gs es := by
        unfold goneE
        rw [List.filter_cons, if_pos (decide_eq_true c)]
      have h2 : lessE gs (e :: es) = lessE gs es := by
        unfold lessE
        rw [List.filter_cons, decide_eq_true c, if_neg (by decide)]
      rw [h1, h2, cons, cons, ih]
      omega
    · have h1 : goneE gs (e :: es) = goneE gs es := by
        unfold goneE
        rw [List.filter_cons, decide_eq_false c, if_neg (by decide)]
      have h2 : lessE gs (e :: es) = e :: lessE gs es := by
        unfold lessE
        rw [List.filter_cons, decide_eq_false c, if_pos (by rfl)]
      rw [h1, h2, cons, cons, ih]
      omega
def lessG (gs : List Int) (es : List Ent) (g : Int × (List Int × Int)) : Option (Int × (List Int × Int)) :=
  if (g.2.1.filter fun p => !decide (p ∈ gs)) = [] then none else some (g.1, (g.2.1.filter fun p => !decide (p ∈ gs)), g.2.2 - sumOf (goneE gs es) g.1)
theorem lessG_some {gs : List Int} {es : List Ent} {g x : Int × (List Int × Int)} (h : lessG gs es g = some x) : (g.2.1.filter fun p => !decide (p ∈ gs)) ≠ [] ∧ x = (g.1, (g.2.1.filter fun p => !decide (p ∈ gs)), g.2.2 - sumOf (goneE gs es) g.1) := by
  unfold lessG at h
  split at h
  · cases h
  · rename_i c
    exact ⟨c, (Option.some.inj h).symm⟩
theorem keys_sub {α : Type} (f : Int × α → Option (Int × α)) (hf : ∀ g x, f g = some x → x.1 = g.1) : ∀ l : List (Int × α), ((l.filterMap f).map (·.1)).Sublist (l.map (·.1))
  | [] => List.Sublist.refl _
  | g :: l => by
    have ih := keys_sub f hf l
    rw [List.filterMap_cons, List.map_cons]
    cases h : f g with
    | none => exact ih.cons _
    | some x =>
      show (x.1 :: _).Sublist _
      rw [hf g x h]
      exact ih.cons₂ _
theorem _root_.G.Sm.less {es : List Ent} {G : Gs} (S : Sm es G) (gs : List Int) : Sm (lessE gs es) (G.filterMap (lessG gs es)) := by
  have back : ∀ x ∈ G.filterMap (lessG gs es), ∃ g ∈ G, (g.2.1.filter fun p => !decide (p ∈ gs)) ≠ [] ∧ x = (g.1, (g.2.1.filter fun p => !decide (p ∈ gs)), g.2.2 - sumOf (goneE gs es) g.1) := fun x hx => by
    obtain ⟨g, hg, e⟩ := List.mem_filterMap.mp hx
    exact ⟨g, hg, lessG_some e⟩
  have memL : ∀ g ∈ G, ∀ p, p ∈ (g.2.1.filter fun p => !decide (p ∈ gs)) ↔ ∃ e ∈ lessE gs es, e.2.1 = g.1 ∧ e.1 = p := fun g hg p => by
    rw [List.mem_filter, S.mem g hg]
    constructor
    · rintro ⟨⟨e, he, c1, c2⟩, hp⟩
      exact ⟨e, List.mem_filter.mpr ⟨he, by rw [c2]; exact hp⟩, c1, c2⟩
    · rintro ⟨e, he, c1, c2⟩
      obtain ⟨h1, h2⟩ := List.mem_filter.mp he
      exact ⟨⟨e, h1, c1, c2⟩, by rw [← c2]; exact h2⟩
  refine ⟨S.nd.sublist (keys_sub _ (fun g x h => by rw [(lessG_some h).2]) G), fun e he => ?_, fun x hx => ?_, fun x hx => ?_, fun x hx p => ?_, fun x hx => ?_⟩
  · have h1 := S.cov e (List.mem_filter.mp he).1
    obtain ⟨g, hg, eg⟩ := List.mem_map.mp h1
    have hp : e.1 ∈ (g.2.1.filter fun p => !decide (p ∈ gs)) := (memL g hg e.1).mpr ⟨e, he, eg.symm, rfl⟩
    refine List.mem_map.mpr ⟨(g.1, (g.2.1.filter fun p => !decide (p ∈ gs)), g.2.2 - sumOf (goneE gs es) g.1), List.mem_filterMap.mpr ⟨g, hg, ?_⟩, eg⟩
    unfold lessG
    rw [if_neg (fun z => by rw [z] at hp; cases hp)]
  · obtain ⟨g, hg, ne, rfl⟩ := back x hx
    obtain ⟨p, hp⟩ := List.exists_mem_of_ne_nil _ ne
    obtain ⟨e, he, c, _⟩ := (memL g hg p).mp hp
    exact ⟨e, he, c⟩
  · obtain ⟨g, hg, ne, rfl⟩ := back x hx
    exact (S.srt g hg).sublist List.filter_sublist
  · obtain ⟨g, hg, ne, rfl⟩ := back x hx
    exact memL g hg p
  · obtain ⟨g, hg, ne, rfl⟩ := back x hx
    show g.2.2 - sumOf (goneE gs es) g.1 = sumOf (lessE gs es) g.1
    rw [S.num g hg, sum_split gs g.1 es]
    omega
/-! ### entries -/
theorem ents_less (gs : List Int) (col : Nat) (by_ : Option Nat) : ∀ Rs : List Rw, ents col by_ (Rs.map (lessR gs)) = lessE gs (ents col by_ Rs)
  | [] => rfl
  | R :: Rs => by
    have ih := ents_less gs col by_ Rs
    unfold ents lessE at ih ⊢
    rw [List.map_cons, List.flatMap_cons, List.flatMap_cons, List.filter_append, ih]
    congr 1
    unfold entR lessR
    rw [List.filter_map]
    rfl
theorem ents_nonempty (col : Nat) (by_ : Option Nat) : ∀ Rs : List Rw, ents col by_ (Rs.filter fun R => !R.isEmpty) = ents col by_ Rs
  | [] => rfl
  | R :: Rs => by
    have ih := ents_nonempty col by_ Rs
    unfold ents at ih ⊢
    rw [List.filter_cons, List.flatMap_cons]
    cases R with
    | nil =>
      rw [if_neg (by decide), ih]
      rfl
    | cons r R => rw [if_pos (by rfl), List.flatMap_cons, ih]
theorem ents_perm1 (col : Nat) (by_ : Option Nat) {R R' : Rw} (p : R.Perm R') : (entR col by_ R).Perm (entR col by_ R') := p.map _
theorem ents_turn (col : Nat) (by_ : Option Nat) : ∀ Rs : List Rw, (ents col by_ (Rs.reverse.map List.reverse)).Perm (ents col by_ Rs) := fun Rs => by
  unfold ents
  have h1 : (Rs.reverse.map List.reverse).flatMap (entR col by_) = Rs.reverse.flatMap fun R => entR col by_ R.reverse := by
    rw [List.flatMap_map]
  rw [h1]
  have h2 : (Rs.reverse.flatMap fun R => entR col by_ R.reverse).Perm (Rs.flatMap fun R => entR col by_ R.reverse) := (List.reverse_perm Rs).flatMap_right _
  refine h2.trans ?_
  induction Rs with
  | nil => exact .refl _
  | cons R Rs ih =>
    rw [List.flatMap_cons, List.flatMap_cons]
    refine List.Perm.append (ents_perm1 col by_ (List.reverse_perm R)) (ih ?_ ?_)
    · rw [List.flatMap_map]
    · exact (List.reverse_perm Rs).flatMap_right _
theorem ents_rev (col : Nat) (by_ : Option Nat) (Rs : List Rw) : (ents col by_ Rs.reverse).Perm (ents col by_ Rs) := (List.reverse_perm Rs).flatMap_right _
theorem ents_two (col : Nat) (by_ : Option Nat) {A A' B B' : Rw} (p : A.Perm A') (q : B.Perm B') : (ents col by_ [A, B]).Perm (ents col by_ [A', B']) := by
  unfold ents
  simp only [List.flatMap_cons, List.flatMap_nil, List.append_nil]
  exact (ents_perm1 col by_ p).append (ents_perm1 col by_ q)
end G23

set_option Elab.async false
set_option linter.all false
set_option maxRecDepth 100000
set_option maxHeartbeats 4000000
/-! k21: summed well. -/
namespace G21
open PySem PySem.Spec PyProof.Rows L2 U G
variable {K : PySem.W.Frag}
theorem ents_len12 {col : Nat} {by_ : Option Nat} : ∀ {Rs : List Rw}, (∀ R ∈ Rs, R.length ≤ 12) → (ents col by_ Rs).length ≤ 12 * Rs.length
  | [], _ => Nat.zero_le _
  | R :: Rs, h => by
    have ih := ents_len12 (col := col) (by_ := by_) (Rs := Rs) fun R hR => h R (List.mem_cons_of_mem _ hR)
    have h1 := h R (List.mem_cons_self ..)
    unfold ents at ih ⊢
    rw [List.flatMap_cons, List.length_append, List.length_cons]
    have e : (entR col by_ R).length = R.length := List.length_map _
    omega
theorem getD_sml {R : Rw} {r : Int × List Int} {n c : Nat} (s : Sml R) (w : Wd R n) (hr : r ∈ R) (hc : c < n) : -(10 ^ 60) < r.2.getD c 0 ∧ r.2.getD c 0 < 10 ^ 60 := by
  have lt : c < r.2.length := by rw [w r hr]; exact hc
  rw [List.getD_eq_getElem?_getD, List.getElem?_eq_getElem lt]
  exact s r hr _ (List.getElem_mem lt)
theorem drs_nice {H : Hp} {as : List Addr} {Rs : List Rw} {least col : Nat} {by_ : Option Nat} {G : Gs} (h : Paired (Dr K H least) as Rs) (r8 : Rs.length ≤ 8) (hc : col < least) (hb : ∀ b, by_ = some b → b < least) (S : Sm (ents col by_ Rs) G) : Nice (G.map gI) := by
  have each : ∀ e ∈ ents col by_ Rs, (0 < e.1 ∧ e.1 ≤ 60) ∧ (-(10 ^ 60) < e.2.1 ∧ e.2.1 < 10 ^ 60) ∧ (-(10 ^ 60) < e.2.2 ∧ e.2.2 < 10 ^ 60) := fun e he => by
    obtain ⟨R, hR, he⟩ := List.mem_flatMap.mp he
    obtain ⟨r, hr, rfl⟩ := List.mem_map.mp he
    obtain ⟨a, rw, _, sm, _, n, w, le⟩ := paired_mem h hR
    refine ⟨rw.ok.rng r hr, ?_, getD_sml sm w hr (by omega)⟩
    cases by_ with
    | none => exact ⟨by show -(10 ^ 60) < (0 : Int); decide, by show (0 : Int) < 10 ^ 60; decide⟩
    | some b =>
      have := hb b rfl
      exact getD_sml sm w hr (by omega)
  refine sums_nice S (Nat.le_trans (ents_len12 fun R hR => ?_) (by omega)) (fun e he => (each e he).1) (fun e he => (each e he).2.1) fun e he => (each e he).2.2
  obtain ⟨a, rw, _, _, f, _⟩ := paired_mem h hR
  exact good_len12 rw.ok f
theorem paired_self {as : List Addr} {F : V → V → Prop} (h : ∀ a, F (.ref a) (.ref a)) : Paired F (as.map V.ref) (as.map V.ref) := by
  induction as with
  | nil => exact .nil
  | cons a as ih => exact .cons (h a) ih
theorem pure__law_summed_well (vs : List V) (H : Hp) (Q : VK) (E : XK) (h : sp__law_summed_well K vs H Q E) : t__law_summed_well K { nx := fun _ H' => Q .non H', rt := Q } (start N__law_summed_well vs) H := by
  unfold sp__law_summed_well at h
  split at h
  · rename_i p a w
    obtain ⟨R, n, rfl, P0, rw, wd, ne, n1, n11, sml, f12, q⟩ := h
    refine ⟨_, rfl, (by show 1 ≤ sizeLine; decide), fun ls nls => ⟨_, rfl, ?_⟩⟩
    have npl := P0.ne nls
    have s1 := same_new (o := .lst [V.ref a]) nls
    refine ⟨_, rfl, P0.same s1, by decide, by decide, fun t H1 t0 t8 P1 k1 => ⟨_, rfl, by omega, by omega, ?_⟩⟩
    have hls1 : H1 ls = some (.lst ([a].map V.ref)) := k1.k _ _ upd_same (by simp [npl.symm] : ls ∉ [p])
    refine for_range (lo := 0) (n := t.toNat) (fun i σ H' => ∃ v5 v6 as Rs, ∃ least : Nat, σ = [some (.ref p), some (.ref a), some (.int (n : Int)), some (.ref ls), some (.int (least : Int)), v5, v6, none, none, none, none, none, none, none, none] ∧ PurAt H' p ∧ Keep [p] H H' ∧ H' ls = some (.lst (as.map V.ref)) ∧ Paired (Dr K H' least) as Rs ∧ 1 ≤ least ∧ least ≤ n ∧ Rs.length = i + 1)
      ⟨_, _, [a], [R], n, rfl, P1, (Keep.same s1).trans k1, hls1, .cons ⟨RowsAt.keepP (P0.same s1) k1 (rw.keep s1), ne, sml, f12, n, wd, Nat.le_refl _⟩ .nil, n1, Nat.le_refl _, rfl⟩ ?_ ?_
    · rintro i σ H2 hi ⟨v5, v6, as, Rs, least, rfl, P2, k2, hls, dr, l1, ln, rl⟩
      have len := paired_len dr
      refine ⟨_, rfl, _, rfl, P2, by omega, by omega, fun d H3 d0 dn P3 k3 => ⟨_, _, rfl, rfl, ?_⟩⟩
      obtain ⟨m, hm⟩ : ∃ m : Nat, 1 + d = (m : Int) := ⟨(1 + d).toNat, by omega⟩
      have hls3 := k3.k _ _ hls (by simp [npl.symm] : ls ∉ [p])
      refine ⟨_, rfl, .inl ⟨rfl, _, SqL.of hls3⟩, _, rfl, P3, by decide, by decide, fun u H4 u0 u9 P4 k4 => ⟨_, rfl, _, rfl, P4, m, hm, by omega, fun a' R' H5 r' w' ne' f' sm' P5 _ k5 => ?_⟩⟩
      have hls5 := k5.k _ _ (k4.k _ _ hls3 (by simp [npl.symm] : ls ∉ [p])) (by simp [npl.symm] : ls ∉ [p])
      refine ⟨ls, _, u, _, rfl, rfl, hls5, by rw [List.length_map, sizeLine_eq]; omega, u0, by omega, ?_⟩
      refine ⟨_, rfl, _, rfl, _, _, rfl, ?_⟩
      have e : (if 1 + d < (least : Int) then 1 + d else (least : Int)) = ((min least m : Nat) : Int) := by split <;> omega
      have dr5 := L2.Paired.mapP dr fun a R z => ((z.keepP P2 k3).keepP P3 k4).keepP P4 k5
      have dr6 : Paired (Dr K (upd H5 ls (.lst ((as.map V.ref).take u.toNat ++ [V.ref a'] ++ (as.map V.ref).drop u.toNat))) (min least m)) as Rs := L2.Paired.mapP dr5 fun a R z => (z.lst hls5).less (by omega)
      refine ⟨_, _, as.take u.toNat ++ [a'] ++ as.drop u.toNat, Rs.take u.toNat ++ [R'] ++ Rs.drop u.toNat, min least m, by rw [← e]; rfl, ?_, ?_, ?_, ?_, by omega, by omega, ?_⟩
      · exact P5.keep (l := [ls]) (Keep.refl.put (by simp)) (by simp [npl])
      · exact (((k2.trans k3).trans k4).trans k5).new nls
      · rw [upd_same, List.map_append, List.map_append, List.map_take, List.map_drop]
        rfl
      · exact paired_app (paired_app (paired_take dr6 _) (.cons ⟨rows_lst hls5 r', ne', sm', f', m, w', by omega⟩ .nil)) (paired_drop dr6 _)
      · rw [List.length_append, List.length_append, List.length_take, List.length_drop]
        simp
        omega
    · rintro σ H2 ⟨v5, v6, as, Rs, least, rfl, P2, k2, hls, dr, l1, ln, rl⟩
      have r8 : Rs.length ≤ 8 := by omega
      have r1 : 1 ≤ Rs.length := by omega
      have len := paired_len dr
      -- by which columns
      refine ⟨_, rfl, _, rfl, P2, by omega, by omega, fun col H3 c0 cl P3 k3 => ?_⟩
      refine ⟨_, rfl, _, rfl, P3, by omega, by omega, fun d H4 d0 dl P4 k4 => ⟨(by show 2 ≤ sizeLine; decide), fun lb nlb => ?_⟩⟩
      have sb := same_new (o := .lst [V.non, V.int d]) nlb
      have hlb : (upd H4 lb (.lst [V.non, V.int d])) lb = some (.lst [V.non, V.int d]) := upd_same
      have P4b := P4.same sb
      have nlbp : lb ≠ p := (P4.ne nlb).symm
      generalize upd H4 lb (.lst [V.non, V.int d]) = H4b at sb hlb P4b ⊢
      refine ⟨_, rfl, P4b, by decide, by decide, fun u H5 u0 u2 P5 k5 => ?_⟩
      have hlb5 := k5.k _ _ hlb (by simp [nlbp] : lb ∉ [p])
      obtain ⟨v, ev, by_, eby, hby⟩ := menu (xs := [V.non, V.int d]) (n := 2) (d := u) (fun v => ∃ by_, v = byV by_ ∧ ∀ b, by_ = some b → b < least) rfl u0 u2 (by
        intro v hv
        simp only [List.mem_cons, List.not_mem_nil, or_false] at hv
        rcases hv with rfl | rfl
        · exact ⟨none, rfl, fun b e => by cases e⟩
        · refine ⟨some d.toNat, ?_, fun b e => by cases e; omega⟩
          show V.int d = V.int ((d.toNat : Nat) : Int)
          rw [nat_of d0])
      subst eby
      refine ⟨lb, _, _, _, rfl, rfl, SqL.of hlb5, ev, ?_⟩
      have k25 : Keep [p] H2 H5 := ((k3.trans k4).trans (.same sb)).trans k5
      have k05 := k2.trans k25
      have hls5 := k25.k _ _ hls (by simp [npl.symm] : ls ∉ [p])
      have dr5 := L2.Paired.mapP dr fun a R z => z.keepP P2 k25
      have hcl : col.toNat < least := by omega
      -- what is due
      refine ⟨_, rfl, _, rfl, _, rfl, as, Rs, col.toNat, by_, (nat_of c0).symm, rfl, SqL.of hls5, drs_smb dr5 hcl hby, r8, fun dG G H6 smG saG nG s6 => ?_⟩
      have nice := drs_nice dr5 r8 hcl hby smG
      refine ⟨_, rfl, ls, _, rfl, .inl (SqL.of (s6 _ _ hls5)), fun lh nlh => ?_⟩
      have s7 := same_new (o := .lst (as.map V.ref)) nlh
      have hlh : (upd H6 lh (.lst (as.map V.ref))) lh = some (.lst (as.map V.ref)) := upd_same
      have saG7 := saG.keep s7
      have s57 := s6.trans s7
      generalize upd H6 lh (.lst (as.map V.ref)) = H7 at s7 hlh saG7 s57 ⊢
      have hls7 := s57 _ _ hls5
      have dr7 := L2.Paired.mapP dr5 fun a R z => z.keep s57
      -- copies
      refine ⟨_, rfl, ls, rfl, ⟨_, SqL.of hls7⟩, fun D nD => ?_⟩
      refine lc_list (K := K) (a := ls) (xs := as.map V.ref) (g := gName 14) (vs := [14]) (fun i H' => Same H7 H' ∧ ∃ bs, H' D = some (.lst (bs.map V.ref)) ∧ Paired (fun a b => ∃ kvs, H7 a = some (.dK kvs) ∧ H' b = some (.dK kvs)) (as.take i) bs)
        ⟨same_new nD, [], upd_same, .nil⟩ (fun i H' _ ⟨s, _⟩ => s.seq (SqL.of hls7)) (fun i x H8 hi ⟨s8, bs, hD8, pb⟩ => ?_) (fun H8 ⟨s8, bs, hD8, pb⟩ => ?_)
      · rw [List.getElem?_map] at hi
        cases ha : as[i]? with
        | none => rw [ha] at hi; cases hi
        | some a' =>
          rw [ha] at hi
          cases hi
          obtain ⟨R', hR', rw', _⟩ := paired_at dr7 ha
          obtain ⟨kvs, hd, _⟩ := rw'.ex
          have il : i < as.length := (List.getElem?_eq_some_iff.mp ha).1
          have bl := paired_len pb
          rw [List.length_take] at bl
          refine ⟨wipe1, _, rfl, a', kvs, rfl, .inl (s8 _ _ hd), fun b nb => ?_⟩
          have sb := same_new (o := .dK kvs) nb
          have nDb : D ≠ b := ne_of_none hD8 nb
          refine ⟨_, sb _ _ hD8, by rw [List.length_map, sizeLine_eq]; omega, U.Same.mut (s8.trans sb) nD, bs ++ [b], by rw [upd_same, List.map_append]; rfl, ?_⟩
          rw [take_snoc ha]
          refine paired_app (L2.Paired.mapP pb fun x y ⟨ks, h1, h2⟩ => ⟨ks, h1, ?_⟩) (.cons ⟨kvs, hd, (upd_ne nDb.symm).trans upd_same⟩ .nil)
          have := sb _ _ h2
          exact (upd_ne (ne_of this (sb _ _ hD8) (by intro z; cases z))).trans this
      rw [List.length_map, List.take_length] at pb
      have s58 := s57.trans s8
      have hlh8 := s8 _ _ hlh
      have dr8 := L2.Paired.mapP dr7 fun a R z => z.keep s8
      have saG8 := saG7.keep s8
      -- twice
      refine ⟨_, rfl, by decide, by decide, for_range (lo := 0) (n := 2) (fun i σ H' => Same H8 H' ∧ ∃ v5 v6 v12 v13, σ = [some (.ref p), some (.ref a), some (.int (n : Int)), some (.ref ls), some (.int (least : Int)), v5, v6, some (.int col), some (byV by_), some (.ref dG), some (.ref lh), some (.ref D), v12, v13, none]) ⟨Same.refl H8, _, _, _, _, rfl⟩ ?_ ?_⟩
      · rintro i σ H9 hi ⟨s9, u5, u6, u12, u13, rfl⟩
        have fin : ∀ (pt : Addr) (G1 : Gs) (Hb Hc : Hp) (E : Ends), Same H9 Hb → Same Hb Hc → Hb pt = none → Sm (ents col.toNat by_ Rs) G1 → SumsZ (fun l => Hb l = none) K Hc pt G1 → (∀ σ' H', (Same H8 H' ∧ ∃ v5 v6 v12 v13, σ' = [some (.ref p), some (.ref a), some (.int (n : Int)), some (.ref ls), some (.int (least : Int)), v5, v6, some (.int col), some (byV by_), some (.ref dG), some (.ref lh), some (.ref D), v12, v13, none]) → E.nx σ' H') →
            (tIfS (tNot (tB (tCl (sp__law_again K) [] ES0 (tCons (tVar 13) (tCons (tVar 9) tNil))))) (tRet (tC (.bl false))) tNext) E [some (.ref p), some (.ref a), some (.int (n : Int)), some (.ref ls), some (.int (least : Int)), u5, u6, some (.int col), some (byV by_), some (.ref dG), some (.ref lh), some (.ref D), some (.int (0 + (i : Int))), some (.ref pt), none] Hc := fun pt G1 Hb Hc E sb sc npt sm1 sa1 hE =>
          ⟨_, rfl, _, rfl, Hb, G1.map gI, G.map gI, sc, npt, .inr ⟨G1, sa1, rfl⟩, sums_shw (saG8.keep ((s9.trans sb).trans sc)), (sm1.perm (.refl _) smG).map _, nice, fun H' s' => ⟨true, rfl, iteF (hE _ _ ⟨(s9.trans sb).trans s', _, _, _, _, rfl⟩)⟩⟩
        refine ⟨_, rfl, _, rfl, _, rfl, as, Rs, col.toNat, by_, (nat_of c0).symm, rfl, SqL.of (s9 _ _ hlh8), drs_smb (L2.Paired.mapP dr8 fun a R z => z.keep s9) hcl hby, r1, r8, fun pt G1 H10 sm1 sa1 npt s10 => ?_⟩
        refine ⟨_, rfl, rfl, _, rfl, ?_⟩
        cases by_ with
        | some b => exact iteF (iteF (fin pt G1 H9 H10 _ (Same.refl H9) s10 npt sm1 sa1 fun _ _ z => z))
        | none =>
          refine iteT ⟨_, rfl, rfl, _, rfl, ?_⟩
          by_cases c : (0 + (i : Int)) = 1
          · rw [decide_eq_true (by rw [c])]
            refine iteT ⟨_, rfl, _, rfl, as, Rs, col.toNat, none, (nat_of c0).symm, rfl, SqL.of (s10 _ _ (s9 _ _ hlh8)), drs_smb (L2.Paired.mapP dr8 fun a R z => z.keep (s9.trans s10)) hcl hby, r1, r8, fun pt2 G2 H11 sm2 sa2 npt2 s11 => ?_⟩
            exact fin pt2 G2 H10 H11 _ s10 s11 npt2 sm2 sa2 fun _ _ z => z
          · rw [decide_eq_false fun e => c (V.int.inj e)]
            exact iteF (fin pt G1 H9 H10 _ (Same.refl H9) s10 npt sm1 sa1 fun _ _ z => z)
      · rintro σ H9 ⟨s9, u5, u6, u12, u13, rfl⟩
        have s79 := s8.trans s9
        refine ⟨_, rfl, _, rfl, 1, by decide, .inl ⟨lh, ls, _, _, rfl, rfl, SqL.of (s9 _ _ hlh8), SqL.of (s79 _ _ hls7), paired_self fun a => .inr (.inl ⟨a, rfl, rfl⟩)⟩, true, rfl, iteT ?_⟩
        have s59 := s57.trans s79
        have both : ∀ {as : List Addr} {Rs : List Rw} {bs : List Addr}, Paired (Dr K H7 least) as Rs → Paired (fun a b => ∃ kvs, H7 a = some (.dK kvs) ∧ H8 b = some (.dK kvs)) as bs → Paired (EqV K H9 2) (as.map V.ref) (bs.map V.ref) := fun {as Rs bs} h1 h2 => by
          induction h1 generalizing bs with
          | nil =>
            cases h2
            exact .nil
          | cons hd _ ih =>
            cases h2 with
            | cons h t =>
              obtain ⟨kvs, e1, e2⟩ := h
              obtain ⟨kv, e3, pr⟩ := hd.1.ex
              rw [e1] at e3
              cases e3
              exact .cons (eq_copy (n := 0) (s79 _ _ e1) (s9 _ _ e2) (paired_vals pr hd.1.ok.nd)) (ih t)
        refine ⟨_, rfl, _, rfl, 2, by decide, .inl ⟨ls, D, _, _, rfl, rfl, SqL.of (s79 _ _ hls7), SqL.of (s9 _ _ hD8), both dr7 pb⟩, ?_⟩
        exact q _ (P5.same s59) (k05.trans (.same s59))
  · exact h.elim
end G21

set_option Elab.async false
set_option linter.all false
set_option maxRecDepth 100000
set_option maxHeartbeats 4000000
/-! k21: the law. -/
namespace G21
open PySem PySem.Spec PyProof.Rows L2 U G
variable {K : PySem.W.Frag}
theorem copy_rows {H : Hp} {a b : Addr} {R : Rw} {kvs : List (Key × V)} (r : RowsAt K H a R) (ha : H a = some (.dK kvs)) (hb : H b = some (.dK kvs)) : RowsAt K H b R := by
  obtain ⟨ks, e, p⟩ := r.ex
  rw [ha] at e
  cases e
  exact ⟨⟨kvs, hb, p⟩, r.ok⟩
theorem rows_dcQ {H : Hp} {a : Addr} {R : Rw} (h : RowsAt K H a R) : DcAt K H a (G23.dR R) := by
  obtain ⟨kvs, e, p⟩ := h.ex
  have go : ∀ {kvs : List (Key × V)} {R : Rw}, Paired (rowEnt K H) kvs R → Paired (fun (kv : Key × V) (kd : Key × PyData) => kv.1 = kd.1 ∧ Dp K H kv.2 kd.2) kvs (G23.dR R) := fun {kvs R} p => by
    induction p with
    | nil => exact .nil
    | cons hd _ ih =>
      obtain ⟨e1, t, e2, ht⟩ := hd
      exact .cons ⟨e1, by rw [e2]; exact .tup ht (dpAll_ints _)⟩ ih
  exact ⟨kvs, e, go p⟩
theorem pure_law (vs : List V) (H : Hp) (Q : VK) (E : XK) (h : sp_law K vs H Q E) : t_law K { nx := fun _ H' => Q .non H', rt := Q } (start N_law vs) H := by
  unfold sp_law at h
  split at h
  · rename_i a
    obtain ⟨ns, hS, hlen, q⟩ := h
    refine ⟨_, rfl, a, _, rfl, .inl hS, _, _, rfl, _, _, rfl, _, rfl, by split <;> split <;> omega, by split <;> split <;> omega, ?_⟩
    refine for_range (lo := 0) (fun i σ H' => ∃ v1 v2 v3 v4 v5, σ = [some (.ref a), v1, v2, v3, v4, v5] ∧ Same H H') ⟨_, _, _, _, _, rfl, Same.refl H⟩ ?_ ?_
    · rintro i σ H0 hi ⟨v1, v2, v3, v4, v5, rfl, s0⟩
      refine ⟨_, rfl, _, rfl, by omega, ns, s0.seq hS, fun c p H1 np P1 s1 => ?_⟩
      refine ⟨(by show 6 ≤ sizeLine; decide), fun lm nlm => ?_⟩
      have sm := same_new (o := .lst [V.int 1, V.int 2, V.int 3, V.int 4, V.int 6, V.int 11]) nlm
      have hlm : (upd H1 lm (.lst [V.int 1, V.int 2, V.int 3, V.int 4, V.int 6, V.int 11])) lm = _ := upd_same
      have P1m := P1.same sm
      have nlp : lm ≠ p := (P1.ne nlm).symm
      have s1m := s1.trans sm
      generalize upd H1 lm (.lst [V.int 1, V.int 2, V.int 3, V.int 4, V.int 6, V.int 11]) = H1m at sm hlm P1m s1m ⊢
      refine ⟨_, rfl, P1m, by decide, by decide, fun u H2 u0 u6 P2 k2 => ?_⟩
      have hlm2 := k2.k _ _ hlm (by simp [nlp] : lm ∉ [p])
      obtain ⟨v, ev, n, rfl, n1, n11⟩ := menu (xs := [V.int 1, V.int 2, V.int 3, V.int 4, V.int 6, V.int 11]) (n := 6) (d := u) (fun v => ∃ n : Nat, v = V.int (n : Int) ∧ 1 ≤ n ∧ n ≤ 11) rfl u0 u6 (by
        intro v hv
        simp only [List.mem_cons, List.not_mem_nil, or_false] at hv
        rcases hv with rfl | rfl | rfl | rfl | rfl | rfl
        · exact ⟨1, rfl, by decide, by decide⟩
        · exact ⟨2, rfl, by decide, by decide⟩
        · exact ⟨3, rfl, by decide, by decide⟩
        · exact ⟨4, rfl, by decide, by decide⟩
        · exact ⟨6, rfl, by decide, by decide⟩
        · exact ⟨11, rfl, by decide, by decide⟩)
      refine ⟨lm, _, _, _, rfl, rfl, SqL.of hlm2, ev, ?_⟩
      have k02 : Keep [p] H0 H2 := (Keep.same s1m).trans k2
      refine ⟨_, rfl, _, rfl, P2, n, rfl, by omega, fun r R H3 rR wR neR fR smR P3 _ k3 => ?_⟩
      obtain ⟨kvs, hd, pr⟩ := rR.ex
      refine ⟨_, rfl, r, kvs, rfl, .inl hd, fun b nb => ?_⟩
      have sb := same_new (o := .dK kvs) nb
      have rR4 := rR.keep sb
      have rB4 : RowsAt K (upd H3 b (.dK kvs)) b R := copy_rows rR4 (sb _ _ hd) upd_same
      have P4 := P3.same sb
      have k04 : Keep [p] H0 (upd H3 b (.dK kvs)) := (k02.trans k3).trans (.same sb)
      generalize upd H3 b (.dK kvs) = H4 at sb rR4 rB4 P4 k04 ⊢
      -- behind the first cut
      have rest : ∀ (D : Ends) (H5 : Hp), PurAt H5 p → Keep [p] H4 H5 → (∀ H', Same H0 H' → D.nx [some (.ref a), some (.int (0 + (i : Int))), some (.ref p), some (.int (n : Int)), some (.ref r), some (.ref b)] H') →
          (tSeq (tIfS (tOr (tNot (tB (tCl (sp__law_cut_well K) [] ES0 (tCons (tVar 2) (tCons (tVar 4) (tCons (tVar 3) tNil)))))) (tNot (tB (tCl (sp__law_joined_well K) [] ES0 (tCons (tVar 2) (tCons (tVar 4) (tCons (tVar 3) tNil))))))) (tRet (tC (.bl false))) tNext)
  (tIfS (tOr (tNot (tB (tCl (sp__law_summed_well K) [] ES0 (tCons (tVar 2) (tCons (tVar 4) (tCons (tVar 3) tNil)))))) (tTest (tOp (rNeC K) (tVar 4) (tVar 5)))) (tRet (tC (.bl false))) tNext)) D [some (.ref a), some (.int (0 + (i : Int))), some (.ref p), some (.int (n : Int)), some (.ref r), some (.ref b)] H5 := fun D H5 P5 k5 hD => by
        refine ⟨_, rfl, _, rfl, _, rfl, R, n, rfl, P5, RowsAt.keepP P4 k5 rR4, wR, neR, n1, by omega, smR, fR, fun H6 P6 k6 => ⟨true, rfl, iteF ?_⟩⟩
        refine ⟨_, rfl, _, rfl, _, rfl, R, n, rfl, P6, RowsAt.keepP P5 k6 (RowsAt.keepP P4 k5 rR4), wR, neR, n1, by omega, smR, fR, fun H7 P7 k7 => ⟨true, rfl, iteF ?_⟩⟩
        refine ⟨_, rfl, _, rfl, _, rfl, R, n, rfl, P7, RowsAt.keepP P6 k7 (RowsAt.keepP P5 k6 (RowsAt.keepP P4 k5 rR4)), wR, neR, n1, by omega, smR, fR, fun H8 P8 k8 => ⟨true, rfl, iteF ?_⟩⟩
        have k48 := ((k5.trans k6).trans k7).trans k8
        refine ⟨_, rfl, _, rfl, _, _, _, _, rfl, rfl, rows_dcQ (RowsAt.keepP P4 k48 rR4), rows_dcQ (RowsAt.keepP P4 k48 rB4), G23.dR_sh R, G23.dR_sh R, _, rfl, ?_⟩
        rw [G23.rows_eq (.refl R) rR.ok]
        exact iteF (hD _ ((k04.trans k48).drop (Same.refl H0) np))
      have done : ∀ H', Same H0 H' → ∃ v1 v2 v3 v4 v5, ([some (.ref a), some (.int (0 + (i : Int))), some (.ref p), some (.int (n : Int)), some (.ref r), some (.ref b)] : L2.St) = [some (.ref a), v1, v2, v3, v4, v5] ∧ Same H H' := fun H' s => ⟨_, _, _, _, _, rfl, s0.trans s⟩
      refine ⟨_, rfl, _, _, rfl, rfl, (by show (0 : Int) < 3; decide), rfl, _, rfl, ?_⟩
      by_cases c3 : (0 + (i : Int)) % 3 = 2
      · rw [decide_eq_true (show V.int ((0 + (i : Int)) % 3) = V.int 2 by rw [c3])]
        refine iteT ⟨_, rfl, _, rfl, P4, 12, rfl, by decide, fun r2 R2 H5 rR2 w2 ne2 f2 sm2 P5 _ k5 => ?_⟩
        refine ⟨R2, 12, rfl, P5, rR2, w2, ne2, by decide, by decide, sm2, f2, fun H6 P6 k6 => ⟨true, rfl, iteF ?_⟩⟩
        exact rest _ H6 P6 (k5.trans k6) done
      · rw [decide_eq_false (show ¬ V.int ((0 + (i : Int)) % 3) = V.int 2 from fun e => c3 (V.int.inj e))]
        exact iteF (iteF (rest _ H4 P4 Keep.refl done))
    · rintro σ H' ⟨v1, v2, v3, v4, v5, rfl, s0⟩
      exact q _
  · exact h.elim
theorem law_asks (K : PySem.W.Frag) (_ : True) (H : Hp) (a : Addr) (ns : List Int) (hl : ns.length ≤ 63) (hO : Only H) (hS : SqL K H a (ns.map V.int)) : sp_law K [.ref a] H (fun v _ => v = .bl true) (fun _ _ _ => False) := ⟨ns, hS, hl, fun _ => rfl⟩
end G21

set_option Elab.async false
set_option linter.all false
set_option maxRecDepth 100000
set_option maxHeartbeats 4000000

namespace G21
open PySem PySem.Spec PyProof.Rows L2 U G
def top (i : Nat) : Stmt := PySem.Challenge.pw_forgethall_k21_ways.main.body.getD i (.Pass ⟨0, 0, 0, 0⟩)
abbrev s__law_at : Stmt := top 15
abbrev M__law_at : List Str := ["_law_script", "_law_k"]
theorem sc__law_at : FnScope M__law_at ["_law_script", "_law_k"] (defScope s__law_at) := ⟨rfl, rfl, rfl, by decide +kernel, rfl, by decide +kernel, by decide +kernel⟩
abbrev s__law_shown : Stmt := top 20
abbrev M__law_shown : List Str := ["_law_told"]
theorem sc__law_shown : FnScope M__law_shown ["_law_told"] (defScope s__law_shown) := ⟨rfl, rfl, rfl, by decide +kernel, rfl, by decide +kernel, by decide +kernel⟩
abbrev s__law_again : Stmt := top 22
abbrev M__law_again : List Str := ["_law_told", "_law_due", "_law_found"]
theorem sc__law_again : FnScope M__law_again ["_law_told", "_law_due"] (defScope s__law_again) := ⟨rfl, rfl, rfl, by decide +kernel, rfl, by decide +kernel, by decide +kernel⟩
abbrev s__law_take : Stmt := top 17
abbrev M__law_take : List Str := ["_law_purse_here", "_law_many", "_law_number_here"]
theorem sc__law_take : FnScope M__law_take ["_law_purse_here", "_law_many"] (defScope s__law_take) := ⟨rfl, rfl, rfl, by decide +kernel, rfl, by decide +kernel, by decide +kernel⟩
abbrev s_need : Stmt := top 6
abbrev M_need : List Str := ["truth"]
theorem sc_need : FnScope M_need ["truth"] (defScope s_need) := ⟨rfl, rfl, rfl, by decide +kernel, rfl, by decide +kernel, by decide +kernel⟩
abbrev s_copied : Stmt := top 9
abbrev M_copied : List Str := ["rows", "found", "person"]
theorem sc_copied : FnScope M_copied ["rows"] (defScope s_copied) := ⟨rfl, rfl, rfl, by decide +kernel, rfl, by decide +kernel, by decide +kernel⟩
abbrev s_is_column : Stmt := top 7
abbrev M_is_column : List Str := ["thing", "width"]
theorem sc_is_column : FnScope M_is_column ["thing", "width"] (defScope s_is_column) := ⟨rfl, rfl, rfl, by decide +kernel, rfl, by decide +kernel, by decide +kernel⟩
abbrev s_width_of : Stmt := top 8
abbrev M_width_of : List Str := ["rows", "row"]
theorem sc_width_of : FnScope M_width_of ["rows"] (defScope s_width_of) := ⟨rfl, rfl, rfl, by decide +kernel, rfl, by decide +kernel, by decide +kernel⟩
abbrev s_cut : Stmt := top 10
abbrev M_cut : List Str := ["rows", "columns", "width", "found", "person", "column"]
theorem sc_cut : FnScope M_cut ["rows", "columns"] (defScope s_cut) := ⟨rfl, rfl, rfl, by decide +kernel, rfl, by decide +kernel, by decide +kernel⟩
abbrev s__law_cut_well : Stmt := top 23
abbrev M__law_cut_well : List Str := ["_law_purse_here", "_law_rows_here", "_law_width", "_law_columns", "_law_due", "_law_person", "_law_row", "_law_handed", "_law_turn", "_law_k", "_law_column"]
theorem sc__law_cut_well : FnScope M__law_cut_well ["_law_purse_here", "_law_rows_here", "_law_width"] (defScope s__law_cut_well) := ⟨rfl, rfl, rfl, by decide +kernel, rfl, by decide +kernel, by decide +kernel⟩
abbrev s__law_number : Stmt := top 18
abbrev M__law_number : List Str := ["_law_purse_here", "_law_way"]
theorem sc__law_number : FnScope M__law_number ["_law_purse_here"] (defScope s__law_number) := ⟨rfl, rfl, rfl, by decide +kernel, rfl, by decide +kernel, by decide +kernel⟩
abbrev s__law_rows : Stmt := top 19
abbrev M__law_rows : List Str := ["_law_purse_here", "_law_width", "_law_rows_here", "_law_k", "_law_person", "_law_j"]
theorem sc__law_rows : FnScope M__law_rows ["_law_purse_here", "_law_width"] (defScope s__law_rows) := ⟨rfl, rfl, rfl, by decide +kernel, rfl, by decide +kernel, by decide +kernel⟩
abbrev s_joined : Stmt := top 11
abbrev M_joined : List Str := ["one", "other", "found", "person"]
theorem sc_joined : FnScope M_joined ["one", "other"] (defScope s_joined) := ⟨rfl, rfl, rfl, by decide +kernel, rfl, by decide +kernel, by decide +kernel⟩
abbrev s__law_joined_well : Stmt := top 24
abbrev M__law_joined_well : List Str := ["_law_purse_here", "_law_rows_here", "_law_width", "_law_other", "_law_due", "_law_person", "_law_row", "_law_kept", "_law_turn"]
theorem sc__law_joined_well : FnScope M__law_joined_well ["_law_purse_here", "_law_rows_here", "_law_width"] (defScope s__law_joined_well) := ⟨rfl, rfl, rfl, by decide +kernel, rfl, by decide +kernel, by decide +kernel⟩
abbrev s__law_purse : Stmt := top 16
abbrev M__law_purse : List Str := ["_law_cell"]
theorem sc__law_purse : FnScope M__law_purse ["_law_cell"] (defScope s__law_purse) := ⟨rfl, rfl, rfl, by decide +kernel, rfl, by decide +kernel, by decide +kernel⟩
abbrev s__law_summed : Stmt := top 21
abbrev M__law_summed : List Str := ["_law_some", "_law_column", "_law_by", "_law_people", "_law_numbers", "_law_rows_here", "_law_person", "_law_row", "_law_key", "_law_due"]
theorem sc__law_summed : FnScope M__law_summed ["_law_some", "_law_column", "_law_by"] (defScope s__law_summed) := ⟨rfl, rfl, rfl, by decide +kernel, rfl, by decide +kernel, by decide +kernel⟩
abbrev s_key_of : Stmt := top 12
abbrev M_key_of : List Str := ["row", "by"]
theorem sc_key_of : FnScope M_key_of ["row", "by"] (defScope s_key_of) := ⟨rfl, rfl, rfl, by decide +kernel, rfl, by decide +kernel, by decide +kernel⟩
abbrev s_summed : Stmt := top 13
abbrev M_summed : List Str := ["some", "column", "by", "rows", "found", "person", "key", "people", "number"]
theorem sc_summed : FnScope M_summed ["some", "column", "by"] (defScope s_summed) := ⟨rfl, rfl, rfl, by decide +kernel, rfl, by decide +kernel, by decide +kernel⟩
abbrev s__law_summed_well : Stmt := top 25
abbrev M__law_summed_well : List Str := ["_law_purse_here", "_law_rows_here", "_law_width", "_law_some", "_law_least", "_law_k", "_law_wide", "_law_column", "_law_by", "_law_due", "_law_handed", "_law_kept", "_law_turn", "_law_told", "_law_one"]
theorem sc__law_summed_well : FnScope M__law_summed_well ["_law_purse_here", "_law_rows_here", "_law_width"] (defScope s__law_summed_well) := ⟨rfl, rfl, rfl, by decide +kernel, rfl, by decide +kernel, by decide +kernel⟩
abbrev s_law : Stmt := top 26
abbrev M_law : List Str := ["_law_script", "_law_k", "_law_purse_here", "_law_width", "_law_rows_here", "_law_kept"]
theorem sc_law : FnScope M_law ["_law_script"] (defScope s_law) := ⟨rfl, rfl, rfl, by decide +kernel, rfl, by decide +kernel, by decide +kernel⟩
def df__law_at : He.DefD := ⟨("_law_at", none), "_law_at", "_law_at", defArgs s__law_at, defBody s__law_at, defScope s__law_at, [], []⟩
def df__law_shown : He.DefD := ⟨("_law_shown", none), "_law_shown", "_law_shown", defArgs s__law_shown, defBody s__law_shown, defScope s__law_shown, [], []⟩
def df__law_again : He.DefD := ⟨("_law_again", none), "_law_again", "_law_again", defArgs s__law_again, defBody s__law_again, defScope s__law_again, [], []⟩
def df__law_take : He.DefD := ⟨("_law_take", none), "_law_take", "_law_take", defArgs s__law_take, defBody s__law_take, defScope s__law_take, [], []⟩
def df_need : He.DefD := ⟨("need", none), "need", "need", defArgs s_need, defBody s_need, defScope s_need, [], []⟩
def df_copied : He.DefD := ⟨("copied", none), "copied", "copied", defArgs s_copied, defBody s_copied, defScope s_copied, [], []⟩
def df_is_column : He.DefD := ⟨("is_column", none), "is_column", "is_column", defArgs s_is_column, defBody s_is_column, defScope s_is_column, [], []⟩
def df_width_of : He.DefD := ⟨("width_of", none), "width_of", "width_of", defArgs s_width_of, defBody s_width_of, defScope s_width_of, [], []⟩
def df_cut : He.DefD := ⟨("cut", none), "cut", "cut", defArgs s_cut, defBody s_cut, defScope s_cut, [], []⟩
def df__law_cut_well : He.DefD := ⟨("_law_cut_well", none), "_law_cut_well", "_law_cut_well", defArgs s__law_cut_well, defBody s__law_cut_well, defScope s__law_cut_well, [], []⟩
def df__law_number : He.DefD := ⟨("_law_number", none), "_law_number", "_law_number", defArgs s__law_number, defBody s__law_number, defScope s__law_number, [], []⟩
def df__law_rows : He.DefD := ⟨("_law_rows", none), "_law_rows", "_law_rows", defArgs s__law_rows, defBody s__law_rows, defScope s__law_rows, [], []⟩
def df_joined : He.DefD := ⟨("joined", none), "joined", "joined", defArgs s_joined, defBody s_joined, defScope s_joined, [], []⟩
def df__law_joined_well : He.DefD := ⟨("_law_joined_well", none), "_law_joined_well", "_law_joined_well", defArgs s__law_joined_well, defBody s__law_joined_well, defScope s__law_joined_well, [], []⟩
def df__law_purse : He.DefD := ⟨("_law_purse", none), "_law_purse", "_law_purse", defArgs s__law_purse, defBody s__law_purse, defScope s__law_purse, [], []⟩
def df__law_summed : He.DefD := ⟨("_law_summed", none), "_law_summed", "_law_summed", defArgs s__law_summed, defBody s__law_summed, defScope s__law_summed, [], []⟩
def df_key_of : He.DefD := ⟨("key_of", none), "key_of", "key_of", defArgs s_key_of, defBody s_key_of, defScope s_key_of, [], []⟩
def df_summed : He.DefD := ⟨("summed", none), "summed", "summed", defArgs s_summed, defBody s_summed, defScope s_summed, [.non], []⟩
def df__law_summed_well : He.DefD := ⟨("_law_summed_well", none), "_law_summed_well", "_law_summed_well", defArgs s__law_summed_well, defBody s__law_summed_well, defScope s__law_summed_well, [], []⟩
def df_law : He.DefD := ⟨("law", none), "law", "law", defArgs s_law, defBody s_law, defScope s_law, [], []⟩
def fa : List He.Fa := [.free "len", .free "min", .free "max", .free "range", .free "dict", .free "tuple", .free "list", .free "isinstance", .free "sorted", .free "repr", .glo "NoWay", .exc "NoWay", .int "MOST_COLUMNS" 12, .free "all", .free "int", .free "bool", .free "abs", .free "set", .int "MOST_SUMMED" 8, .glo "_law_at", .glo "_law_shown", .glo "_law_again", .glo "_law_take", .glo "need", .glo "copied", .glo "is_column", .glo "width_of", .glo "cut", .glo "_law_cut_well", .glo "_law_number", .glo "_law_rows", .glo "joined", .glo "_law_joined_well", .glo "_law_purse", .glo "_law_summed", .glo "key_of", .glo "summed", .glo "_law_summed_well", .glo "law"]
def fn : List He.DefD := [df__law_at, df__law_shown, df__law_again, df__law_take, df_need, df_copied, df_is_column, df_width_of, df_cut, df__law_cut_well, df__law_number, df__law_rows, df_joined, df__law_joined_well, df__law_purse, df__law_summed, df_key_of, df_summed, df__law_summed_well, df_law]
def ex : PySem.W.Frag → Bool := fun _ => true
structure Txt (w : World) (K : PySem.W.Frag) (mg : Str → Option Value) : Prop where
  ex : ∃ h : Heap, K.In h ∧ h.Ns mainGlobals mg ∧ He.SaysX fa fn [] [] ex w h K
section
variable {P : Program} {w : World} {K : PySem.W.Frag} {mg : Str → Option Value} {base : Heap}
theorem Txt.b_len (T : Txt w K mg) : mg "len" = none := by
  obtain ⟨h, X, G, c⟩ := T.ex
  exact He.free_ok X G (c.t.d.fact 0 (f := .free "len") rfl)
theorem Txt.b_min (T : Txt w K mg) : mg "min" = none := by
  obtain ⟨h, X, G, c⟩ := T.ex
  exact He.free_ok X G (c.t.d.fact 1 (f := .free "min") rfl)
theorem Txt.b_max (T : Txt w K mg) : mg "max" = none := by
  obtain ⟨h, X, G, c⟩ := T.ex
  exact He.free_ok X G (c.t.d.fact 2 (f := .free "max") rfl)
theorem Txt.b_range (T : Txt w K mg) : mg "range" = none := by
  obtain ⟨h, X, G, c⟩ := T.ex
  exact He.free_ok X G (c.t.d.fact 3 (f := .free "range") rfl)
theorem Txt.b_dict (T : Txt w K mg) : mg "dict" = none := by
  obtain ⟨h, X, G, c⟩ := T.ex
  exact He.free_ok X G (c.t.d.fact 4 (f := .free "dict") rfl)
theorem Txt.b_tuple (T : Txt w K mg) : mg "tuple" = none := by
  obtain ⟨h, X, G, c⟩ := T.ex
  exact He.free_ok X G (c.t.d.fact 5 (f := .free "tuple") rfl)
theorem Txt.b_list (T : Txt w K mg) : mg "list" = none := by
  obtain ⟨h, X, G, c⟩ := T.ex
  exact He.free_ok X G (c.t.d.fact 6 (f := .free "list") rfl)
theorem Txt.b_isinstance (T : Txt w K mg) : mg "isinstance" = none := by
  obtain ⟨h, X, G, c⟩ := T.ex
  exact He.free_ok X G (c.t.d.fact 7 (f := .free "isinstance") rfl)
theorem Txt.b_sorted (T : Txt w K mg) : mg "sorted" = none := by
  obtain ⟨h, X, G, c⟩ := T.ex
  exact He.free_ok X G (c.t.d.fact 8 (f := .free "sorted") rfl)
theorem Txt.b_repr (T : Txt w K mg) : mg "repr" = none := by
  obtain ⟨h, X, G, c⟩ := T.ex
  exact He.free_ok X G (c.t.d.fact 9 (f := .free "repr") rfl)
theorem Txt.g_NoWay (T : Txt w K mg) : mg "NoWay" = some (.ref (He.ga K "NoWay")) := by
  obtain ⟨h, X, G, c⟩ := T.ex
  exact He.glo_ok X G (c.t.d.fact 10 (f := .glo "NoWay") rfl)
theorem Txt.e_NoWay (T : Txt w K mg) : ErrC K (He.ga K "NoWay") := by
  obtain ⟨h, X, G, c⟩ := T.ex
  exact (fun z => ⟨z.1, z.2.1, z.2.2.1, z.2.2.2⟩ : _ → ErrC K (He.ga K "NoWay")) (He.exc_ok (c.t.d.fact 11 (f := .exc "NoWay") rfl))
theorem Txt.v_MOST_COLUMNS (T : Txt w K mg) : ∃ t, mg "MOST_COLUMNS" = some (.int 12 t) := by
  obtain ⟨h, X, G, c⟩ := T.ex
  exact He.int_ok X G (c.t.d.fact 12 (f := .int "MOST_COLUMNS" 12) rfl)
theorem Txt.b_all (T : Txt w K mg) : mg "all" = none := by
  obtain ⟨h, X, G, c⟩ := T.ex
  exact He.free_ok X G (c.t.d.fact 13 (f := .free "all") rfl)
theorem Txt.b_int (T : Txt w K mg) : mg "int" = none := by
  obtain ⟨h, X, G, c⟩ := T.ex
  exact He.free_ok X G (c.t.d.fact 14 (f := .free "int") rfl)
theorem Txt.b_bool (T : Txt w K mg) : mg "bool" = none := by
  obtain ⟨h, X, G, c⟩ := T.ex
  exact He.free_ok X G (c.t.d.fact 15 (f := .free "bool") rfl)
theorem Txt.b_abs (T : Txt w K mg) : mg "abs" = none := by
  obtain ⟨h, X, G, c⟩ := T.ex
  exact He.free_ok X G (c.t.d.fact 16 (f := .free "abs") rfl)
theorem Txt.b_set (T : Txt w K mg) : mg "set" = none := by
  obtain ⟨h, X, G, c⟩ := T.ex
  exact He.free_ok X G (c.t.d.fact 17 (f := .free "set") rfl)
theorem Txt.v_MOST_SUMMED (T : Txt w K mg) : ∃ t, mg "MOST_SUMMED" = some (.int 8 t) := by
  obtain ⟨h, X, G, c⟩ := T.ex
  exact He.int_ok X G (c.t.d.fact 18 (f := .int "MOST_SUMMED" 8) rfl)
theorem Txt.g__law_at (T : Txt w K mg) : mg "_law_at" = some (.ref (He.ga K "_law_at")) := by
  obtain ⟨h, X, G, c⟩ := T.ex
  exact He.glo_ok X G (c.t.d.fact 19 (f := .glo "_law_at") rfl)
theorem Txt.g__law_shown (T : Txt w K mg) : mg "_law_shown" = some (.ref (He.ga K "_law_shown")) := by
  obtain ⟨h, X, G, c⟩ := T.ex
  exact He.glo_ok X G (c.t.d.fact 20 (f := .glo "_law_shown") rfl)
theorem Txt.g__law_again (T : Txt w K mg) : mg "_law_again" = some (.ref (He.ga K "_law_again")) := by
  obtain ⟨h, X, G, c⟩ := T.ex
  exact He.glo_ok X G (c.t.d.fact 21 (f := .glo "_law_again") rfl)
theorem Txt.g__law_take (T : Txt w K mg) : mg "_law_take" = some (.ref (He.ga K "_law_take")) := by
  obtain ⟨h, X, G, c⟩ := T.ex
  exact He.glo_ok X G (c.t.d.fact 22 (f := .glo "_law_take") rfl)
theorem Txt.g_need (T : Txt w K mg) : mg "need" = some (.ref (He.ga K "need")) := by
  obtain ⟨h, X, G, c⟩ := T.ex
  exact He.glo_ok X G (c.t.d.fact 23 (f := .glo "need") rfl)
theorem Txt.g_copied (T : Txt w K mg) : mg "copied" = some (.ref (He.ga K "copied")) := by
  obtain ⟨h, X, G, c⟩ := T.ex
  exact He.glo_ok X G (c.t.d.fact 24 (f := .glo "copied") rfl)
theorem Txt.g_is_column (T : Txt w K mg) : mg "is_column" = some (.ref (He.ga K "is_column")) := by
  obtain ⟨h, X, G, c⟩ := T.ex
  exact He.glo_ok X G (c.t.d.fact 25 (f := .glo "is_column") rfl)
theorem Txt.g_width_of (T : Txt w K mg) : mg "width_of" = some (.ref (He.ga K "width_of")) := by
  obtain ⟨h, X, G, c⟩ := T.ex
  exact He.glo_ok X G (c.t.d.fact 26 (f := .glo "width_of") rfl)
theorem Txt.g_cut (T : Txt w K mg) : mg "cut" = some (.ref (He.ga K "cut")) := by
  obtain ⟨h, X, G, c⟩ := T.ex
  exact He.glo_ok X G (c.t.d.fact 27 (f := .glo "cut") rfl)
theorem Txt.g__law_cut_well (T : Txt w K mg) : mg "_law_cut_well" = some (.ref (He.ga K "_law_cut_well")) := by
  obtain ⟨h, X, G, c⟩ := T.ex
  exact He.glo_ok X G (c.t.d.fact 28 (f := .glo "_law_cut_well") rfl)
theorem Txt.g__law_number (T : Txt w K mg) : mg "_law_number" = some (.ref (He.ga K "_law_number")) := by
  obtain ⟨h, X, G, c⟩ := T.ex
  exact He.glo_ok X G (c.t.d.fact 29 (f := .glo "_law_number") rfl)
theorem Txt.g__law_rows (T : Txt w K mg) : mg "_law_rows" = some (.ref (He.ga K "_law_rows")) := by
  obtain ⟨h, X, G, c⟩ := T.ex
  exact He.glo_ok X G (c.t.d.fact 30 (f := .glo "_law_rows") rfl)
theorem Txt.g_joined (T : Txt w K mg) : mg "joined" = some (.ref (He.ga K "joined")) := by
  obtain ⟨h, X, G, c⟩ := T.ex
  exact He.glo_ok X G (c.t.d.fact 31 (f := .glo "joined") rfl)
theorem Txt.g__law_joined_well (T : Txt w K mg) : mg "_law_joined_well" = some (.ref (He.ga K "_law_joined_well")) := by
  obtain ⟨h, X, G, c⟩ := T.ex
  exact He.glo_ok X G (c.t.d.fact 32 (f := .glo "_law_joined_well") rfl)
theorem Txt.g__law_purse (T : Txt w K mg) : mg "_law_purse" = some (.ref (He.ga K "_law_purse")) := by
  obtain ⟨h, X, G, c⟩ := T.ex
  exact He.glo_ok X G (c.t.d.fact 33 (f := .glo "_law_purse") rfl)
theorem Txt.g__law_summed (T : Txt w K mg) : mg "_law_summed" = some (.ref (He.ga K "_law_summed")) := by
  obtain ⟨h, X, G, c⟩ := T.ex
  exact He.glo_ok X G (c.t.d.fact 34 (f := .glo "_law_summed") rfl)
theorem Txt.g_key_of (T : Txt w K mg) : mg "key_of" = some (.ref (He.ga K "key_of")) := by
  obtain ⟨h, X, G, c⟩ := T.ex
  exact He.glo_ok X G (c.t.d.fact 35 (f := .glo "key_of") rfl)
theorem Txt.g_summed (T : Txt w K mg) : mg "summed" = some (.ref (He.ga K "summed")) := by
  obtain ⟨h, X, G, c⟩ := T.ex
  exact He.glo_ok X G (c.t.d.fact 36 (f := .glo "summed") rfl)
theorem Txt.g__law_summed_well (T : Txt w K mg) : mg "_law_summed_well" = some (.ref (He.ga K "_law_summed_well")) := by
  obtain ⟨h, X, G, c⟩ := T.ex
  exact He.glo_ok X G (c.t.d.fact 37 (f := .glo "_law_summed_well") rfl)
theorem Txt.g_law (T : Txt w K mg) : mg "law" = some (.ref (He.ga K "law")) := by
  obtain ⟨h, X, G, c⟩ := T.ex
  exact He.glo_ok X G (c.t.d.fact 38 (f := .glo "law") rfl)
theorem Txt.dd__law_at (T : Txt w K mg) : ∃ fd, FunD K "_law_at" "_law_at" (defArgs s__law_at) (defBody s__law_at) (defScope s__law_at) [] [] (He.fAd K ("_law_at", none)) fd := by
  obtain ⟨h, X, G, c⟩ := T.ex
  exact c.t.d.def_ 0 (d := df__law_at) rfl
theorem Txt.dd__law_shown (T : Txt w K mg) : ∃ fd, FunD K "_law_shown" "_law_shown" (defArgs s__law_shown) (defBody s__law_shown) (defScope s__law_shown) [] [] (He.fAd K ("_law_shown", none)) fd := by
  obtain ⟨h, X, G, c⟩ := T.ex
  exact c.t.d.def_ 1 (d := df__law_shown) rfl
theorem Txt.dd__law_again (T : Txt w K mg) : ∃ fd, FunD K "_law_again" "_law_again" (defArgs s__law_again) (defBody s__law_again) (defScope s__law_again) [] [] (He.fAd K ("_law_again", none)) fd := by
  obtain ⟨h, X, G, c⟩ := T.ex
  exact c.t.d.def_ 2 (d := df__law_again) rfl
theorem Txt.dd__law_take (T : Txt w K mg) : ∃ fd, FunD K "_law_take" "_law_take" (defArgs s__law_take) (defBody s__law_take) (defScope s__law_take) [] [] (He.fAd K ("_law_take", none)) fd := by
  obtain ⟨h, X, G, c⟩ := T.ex
  exact c.t.d.def_ 3 (d := df__law_take) rfl
theorem Txt.dd_need (T : Txt w K mg) : ∃ fd, FunD K "need" "need" (defArgs s_need) (defBody s_need) (defScope s_need) [] [] (He.fAd K ("need", none)) fd := by
  obtain ⟨h, X, G, c⟩ := T.ex
  exact c.t.d.def_ 4 (d := df_need) rfl
theorem Txt.dd_copied (T : Txt w K mg) : ∃ fd, FunD K "copied" "copied" (defArgs s_copied) (defBody s_copied) (defScope s_copied) [] [] (He.fAd K ("copied", none)) fd := by
  obtain ⟨h, X, G, c⟩ := T.ex
  exact c.t.d.def_ 5 (d := df_copied) rfl
theorem Txt.dd_is_column (T : Txt w K mg) : ∃ fd, FunD K "is_column" "is_column" (defArgs s_is_column) (defBody s_is_column) (defScope s_is_column) [] [] (He.fAd K ("is_column", none)) fd := by
  obtain ⟨h, X, G, c⟩ := T.ex
  exact c.t.d.def_ 6 (d := df_is_column) rfl
theorem Txt.dd_width_of (T : Txt w K mg) : ∃ fd, FunD K "width_of" "width_of" (defArgs s_width_of) (defBody s_width_of) (defScope s_width_of) [] [] (He.fAd K ("width_of", none)) fd := by
  obtain ⟨h, X, G, c⟩ := T.ex
  exact c.t.d.def_ 7 (d := df_width_of) rfl
theorem Txt.dd_cut (T : Txt w K mg) : ∃ fd, FunD K "cut" "cut" (defArgs s_cut) (defBody s_cut) (defScope s_cut) [] [] (He.fAd K ("cut", none)) fd := by
  obtain ⟨h, X, G, c⟩ := T.ex
  exact c.t.d.def_ 8 (d := df_cut) rfl
theorem Txt.dd__law_cut_well (T : Txt w K mg) : ∃ fd, FunD K "_law_cut_well" "_law_cut_well" (defArgs s__law_cut_well) (defBody s__law_cut_well) (defScope s__law_cut_well) [] [] (He.fAd K ("_law_cut_well", none)) fd := by
  obtain ⟨h, X, G, c⟩ := T.ex
  exact c.t.d.def_ 9 (d := df__law_cut_well) rfl
theorem Txt.dd__law_number (T : Txt w K mg) : ∃ fd, FunD K "_law_number" "_law_number" (defArgs s__law_number) (defBody s__law_number) (defScope s__law_number) [] [] (He.fAd K ("_law_number", none)) fd := by
  obtain ⟨h, X, G, c⟩ := T.ex
  exact c.t.d.def_ 10 (d := df__law_number) rfl
theorem Txt.dd__law_rows (T : Txt w K mg) : ∃ fd, FunD K "_law_rows" "_law_rows" (defArgs s__law_rows) (defBody s__law_rows) (defScope s__law_rows) [] [] (He.fAd K ("_law_rows", none)) fd := by
  obtain ⟨h, X, G, c⟩ := T.ex
  exact c.t.d.def_ 11 (d := df__law_rows) rfl
theorem Txt.dd_joined (T : Txt w K mg) : ∃ fd, FunD K "joined" "joined" (defArgs s_joined) (defBody s_joined) (defScope s_joined) [] [] (He.fAd K ("joined", none)) fd := by
  obtain ⟨h, X, G, c⟩ := T.ex
  exact c.t.d.def_ 12 (d := df_joined) rfl
theorem Txt.dd__law_joined_well (T : Txt w K mg) : ∃ fd, FunD K "_law_joined_well" "_law_joined_well" (defArgs s__law_joined_well) (defBody s__law_joined_well) (defScope s__law_joined_well) [] [] (He.fAd K ("_law_joined_well", none)) fd := by
  obtain ⟨h, X, G, c⟩ := T.ex
  exact c.t.d.def_ 13 (d := df__law_joined_well) rfl
theorem Txt.dd__law_purse (T : Txt w K mg) : ∃ fd, FunD K "_law_purse" "_law_purse" (defArgs s__law_purse) (defBody s__law_purse) (defScope s__law_purse) [] [] (He.fAd K ("_law_purse", none)) fd := by
  obtain ⟨h, X, G, c⟩ := T.ex
  exact c.t.d.def_ 14 (d := df__law_purse) rfl
theorem Txt.dd__law_summed (T : Txt w K mg) : ∃ fd, FunD K "_law_summed" "_law_summed" (defArgs s__law_summed) (defBody s__law_summed) (defScope s__law_summed) [] [] (He.fAd K ("_law_summed", none)) fd := by
  obtain ⟨h, X, G, c⟩ := T.ex
  exact c.t.d.def_ 15 (d := df__law_summed) rfl
theorem Txt.dd_key_of (T : Txt w K mg) : ∃ fd, FunD K "key_of" "key_of" (defArgs s_key_of) (defBody s_key_of) (defScope s_key_of) [] [] (He.fAd K ("key_of", none)) fd := by
  obtain ⟨h, X, G, c⟩ := T.ex
  exact c.t.d.def_ 16 (d := df_key_of) rfl
theorem Txt.dd_summed (T : Txt w K mg) : ∃ fd, FunD K "summed" "summed" (defArgs s_summed) (defBody s_summed) (defScope s_summed) [.non] [] (He.fAd K ("summed", none)) fd := by
  obtain ⟨h, X, G, c⟩ := T.ex
  exact c.t.d.def_ 17 (d := df_summed) rfl
theorem Txt.dd__law_summed_well (T : Txt w K mg) : ∃ fd, FunD K "_law_summed_well" "_law_summed_well" (defArgs s__law_summed_well) (defBody s__law_summed_well) (defScope s__law_summed_well) [] [] (He.fAd K ("_law_summed_well", none)) fd := by
  obtain ⟨h, X, G, c⟩ := T.ex
  exact c.t.d.def_ 18 (d := df__law_summed_well) rfl
theorem Txt.dd_law (T : Txt w K mg) : ∃ fd, FunD K "law" "law" (defArgs s_law) (defBody s_law) (defScope s_law) [] [] (He.fAd K ("law", none)) fd := by
  obtain ⟨h, X, G, c⟩ := T.ex
  exact c.t.d.def_ 19 (d := df_law) rfl
theorem len__law_at (K : PySem.W.Frag) : ∀ vs H Q E, sp__law_at K vs H Q E → vs.length = 2 := by
  intro vs H Q E h
  unfold sp__law_at at h
  split at h <;> first | rfl | exact h.elim
theorem len__law_shown (K : PySem.W.Frag) : ∀ vs H Q E, sp__law_shown K vs H Q E → vs.length = 1 := by
  intro vs H Q E h
  unfold sp__law_shown at h
  split at h <;> first | rfl | exact h.elim
theorem len__law_again (K : PySem.W.Frag) : ∀ vs H Q E, sp__law_again K vs H Q E → vs.length = 2 := by
  intro vs H Q E h
  unfold sp__law_again at h
  split at h <;> first | rfl | exact h.elim
theorem len__law_take (K : PySem.W.Frag) : ∀ vs H Q E, sp__law_take K vs H Q E → vs.length = 2 := by
  intro vs H Q E h
  unfold sp__law_take at h
  split at h <;> first | rfl | exact h.elim
theorem len_need (K : PySem.W.Frag) : ∀ vs H Q E, sp_need K vs H Q E → vs.length = 1 := by
  intro vs H Q E h
  unfold sp_need at h
  split at h <;> first | rfl | exact h.elim
theorem len_copied (K : PySem.W.Frag) : ∀ vs H Q E, sp_copied K vs H Q E → vs.length = 1 := by
  intro vs H Q E h
  unfold sp_copied at h
  split at h <;> first | rfl | exact h.elim
theorem len_is_column (K : PySem.W.Frag) : ∀ vs H Q E, sp_is_column K vs H Q E → vs.length = 2 := by
  intro vs H Q E h
  unfold sp_is_column at h
  split at h <;> first | rfl | exact h.elim
theorem len_width_of (K : PySem.W.Frag) : ∀ vs H Q E, sp_width_of K vs H Q E → vs.length = 1 := by
  intro vs H Q E h
  unfold sp_width_of at h
  split at h <;> first | rfl | exact h.elim
theorem len_cut (K : PySem.W.Frag) : ∀ vs H Q E, sp_cut K vs H Q E → vs.length = 2 := by
  intro vs H Q E h
  unfold sp_cut at h
  split at h <;> first | rfl | exact h.elim
theorem len__law_cut_well (K : PySem.W.Frag) : ∀ vs H Q E, sp__law_cut_well K vs H Q E → vs.length = 3 := by
  intro vs H Q E h
  unfold sp__law_cut_well at h
  split at h <;> first | rfl | exact h.elim
theorem len__law_number (K : PySem.W.Frag) : ∀ vs H Q E, sp__law_number K vs H Q E → vs.length = 1 := by
  intro vs H Q E h
  unfold sp__law_number at h
  split at h <;> first | rfl | exact h.elim
theorem len__law_rows (K : PySem.W.Frag) : ∀ vs H Q E, sp__law_rows K vs H Q E → vs.length = 2 := by
  intro vs H Q E h
  unfold sp__law_rows at h
  split at h <;> first | rfl | exact h.elim
theorem len_joined (K : PySem.W.Frag) : ∀ vs H Q E, sp_joined K vs H Q E → vs.length = 2 := by
  intro vs H Q E h
  unfold sp_joined at h
  split at h <;> first | rfl | exact h.elim
theorem len__law_joined_well (K : PySem.W.Frag) : ∀ vs H Q E, sp__law_joined_well K vs H Q E → vs.length = 3 := by
  intro vs H Q E h
  unfold sp__law_joined_well at h
  split at h <;> first | rfl | exact h.elim
theorem len__law_purse (K : PySem.W.Frag) : ∀ vs H Q E, sp__law_purse K vs H Q E → vs.length = 1 := by
  intro vs H Q E h
  unfold sp__law_purse at h
  split at h <;> first | rfl | exact h.elim
theorem len__law_summed (K : PySem.W.Frag) : ∀ vs H Q E, sp__law_summed K vs H Q E → vs.length = 3 := by
  intro vs H Q E h
  unfold sp__law_summed at h
  split at h <;> first | rfl | exact h.elim
theorem len_key_of (K : PySem.W.Frag) : ∀ vs H Q E, sp_key_of K vs H Q E → vs.length = 2 := by
  intro vs H Q E h
  unfold sp_key_of at h
  split at h <;> first | rfl | exact h.elim
theorem len_summed (K : PySem.W.Frag) : ∀ vs H Q E, sp_summed K vs H Q E → vs.length = 3 := by
  intro vs H Q E h
  unfold sp_summed at h
  split at h <;> first | rfl | exact h.elim
theorem len__law_summed_well (K : PySem.W.Frag) : ∀ vs H Q E, sp__law_summed_well K vs H Q E → vs.length = 3 := by
  intro vs H Q E h
  unfold sp__law_summed_well at h
  split at h <;> first | rfl | exact h.elim
theorem len_law (K : PySem.W.Frag) : ∀ vs H Q E, sp_law K vs H Q E → vs.length = 1 := by
  intro vs H Q E h
  unfold sp_law at h
  split at h <;> first | rfl | exact h.elim
theorem body__law_at (T : Txt w K mg) {cdv : Value} {A : Around} {outer : List Env} {s : Shared} {H : Hp} {E : XK} (hr : Room 0 (A.deeper (envOfC "_law_at" (defScope s__law_at) s.heap.objs.size (He.fAd K ("_law_at", none)) cdv))) : PSs (cxOf CX0 P w K mg base M__law_at "_law_at" (defScope s__law_at) (He.fAd K ("_law_at", none)) cdv A outer s H E) (defBody s__law_at) (t__law_at K) := by
  
  refine PSs.nox ?_
  exact (pss_one (ps_ret (pe_ifExp (pt_cmpR op_lt (pv 1) (pe_callB call_len_seq (by rfl) (T.b_len) (by decide +kernel) (pa_cons (pv 0) pa_nil)) (nomark _)) (pe_ix ix_list (pv 0) (pv 1) (fun _ _ => rfl)) pe_int)))
theorem c__law_at (T : Txt w K mg) : U.Cal P w K mg base CX0 1 "_law_at" (sp__law_at K) [] := by
  obtain ⟨fd, F⟩ := T.dd__law_at
  have hb : Binds K fd ["_law_script", "_law_k"] [] := F.bindsN (ps := ["_law_script", "_law_k"]) (fun _ _ _ _ _ _ us hl => match us, hl with | [_, _], _ => rfl)
  exact ⟨⟨_, fd, _, [], F.ok (CX := CX0) sc__law_at (len__law_at K) (fun cdv A outer s H vs Q E hr h => ⟨t__law_at K, body__law_at T hr, pure__law_at vs H Q E h⟩), T.g__law_at, F.kp, hb, .nil⟩⟩
theorem body__law_shown (T : Txt w K mg) {cdv : Value} {A : Around} {outer : List Env} {s : Shared} {H : Hp} {E : XK} (hr : Room 0 (A.deeper (envOfC "_law_shown" (defScope s__law_shown) s.heap.objs.size (He.fAd K ("_law_shown", none)) cdv))) (hgd : (A.deeper (envOfC "_law_shown" (defScope s__law_shown) s.heap.objs.size (He.fAd K ("_law_shown", none)) cdv)).guards = some []) : PSs (cxOf CX0 P w K mg base M__law_shown "_law_shown" (defScope s__law_shown) (He.fAd K ("_law_shown", none)) cdv A outer s H E) (defBody s__law_shown) (t__law_shown K) := by
  
  refine PSs.nox ?_
  exact (pss_one (ps_ret (pe_callB (U.cr_reprD hgd (hu100 hr)) (by rfl) (T.b_repr) (by decide +kernel) (pa_cons (pe_callB (U.cr_sortIt rfl) (by rfl) (T.b_sorted) (by decide +kernel) (pa_cons (U.pe_itemsV (pv 0)) pa_nil)) pa_nil))))
theorem c__law_shown (T : Txt w K mg) : U.CalG P w K mg base CX0 1 "_law_shown" (sp__law_shown K) [] := by
  obtain ⟨fd, F⟩ := T.dd__law_shown
  have hb : Binds K fd ["_law_told"] [] := F.bindsN (ps := ["_law_told"]) (fun _ _ _ _ _ _ us hl => match us, hl with | [_], _ => rfl)
  exact ⟨⟨_, fd, _, [], U.okG F (CX := CX0) sc__law_shown (len__law_shown K) (fun cdv A outer s H vs Q E hr hgd h => ⟨t__law_shown K, body__law_shown T hr hgd, pure__law_shown vs H Q E h⟩), T.g__law_shown, F.kp, hb, .nil⟩⟩
theorem body__law_again (T : Txt w K mg) {cdv : Value} {A : Around} {outer : List Env} {s : Shared} {H : Hp} {E : XK} (hr : Room 1 (A.deeper (envOfC "_law_again" (defScope s__law_again) s.heap.objs.size (He.fAd K ("_law_again", none)) cdv))) (hgd : (A.deeper (envOfC "_law_again" (defScope s__law_again) s.heap.objs.size (He.fAd K ("_law_again", none)) cdv)).guards = some []) : PSs (cxOf CX0 P w K mg base M__law_again "_law_again" (defScope s__law_again) (He.fAd K ("_law_again", none)) cdv A outer s H E) (defBody s__law_again) (t__law_again K) := by
  have c__law_shown := c__law_shown (P := P) (base := base) T
  refine PSs.nox ?_
  exact (pss_cons (ps_if (PW.pt (pw_or (pt_not (pt_val (pe_callB call_isi (by rfl) (T.b_isinstance) (by decide +kernel) (pa_cons (pv 0) (pa_cons (pe_ty (by rfl) (T.b_dict) (by decide +kernel)) pa_nil))))) (pw_or1 (pt_cmpR op_ne (U.pe_cG (E := ES0) c__law_shown hr hgd (by decide) ps0 (by rfl) (pa_cons (pv 0) pa_nil)) (U.pe_cG (E := ES0) c__law_shown hr hgd (by decide) ps0 (by rfl) (pa_cons (pv 1) pa_nil)) (nomark _))))) (pss_one (ps_ret pe_bl)) pss_nil)
  (pss_cons (ps_lock (ps_for PassesOwn.never rfl (pi_values (pv 0)) (pg_name (i := 2) sc__law_again.nd rfl (by first | exact Or.inl rfl | exact Or.inr rfl)) (pss_one (ps_if (pt_val (pe_callB call_isi (by rfl) (T.b_isinstance) (by decide +kernel) (pa_cons (pe_ix ix_tup (pv 2) pe_int (fun _ _ => rfl)) (pa_cons (pe_ty (by rfl) (T.b_list) (by decide +kernel)) pa_nil)))) (pss_one (ps_expr (pe_bm PySem.F.plainAttrs_list PySem.F.slot_list_append PySem.F.type_list_append mt_append (pe_ix ix_tup (pv 2) pe_int (fun _ _ => rfl)) (pa_cons pe_int pa_nil)))) pss_nil))))
  (pss_cons (ps_expr (pe_dclear (pv 0)))
  (pss_one (ps_ret pe_bl)))))
theorem c__law_again (T : Txt w K mg) : U.CalG P w K mg base CX0 2 "_law_again" (sp__law_again K) [] := by
  obtain ⟨fd, F⟩ := T.dd__law_again
  have hb : Binds K fd ["_law_told", "_law_due"] [] := F.bindsN (ps := ["_law_told", "_law_due"]) (fun _ _ _ _ _ _ us hl => match us, hl with | [_, _], _ => rfl)
  exact ⟨⟨_, fd, _, [], U.okG F (CX := CX0) sc__law_again (len__law_again K) (fun cdv A outer s H vs Q E hr hgd h => ⟨t__law_again K, body__law_again T hr hgd, pure__law_again vs H Q E h⟩), T.g__law_again, F.kp, hb, .nil⟩⟩
theorem body__law_take (T : Txt w K mg) {cdv : Value} {A : Around} {outer : List Env} {s : Shared} {H : Hp} {E : XK} (hr : Room 0 (A.deeper (envOfC "_law_take" (defScope s__law_take) s.heap.objs.size (He.fAd K ("_law_take", none)) cdv))) : PSs (cxOf CX0 P w K mg base M__law_take "_law_take" (defScope s__law_take) (He.fAd K ("_law_take", none)) cdv A outer s H E) (defBody s__law_take) (t__law_take K) := by
  
  refine PSs.nox ?_
  exact (pss_cons (ps_if (pt_cmpR op_gt (pe_ix ix_list (pv 0) pe_int (fun _ _ => rfl)) pe_int (nomark _)) (pss_cons (ps_asg (pe_ix ix_list (pv 0) pe_int (fun _ _ => rfl)) (pg_name (i := 2) sc__law_take.nd rfl (by first | exact Or.inl rfl | exact Or.inr rfl)))
  (pss_cons (ps_asg (pe_op op_fdivW (pv 2) (pv 1)) (pg_sub (pv 0) pe_int set_list))
  (pss_one (ps_ret (pe_op op_mod (pv 2) (pv 1)))))) pss_nil)
  (pss_cons (ps_asg (pe_op op_mod (pe_op op_add (pe_op op_mul (pe_ix ix_list (pv 0) pe_int (fun _ _ => rfl)) pe_int) pe_int) pe_int) (pg_sub (pv 0) pe_int set_list))
  (pss_cons (ps_asg (pe_op op_mod (pe_op op_mul (pe_ix ix_list (pv 0) pe_int (fun _ _ => rfl)) (pe_ix ix_list (pv 0) pe_int (fun _ _ => rfl))) pe_int) (pg_name (i := 2) sc__law_take.nd rfl (by first | exact Or.inl rfl | exact Or.inr rfl)))
  (pss_one (ps_ret (pe_op op_mod (pe_op op_fdivW (pv 2) pe_int) (pv 1)))))))
theorem c__law_take (T : Txt w K mg) : U.Cal P w K mg base CX0 1 "_law_take" (sp__law_take K) [] := by
  obtain ⟨fd, F⟩ := T.dd__law_take
  have hb : Binds K fd ["_law_purse_here", "_law_many"] [] := F.bindsN (ps := ["_law_purse_here", "_law_many"]) (fun _ _ _ _ _ _ us hl => match us, hl with | [_, _], _ => rfl)
  exact ⟨⟨_, fd, _, [], F.ok (CX := CX0) sc__law_take (len__law_take K) (fun cdv A outer s H vs Q E hr h => ⟨t__law_take K, body__law_take T hr, pure__law_take vs H Q E h⟩), T.g__law_take, F.kp, hb, .nil⟩⟩
theorem body_need (T : Txt w K mg) {cdv : Value} {A : Around} {outer : List Env} {s : Shared} {H : Hp} {E : XK} (hr : Room 0 (A.deeper (envOfC "need" (defScope s_need) s.heap.objs.size (He.fAd K ("need", none)) cdv))) : PSs (cxOf (L2.CX P w) P w K mg base M_need "need" (defScope s_need) (He.fAd K ("need", none)) cdv A outer s H E) (defBody s_need) (t_need K (fun cls d _ H => E cls d H)) := by
  
  have tk : L2.Takes (cxOf (L2.CX P w) P w K mg base M_need "need" (defScope s_need) (He.fAd K ("need", none)) cdv A outer s H E) (fun cls d _ H => E cls d H) := L2.takes_of rfl rfl rfl rfl
  exact (pss_one (ps_if (pt_not (pt_val (pv 0))) (pss_one (ps_rs rfl tk T.e_NoWay T.g_NoWay (by rfl))) pss_nil))
theorem c_need (T : Txt w K mg) : U.Cal P w K mg base (L2.CX P w) 1 "need" (sp_need K) [] := by
  obtain ⟨fd, F⟩ := T.dd_need
  have hb : Binds K fd ["truth"] [] := F.bindsN (ps := ["truth"]) (fun _ _ _ _ _ _ us hl => match us, hl with | [_], _ => rfl)
  exact ⟨⟨_, fd, _, [], F.ok (CX := (L2.CX P w)) sc_need (len_need K) (fun cdv A outer s H vs Q E hr h => ⟨t_need K (fun cls d _ H => E cls d H), body_need T hr, pure_need vs H Q E h⟩), T.g_need, F.kp, hb, .nil⟩⟩
theorem body_copied (T : Txt w K mg) {cdv : Value} {A : Around} {outer : List Env} {s : Shared} {H : Hp} {E : XK} (hr : Room 1 (A.deeper (envOfC "copied" (defScope s_copied) s.heap.objs.size (He.fAd K ("copied", none)) cdv))) : PSs (cxOf (L2.CX P w) P w K mg base M_copied "copied" (defScope s_copied) (He.fAd K ("copied", none)) cdv A outer s H E) (defBody s_copied) (t_copied K (fun cls d _ H => E cls d H)) := by
  have c_need := c_need (P := P) (base := base) T
  have tk : L2.Takes (cxOf (L2.CX P w) P w K mg base M_copied "copied" (defScope s_copied) (He.fAd K ("copied", none)) cdv A outer s H E) (fun cls d _ H => E cls d H) := L2.takes_of rfl rfl rfl rfl
  exact (pss_cons (ps_expr (U.pe_c (E := (WE (fun cls d _ H => E cls d H))) c_need hr (by decide) (fun σ => passAt tk σ) (by rfl) (pa_cons (pe_cmpR op_gt (pe_callB call_lenD (by rfl) (T.b_len) (by decide +kernel) (pa_cons (pv 0) pa_nil)) pe_int (nomark _)) pa_nil)))
  (pss_cons (ps_asg (pe_dnewK) (pg_name (i := 1) sc_copied.nd rfl (by first | exact Or.inl rfl | exact Or.inr rfl)))
  (pss_cons (ps_for (passes_of rfl) rfl (pi_list (pe_callB (call_sortedDI rfl) (by rfl) (T.b_sorted) (by decide +kernel) (pa_cons (pv 0) pa_nil))) (pg_name (i := 2) sc_copied.nd rfl (by first | exact Or.inl rfl | exact Or.inr rfl)) (pss_one (ps_dput (hu_of hr) (pv 1) (pv 2) (pe_dget (hu_of hr) (pv 0) (pv 2) (fun _ _ => rfl)) rfl)))
  (pss_one (ps_ret (pv 1))))))
theorem c_copied (T : Txt w K mg) : U.Cal P w K mg base (L2.CX P w) 2 "copied" (sp_copied K) [] := by
  obtain ⟨fd, F⟩ := T.dd_copied
  have hb : Binds K fd ["rows"] [] := F.bindsN (ps := ["rows"]) (fun _ _ _ _ _ _ us hl => match us, hl with | [_], _ => rfl)
  exact ⟨⟨_, fd, _, [], F.ok (CX := (L2.CX P w)) sc_copied (len_copied K) (fun cdv A outer s H vs Q E hr h => ⟨t_copied K (fun cls d _ H => E cls d H), body_copied T hr, pure_copied vs H Q E h⟩), T.g_copied, F.kp, hb, .nil⟩⟩
theorem body_is_column (T : Txt w K mg) {cdv : Value} {A : Around} {outer : List Env} {s : Shared} {H : Hp} {E : XK} (hr : Room 0 (A.deeper (envOfC "is_column" (defScope s_is_column) s.heap.objs.size (He.fAd K ("is_column", none)) cdv))) : PSs (cxOf CX0 P w K mg base M_is_column "is_column" (defScope s_is_column) (He.fAd K ("is_column", none)) cdv A outer s H E) (defBody s_is_column) (t_is_column K) := by
  
  refine PSs.nox ?_
  exact (pss_one (ps_ret (pe_and (pe_callB call_isi (by rfl) (T.b_isinstance) (by decide +kernel) (pa_cons (pv 0) (pa_cons (pe_ty (by rfl) (T.b_int) (by decide +kernel)) pa_nil))) (pe_and (pe_not (pe_callB call_isi (by rfl) (T.b_isinstance) (by decide +kernel) (pa_cons (pv 0) (pa_cons (pe_ty (by rfl) (T.b_bool) (by decide +kernel)) pa_nil)))) (pe_one (pe_chain op_le op_lt pe_int (pv 0) (pv 1)))))))
theorem c_is_column (T : Txt w K mg) : U.Cal P w K mg base CX0 1 "is_column" (sp_is_column K) [] := by
  obtain ⟨fd, F⟩ := T.dd_is_column
  have hb : Binds K fd ["thing", "width"] [] := F.bindsN (ps := ["thing", "width"]) (fun _ _ _ _ _ _ us hl => match us, hl with | [_, _], _ => rfl)
  exact ⟨⟨_, fd, _, [], F.ok (CX := CX0) sc_is_column (len_is_column K) (fun cdv A outer s H vs Q E hr h => ⟨t_is_column K, body_is_column T hr, pure_is_column vs H Q E h⟩), T.g_is_column, F.kp, hb, .nil⟩⟩
theorem body_width_of (T : Txt w K mg) {cdv : Value} {A : Around} {outer : List Env} {s : Shared} {H : Hp} {E : XK} (hr : Room 1 (A.deeper (envOfC "width_of" (defScope s_width_of) s.heap.objs.size (He.fAd K ("width_of", none)) cdv))) : PSs (cxOf (L2.CX P w) P w K mg base M_width_of "width_of" (defScope s_width_of) (He.fAd K ("width_of", none)) cdv A outer s H E) (defBody s_width_of) (t_width_of K (fun cls d _ H => E cls d H)) := by
  have c_need := c_need (P := P) (base := base) T
  have tk : L2.Takes (cxOf (L2.CX P w) P w K mg base M_width_of "width_of" (defScope s_width_of) (He.fAd K ("width_of", none)) cdv A outer s H E) (fun cls d _ H => E cls d H) := L2.takes_of rfl rfl rfl rfl
  exact (pss_cons (ps_expr (U.pe_c (E := (WE (fun cls d _ H => E cls d H))) c_need hr (by decide) (fun σ => passAt tk σ) (by rfl) (pa_cons (pe_cmpR op_gt (pe_callB call_lenD (by rfl) (T.b_len) (by decide +kernel) (pa_cons (pv 0) pa_nil)) pe_int (nomark _)) pa_nil)))
  (pss_one (ps_ret (pe_callB (cr_max rfl) (by rfl) (T.b_max) (by decide +kernel) (pa_cons (pe_lock (pe_lc (own := [("row", 1)]) (g := (gName 1)) (tt := tYes) rfl sc_width_of.nd (pi_values (pv 0)) (blkOk_by (N := M_width_of) (sc := defScope s_width_of) (own := [("row", 1)]) (by decide +kernel)) (fun _ _ _ _ _ => (pg_name (i := 1) sc_width_of.nd rfl (by first | exact Or.inl rfl | exact Or.inr rfl))) (fun _ _ _ _ _ => pts_nil) (fun _ _ _ _ _ => (pe_callB call_len_seq (by rfl) (T.b_len) (by decide +kernel) (pa_cons (pv 1) pa_nil))))) pa_nil)))))
theorem c_width_of (T : Txt w K mg) : U.Cal P w K mg base (L2.CX P w) 2 "width_of" (sp_width_of K) [] := by
  obtain ⟨fd, F⟩ := T.dd_width_of
  have hb : Binds K fd ["rows"] [] := F.bindsN (ps := ["rows"]) (fun _ _ _ _ _ _ us hl => match us, hl with | [_], _ => rfl)
  exact ⟨⟨_, fd, _, [], F.ok (CX := (L2.CX P w)) sc_width_of (len_width_of K) (fun cdv A outer s H vs Q E hr h => ⟨t_width_of K (fun cls d _ H => E cls d H), body_width_of T hr, pure_width_of vs H Q E h⟩), T.g_width_of, F.kp, hb, .nil⟩⟩
theorem body_cut (T : Txt w K mg) {cdv : Value} {A : Around} {outer : List Env} {s : Shared} {H : Hp} {E : XK} (hr : Room 2 (A.deeper (envOfC "cut" (defScope s_cut) s.heap.objs.size (He.fAd K ("cut", none)) cdv))) : PSs (cxOf (L2.CX P w) P w K mg base M_cut "cut" (defScope s_cut) (He.fAd K ("cut", none)) cdv A outer s H E) (defBody s_cut) (t_cut K (fun cls d _ H => E cls d H)) := by
  have c_is_column := c_is_column (P := P) (base := base) T
  have c_need := c_need (P := P) (base := base) T
  have c_width_of := c_width_of (P := P) (base := base) T
  have tk : L2.Takes (cxOf (L2.CX P w) P w K mg base M_cut "cut" (defScope s_cut) (He.fAd K ("cut", none)) cdv A outer s H E) (fun cls d _ H => E cls d H) := L2.takes_of rfl rfl rfl rfl
  exact (pss_cons (ps_asg (U.pe_c (E := (WE (fun cls d _ H => E cls d H))) c_width_of hr (by decide) (fun σ => passAt tk σ) (by rfl) (pa_cons (pv 0) pa_nil)) (pg_name (i := 2) sc_cut.nd rfl (by first | exact Or.inl rfl | exact Or.inr rfl)))
  (pss_cons (ps_expr (U.pe_c (E := (WE (fun cls d _ H => E cls d H))) c_need hr (by decide) (fun σ => passAt tk σ) (by rfl) (pa_cons (pe_and (pe_callB call_isiT (by rfl) (T.b_isinstance) (by decide +kernel) (pa_cons (pv 1) (pa_cons (pe_tup (pa_cons (pe_ty (by rfl) (T.b_list) (by decide +kernel)) (pa_cons (pe_ty (by rfl) (T.b_tuple) (by decide +kernel)) pa_nil))) pa_nil))) (pe_one (pe_chain op_le op_le pe_int (pe_callB call_len_seq (by rfl) (T.b_len) (by decide +kernel) (pa_cons (pv 1) pa_nil)) (pe_gi (by rfl) T.v_MOST_COLUMNS)))) pa_nil)))
  (pss_cons (ps_expr (U.pe_c (E := (WE (fun cls d _ H => E cls d H))) c_need hr (by decide) (fun σ => passAt tk σ) (by rfl) (pa_cons (pe_callB (cr_all rfl) (by rfl) (T.b_all) (by decide +kernel) (pa_cons (pe_lc (own := [("column", 5)]) (g := (gName 5)) (tt := tYes) rfl sc_cut.nd (pi_list (pv 1)) (blkOk_by (N := M_cut) (sc := defScope s_cut) (own := [("column", 5)]) (by decide +kernel)) (fun _ _ _ _ _ => (pg_name (i := 5) sc_cut.nd rfl (by first | exact Or.inl rfl | exact Or.inr rfl))) (fun _ _ _ _ _ => pts_nil) (fun _ _ _ _ _ => (U.pe_c (E := ES0) c_is_column hr (by decide) ps0 (by rfl) (pa_cons (pv 5) (pa_cons (pv 2) pa_nil))))) pa_nil)) pa_nil)))
  (pss_cons (ps_asg (pe_dnewK) (pg_name (i := 3) sc_cut.nd rfl (by first | exact Or.inl rfl | exact Or.inr rfl)))
  (pss_cons (ps_for (passes_of rfl) rfl (pi_list (pe_callB (call_sortedDI rfl) (by rfl) (T.b_sorted) (by decide +kernel) (pa_cons (pv 0) pa_nil))) (pg_name (i := 4) sc_cut.nd rfl (by first | exact Or.inl rfl | exact Or.inr rfl)) (pss_one (ps_dput (hu_of hr) (pv 3) (pv 4) (pe_callTy call_tuple_of (by rfl) (T.b_tuple) (by decide +kernel) (pa_cons (pe_lc (own := [("column", 5)]) (g := (gName 5)) (tt := tYes) rfl sc_cut.nd (pi_list (pv 1)) (blkOk_by (N := M_cut) (sc := defScope s_cut) (own := [("column", 5)]) (by decide +kernel)) (fun _ _ _ _ _ => (pg_name (i := 5) sc_cut.nd rfl (by first | exact Or.inl rfl | exact Or.inr rfl))) (fun _ _ _ _ _ => pts_nil) (fun _ _ _ _ _ => (pe_ix ix_tup (pe_dget (hu_of hr) (pv 0) (pv 4) (fun _ _ => rfl)) (pv 5) (fun _ _ => rfl)))) pa_nil)) rfl)))
  (pss_one (ps_ret (pv 3))))))))
theorem c_cut (T : Txt w K mg) : U.Cal P w K mg base (L2.CX P w) 3 "cut" (sp_cut K) [] := by
  obtain ⟨fd, F⟩ := T.dd_cut
  have hb : Binds K fd ["rows", "columns"] [] := F.bindsN (ps := ["rows", "columns"]) (fun _ _ _ _ _ _ us hl => match us, hl with | [_, _], _ => rfl)
  exact ⟨⟨_, fd, _, [], F.ok (CX := (L2.CX P w)) sc_cut (len_cut K) (fun cdv A outer s H vs Q E hr h => ⟨t_cut K (fun cls d _ H => E cls d H), body_cut T hr, pure_cut vs H Q E h⟩), T.g_cut, F.kp, hb, .nil⟩⟩
theorem body__law_cut_well (T : Txt w K mg) {cdv : Value} {A : Around} {outer : List Env} {s : Shared} {H : Hp} {E : XK} (hr : Room 3 (A.deeper (envOfC "_law_cut_well" (defScope s__law_cut_well) s.heap.objs.size (He.fAd K ("_law_cut_well", none)) cdv))) (hgd : (A.deeper (envOfC "_law_cut_well" (defScope s__law_cut_well) s.heap.objs.size (He.fAd K ("_law_cut_well", none)) cdv)).guards = some []) : PSs (cxOf CX0 P w K mg base M__law_cut_well "_law_cut_well" (defScope s__law_cut_well) (He.fAd K ("_law_cut_well", none)) cdv A outer s H E) (defBody s__law_cut_well) (t__law_cut_well K) := by
  have c__law_again := c__law_again (P := P) (base := base) T
  have c__law_take := c__law_take (P := P) (base := base) T
  have c_copied := c_copied (P := P) (base := base) T
  have c_cut := c_cut (P := P) (base := base) T
  refine PSs.nox ?_
  exact (pss_cons (ps_setLc (i := 3) (own := [("_law_k", 9)]) (g := (gName 9)) (tt := tYes) rfl sc__law_cut_well.nd rfl rfl (sw_true rfl rfl rfl (by decide +kernel)) (pi_range1 (by rfl) (T.b_range) (pa_cons (pe_op op_add pe_int (U.pe_c (E := ES0) c__law_take hr (by decide) ps0 (by rfl) (pa_cons (pv 0) (pa_cons pe_int pa_nil)))) pa_nil)) (blkOk_by (N := M__law_cut_well) (sc := defScope s__law_cut_well) (own := [("_law_k", 9)]) (by decide +kernel)) (fun _ _ _ _ _ => (pg_name (i := 9) sc__law_cut_well.nd rfl (by first | exact Or.inl rfl | exact Or.inr rfl))) (fun _ _ _ _ _ => pts_nil) (fun _ _ _ _ _ => (U.pe_c (E := ES0) c__law_take hr (by decide) ps0 (by rfl) (pa_cons (pv 0) (pa_cons (pv 2) pa_nil)))))
  (pss_cons (ps_asg (pe_dnewK) (pg_name (i := 4) sc__law_cut_well.nd rfl (by first | exact Or.inl rfl | exact Or.inr rfl)))
  (pss_cons (ps_lock (ps_for PassesOwn.never rfl (pi_items (pv 1)) (pg_tup rfl (pgs_cons (pg_name (i := 5) sc__law_cut_well.nd rfl (by first | exact Or.inl rfl | exact Or.inr rfl)) (pgs_cons (pg_name (i := 6) sc__law_cut_well.nd rfl (by first | exact Or.inl rfl | exact Or.inr rfl)) pgs_nil))) (pss_one (ps_dput (hu_of hr) (pv 4) (pv 5) (pe_callTy call_tuple_of (by rfl) (T.b_tuple) (by decide +kernel) (pa_cons (pe_lc (own := [("_law_column", 10)]) (g := (gName 10)) (tt := tYes) rfl sc__law_cut_well.nd (pi_list (pv 3)) (blkOk_by (N := M__law_cut_well) (sc := defScope s__law_cut_well) (own := [("_law_column", 10)]) (by decide +kernel)) (fun _ _ _ _ _ => (pg_name (i := 10) sc__law_cut_well.nd rfl (by first | exact Or.inl rfl | exact Or.inr rfl))) (fun _ _ _ _ _ => pts_nil) (fun _ _ _ _ _ => (pe_ix ix_tup (pv 6) (pv 10) (fun _ _ => rfl)))) pa_nil)) rfl))))
  (pss_cons (ps_asg (pe_callTy call_list_of (by rfl) (T.b_list) (by decide +kernel) (pa_cons (pv 3) pa_nil)) (pg_name (i := 7) sc__law_cut_well.nd rfl (by first | exact Or.inl rfl | exact Or.inr rfl)))
  (pss_cons (ps_for PassesOwn.never rfl (pi_range1 (by rfl) (T.b_range) (pa_cons pe_int pa_nil)) (pg_name (i := 8) sc__law_cut_well.nd rfl (by first | exact Or.inl rfl | exact Or.inr rfl)) (pss_one (ps_if (PW.pt (pw_or (pt_not (pt_val (U.pe_cG (E := ES0) c__law_again hr hgd (by decide) ps0 (by rfl) (pa_cons (U.pe_c (E := ES0) c_cut hr (by decide) (psL) (by rfl) (pa_cons (pv 1) (pa_cons (pv 7) pa_nil))) (pa_cons (pv 4) pa_nil))))) (pw_or1 (pt_not (pt_val (U.pe_cG (E := ES0) c__law_again hr hgd (by decide) ps0 (by rfl) (pa_cons (U.pe_c (E := ES0) c_copied hr (by decide) (psL) (by rfl) (pa_cons (pv 1) pa_nil)) (pa_cons (pv 1) pa_nil)))))))) (pss_one (ps_ret pe_bl)) pss_nil)))
  (pss_one (ps_ret (pe_cmpR (op_eqD hr.units) (pv 7) (pv 3) (nomark _)))))))))
theorem c__law_cut_well (T : Txt w K mg) : U.CalG P w K mg base CX0 4 "_law_cut_well" (sp__law_cut_well K) [] := by
  obtain ⟨fd, F⟩ := T.dd__law_cut_well
  have hb : Binds K fd ["_law_purse_here", "_law_rows_here", "_law_width"] [] := F.bindsN (ps := ["_law_purse_here", "_law_rows_here", "_law_width"]) (fun _ _ _ _ _ _ us hl => match us, hl with | [_, _, _], _ => rfl)
  exact ⟨⟨_, fd, _, [], U.okG F (CX := CX0) sc__law_cut_well (len__law_cut_well K) (fun cdv A outer s H vs Q E hr hgd h => ⟨t__law_cut_well K, body__law_cut_well T hr hgd, pure__law_cut_well vs H Q E h⟩), T.g__law_cut_well, F.kp, hb, .nil⟩⟩
theorem body__law_number (T : Txt w K mg) {cdv : Value} {A : Around} {outer : List Env} {s : Shared} {H : Hp} {E : XK} (hr : Room 1 (A.deeper (envOfC "_law_number" (defScope s__law_number) s.heap.objs.size (He.fAd K ("_law_number", none)) cdv))) : PSs (cxOf CX0 P w K mg base M__law_number "_law_number" (defScope s__law_number) (He.fAd K ("_law_number", none)) cdv A outer s H E) (defBody s__law_number) (t__law_number K) := by
  have c__law_take := c__law_take (P := P) (base := base) T
  refine PSs.nox ?_
  exact (pss_cons (ps_asg (U.pe_c (E := ES0) c__law_take hr (by decide) ps0 (by rfl) (pa_cons (pv 0) (pa_cons pe_int pa_nil))) (pg_name (i := 1) sc__law_number.nd rfl (by first | exact Or.inl rfl | exact Or.inr rfl)))
  (pss_cons (ps_if (pt_cmpR op_eq (pv 1) pe_int (nomark _)) (pss_one (ps_ret (pe_op op_sub (U.pe_c (E := ES0) c__law_take hr (by decide) ps0 (by rfl) (pa_cons (pv 0) (pa_cons (pe_op op_pow pe_int pe_int) pa_nil))) (U.pe_c (E := ES0) c__law_take hr (by decide) ps0 (by rfl) (pa_cons (pv 0) (pa_cons (pe_op op_pow pe_int pe_int) pa_nil)))))) pss_nil)
  (pss_one (ps_ret (pe_op op_sub (U.pe_c (E := ES0) c__law_take hr (by decide) ps0 (by rfl) (pa_cons (pv 0) (pa_cons (pe_ix ix_list (pe_lst (pa_cons pe_int (pa_cons pe_int (pa_cons pe_int (pa_cons pe_int pa_nil))))) (pe_op op_sub (pv 1) pe_int) (fun _ _ => rfl)) pa_nil))) (pv 1))))))
theorem c__law_number (T : Txt w K mg) : U.Cal P w K mg base CX0 2 "_law_number" (sp__law_number K) [] := by
  obtain ⟨fd, F⟩ := T.dd__law_number
  have hb : Binds K fd ["_law_purse_here"] [] := F.bindsN (ps := ["_law_purse_here"]) (fun _ _ _ _ _ _ us hl => match us, hl with | [_], _ => rfl)
  exact ⟨⟨_, fd, _, [], F.ok (CX := CX0) sc__law_number (len__law_number K) (fun cdv A outer s H vs Q E hr h => ⟨t__law_number K, body__law_number T hr, pure__law_number vs H Q E h⟩), T.g__law_number, F.kp, hb, .nil⟩⟩
theorem body__law_rows (T : Txt w K mg) {cdv : Value} {A : Around} {outer : List Env} {s : Shared} {H : Hp} {E : XK} (hr : Room 2 (A.deeper (envOfC "_law_rows" (defScope s__law_rows) s.heap.objs.size (He.fAd K ("_law_rows", none)) cdv))) : PSs (cxOf CX0 P w K mg base M__law_rows "_law_rows" (defScope s__law_rows) (He.fAd K ("_law_rows", none)) cdv A outer s H E) (defBody s__law_rows) (t__law_rows K) := by
  have c__law_number := c__law_number (P := P) (base := base) T
  have c__law_take := c__law_take (P := P) (base := base) T
  refine PSs.nox ?_
  exact (pss_cons (ps_asg (pe_dnewK) (pg_name (i := 2) sc__law_rows.nd rfl (by first | exact Or.inl rfl | exact Or.inr rfl)))
  (pss_cons (ps_for PassesOwn.never rfl (pi_range1 (by rfl) (T.b_range) (pa_cons (pe_op op_add pe_int (U.pe_c (E := ES0) c__law_take hr (by decide) ps0 (by rfl) (pa_cons (pv 0) (pa_cons pe_int pa_nil)))) pa_nil)) (pg_name (i := 3) sc__law_rows.nd rfl (by first | exact Or.inl rfl | exact Or.inr rfl)) (pss_cons (ps_asg (pe_op op_add pe_int (U.pe_c (E := ES0) c__law_take hr (by decide) ps0 (by rfl) (pa_cons (pv 0) (pa_cons pe_int pa_nil)))) (pg_name (i := 4) sc__law_rows.nd rfl (by first | exact Or.inl rfl | exact Or.inr rfl)))
  (pss_one (ps_dput (hu_of hr) (pv 2) (pv 4) (pe_callTy call_tuple_of (by rfl) (T.b_tuple) (by decide +kernel) (pa_cons (pe_lc (own := [("_law_j", 5)]) (g := (gName 5)) (tt := tYes) rfl sc__law_rows.nd (pi_range1 (by rfl) (T.b_range) (pa_cons (pv 1) pa_nil)) (blkOk_by (N := M__law_rows) (sc := defScope s__law_rows) (own := [("_law_j", 5)]) (by decide +kernel)) (fun _ _ _ _ _ => (pg_name (i := 5) sc__law_rows.nd rfl (by first | exact Or.inl rfl | exact Or.inr rfl))) (fun _ _ _ _ _ => pts_nil) (fun _ _ _ _ _ => (U.pe_c (E := ES0) c__law_number hr (by decide) ps0 (by rfl) (pa_cons (pv 0) pa_nil)))) pa_nil)) rfl))))
  (pss_one (ps_ret (pv 2)))))
theorem c__law_rows (T : Txt w K mg) : U.Cal P w K mg base CX0 3 "_law_rows" (sp__law_rows K) [] := by
  obtain ⟨fd, F⟩ := T.dd__law_rows
  have hb : Binds K fd ["_law_purse_here", "_law_width"] [] := F.bindsN (ps := ["_law_purse_here", "_law_width"]) (fun _ _ _ _ _ _ us hl => match us, hl with | [_, _], _ => rfl)
  exact ⟨⟨_, fd, _, [], F.ok (CX := CX0) sc__law_rows (len__law_rows K) (fun cdv A outer s H vs Q E hr h => ⟨t__law_rows K, body__law_rows T hr, pure__law_rows vs H Q E h⟩), T.g__law_rows, F.kp, hb, .nil⟩⟩
theorem body_joined (T : Txt w K mg) {cdv : Value} {A : Around} {outer : List Env} {s : Shared} {H : Hp} {E : XK} (hr : Room 2 (A.deeper (envOfC "joined" (defScope s_joined) s.heap.objs.size (He.fAd K ("joined", none)) cdv))) : PSs (cxOf (L2.CX P w) P w K mg base M_joined "joined" (defScope s_joined) (He.fAd K ("joined", none)) cdv A outer s H E) (defBody s_joined) (t_joined K (fun cls d _ H => E cls d H)) := by
  have c_need := c_need (P := P) (base := base) T
  have c_width_of := c_width_of (P := P) (base := base) T
  have tk : L2.Takes (cxOf (L2.CX P w) P w K mg base M_joined "joined" (defScope s_joined) (He.fAd K ("joined", none)) cdv A outer s H E) (fun cls d _ H => E cls d H) := L2.takes_of rfl rfl rfl rfl
  exact (pss_cons (ps_expr (U.pe_c (E := (WE (fun cls d _ H => E cls d H))) c_need hr (by decide) (fun σ => passAt tk σ) (by rfl) (pa_cons (pe_cmpR op_le (pe_op op_add (U.pe_c (E := (WE (fun cls d _ H => E cls d H))) c_width_of hr (by decide) (fun σ => passAt tk σ) (by rfl) (pa_cons (pv 0) pa_nil)) (U.pe_c (E := (WE (fun cls d _ H => E cls d H))) c_width_of hr (by decide) (fun σ => passAt tk σ) (by rfl) (pa_cons (pv 1) pa_nil))) (pe_gi (by rfl) T.v_MOST_COLUMNS) (nomark _)) pa_nil)))
  (pss_cons (ps_asg (pe_dnewK) (pg_name (i := 2) sc_joined.nd rfl (by first | exact Or.inl rfl | exact Or.inr rfl)))
  (pss_cons (ps_for (passes_of rfl) rfl (pi_list (pe_callB (call_sortedDI rfl) (by rfl) (T.b_sorted) (by decide +kernel) (pa_cons (pv 0) pa_nil))) (pg_name (i := 3) sc_joined.nd rfl (by first | exact Or.inl rfl | exact Or.inr rfl)) (pss_one (ps_if (pt_cmp (pc_din (hu_of hr) (pv 3) (pv 1)) (by rfl)) (pss_one (ps_dput (hu_of hr) (pv 2) (pv 3) (pe_op op_catT (pe_dget (hu_of hr) (pv 0) (pv 3) (fun _ _ => rfl)) (pe_dget (hu_of hr) (pv 1) (pv 3) (fun _ _ => rfl))) rfl)) pss_nil)))
  (pss_one (ps_ret (pv 2))))))
theorem c_joined (T : Txt w K mg) : U.Cal P w K mg base (L2.CX P w) 3 "joined" (sp_joined K) [] := by
  obtain ⟨fd, F⟩ := T.dd_joined
  have hb : Binds K fd ["one", "other"] [] := F.bindsN (ps := ["one", "other"]) (fun _ _ _ _ _ _ us hl => match us, hl with | [_, _], _ => rfl)
  exact ⟨⟨_, fd, _, [], F.ok (CX := (L2.CX P w)) sc_joined (len_joined K) (fun cdv A outer s H vs Q E hr h => ⟨t_joined K (fun cls d _ H => E cls d H), body_joined T hr, pure_joined vs H Q E h⟩), T.g_joined, F.kp, hb, .nil⟩⟩
theorem body__law_joined_well (T : Txt w K mg) {cdv : Value} {A : Around} {outer : List Env} {s : Shared} {H : Hp} {E : XK} (hr : Room 3 (A.deeper (envOfC "_law_joined_well" (defScope s__law_joined_well) s.heap.objs.size (He.fAd K ("_law_joined_well", none)) cdv))) (hgd : (A.deeper (envOfC "_law_joined_well" (defScope s__law_joined_well) s.heap.objs.size (He.fAd K ("_law_joined_well", none)) cdv)).guards = some []) : PSs (cxOf CX0 P w K mg base M__law_joined_well "_law_joined_well" (defScope s__law_joined_well) (He.fAd K ("_law_joined_well", none)) cdv A outer s H E) (defBody s__law_joined_well) (t__law_joined_well K) := by
  have c__law_again := c__law_again (P := P) (base := base) T
  have c__law_rows := c__law_rows (P := P) (base := base) T
  have c__law_take := c__law_take (P := P) (base := base) T
  have c_joined := c_joined (P := P) (base := base) T
  refine PSs.nox ?_
  exact (pss_cons (ps_asg (U.pe_c (E := ES0) c__law_rows hr (by decide) ps0 (by rfl) (pa_cons (pv 0) (pa_cons (pe_op op_add pe_int (U.pe_c (E := ES0) c__law_take hr (by decide) ps0 (by rfl) (pa_cons (pv 0) (pa_cons (pe_op op_sub pe_int (pv 2)) pa_nil)))) pa_nil))) (pg_name (i := 3) sc__law_joined_well.nd rfl (by first | exact Or.inl rfl | exact Or.inr rfl)))
  (pss_cons (ps_asg (pe_dnewK) (pg_name (i := 4) sc__law_joined_well.nd rfl (by first | exact Or.inl rfl | exact Or.inr rfl)))
  (pss_cons (ps_lock (ps_for PassesOwn.never rfl (pi_items (pv 1)) (pg_tup rfl (pgs_cons (pg_name (i := 5) sc__law_joined_well.nd rfl (by first | exact Or.inl rfl | exact Or.inr rfl)) (pgs_cons (pg_name (i := 6) sc__law_joined_well.nd rfl (by first | exact Or.inl rfl | exact Or.inr rfl)) pgs_nil))) (pss_one (ps_if (pt_cmp (pc_din (hu_of hr) (pv 5) (pv 3)) (by rfl)) (pss_one (ps_dput (hu_of hr) (pv 4) (pv 5) (pe_op op_catT (pv 6) (pe_dget (hu_of hr) (pv 3) (pv 5) (fun _ _ => rfl))) rfl)) pss_nil))))
  (pss_cons (ps_asg (pe_lst (pa_cons (pe_callTy call_dictD (by rfl) (T.b_dict) (by decide +kernel) (pa_cons (pv 1) pa_nil)) (pa_cons (pe_callTy call_dictD (by rfl) (T.b_dict) (by decide +kernel) (pa_cons (pv 3) pa_nil)) pa_nil))) (pg_name (i := 7) sc__law_joined_well.nd rfl (by first | exact Or.inl rfl | exact Or.inr rfl)))
  (pss_cons (ps_for PassesOwn.never rfl (pi_range1 (by rfl) (T.b_range) (pa_cons pe_int pa_nil)) (pg_name (i := 8) sc__law_joined_well.nd rfl (by first | exact Or.inl rfl | exact Or.inr rfl)) (pss_one (ps_if (pt_not (pt_val (U.pe_cG (E := ES0) c__law_again hr hgd (by decide) ps0 (by rfl) (pa_cons (U.pe_c (E := ES0) c_joined hr (by decide) (psL) (by rfl) (pa_cons (pv 1) (pa_cons (pv 3) pa_nil))) (pa_cons (pv 4) pa_nil))))) (pss_one (ps_ret pe_bl)) pss_nil)))
  (pss_one (ps_ret (pe_cmpR (op_eqV (hu64 hr)) (pe_lst (pa_cons (pv 1) (pa_cons (pv 3) pa_nil))) (pv 7) (nomark _)))))))))
theorem c__law_joined_well (T : Txt w K mg) : U.CalG P w K mg base CX0 4 "_law_joined_well" (sp__law_joined_well K) [] := by
  obtain ⟨fd, F⟩ := T.dd__law_joined_well
  have hb : Binds K fd ["_law_purse_here", "_law_rows_here", "_law_width"] [] := F.bindsN (ps := ["_law_purse_here", "_law_rows_here", "_law_width"]) (fun _ _ _ _ _ _ us hl => match us, hl with | [_, _, _], _ => rfl)
  exact ⟨⟨_, fd, _, [], U.okG F (CX := CX0) sc__law_joined_well (len__law_joined_well K) (fun cdv A outer s H vs Q E hr hgd h => ⟨t__law_joined_well K, body__law_joined_well T hr hgd, pure__law_joined_well vs H Q E h⟩), T.g__law_joined_well, F.kp, hb, .nil⟩⟩
theorem body__law_purse (T : Txt w K mg) {cdv : Value} {A : Around} {outer : List Env} {s : Shared} {H : Hp} {E : XK} (hr : Room 0 (A.deeper (envOfC "_law_purse" (defScope s__law_purse) s.heap.objs.size (He.fAd K ("_law_purse", none)) cdv))) : PSs (cxOf CX0 P w K mg base M__law_purse "_law_purse" (defScope s__law_purse) (He.fAd K ("_law_purse", none)) cdv A outer s H E) (defBody s__law_purse) (t__law_purse K) := by
  
  refine PSs.nox ?_
  exact (pss_one (ps_ret (pe_lst (pa_cons (pe_callB (call_max2 rfl) (by rfl) (T.b_max) (by decide +kernel) (pa_cons pe_int (pa_cons (pe_op op_sub (pe_callB call_abs (by rfl) (T.b_abs) (by decide +kernel) (pa_cons (pv 0) pa_nil)) (pe_op op_pow pe_int pe_int)) pa_nil))) (pa_cons (pe_op op_add (pe_op op_mod (pe_callB call_abs (by rfl) (T.b_abs) (by decide +kernel) (pa_cons (pv 0) pa_nil)) pe_int) pe_int) pa_nil)))))
theorem c__law_purse (T : Txt w K mg) : U.Cal P w K mg base CX0 1 "_law_purse" (sp__law_purse K) [] := by
  obtain ⟨fd, F⟩ := T.dd__law_purse
  have hb : Binds K fd ["_law_cell"] [] := F.bindsN (ps := ["_law_cell"]) (fun _ _ _ _ _ _ us hl => match us, hl with | [_], _ => rfl)
  exact ⟨⟨_, fd, _, [], F.ok (CX := CX0) sc__law_purse (len__law_purse K) (fun cdv A outer s H vs Q E hr h => ⟨t__law_purse K, body__law_purse T hr, pure__law_purse vs H Q E h⟩), T.g__law_purse, F.kp, hb, .nil⟩⟩
theorem body__law_summed (T : Txt w K mg) {cdv : Value} {A : Around} {outer : List Env} {s : Shared} {H : Hp} {E : XK} (hr : Room 0 (A.deeper (envOfC "_law_summed" (defScope s__law_summed) s.heap.objs.size (He.fAd K ("_law_summed", none)) cdv))) : PSs (cxOf CX0 P w K mg base M__law_summed "_law_summed" (defScope s__law_summed) (He.fAd K ("_law_summed", none)) cdv A outer s H E) (defBody s__law_summed) (t__law_summed K w) := by
  
  refine PSs.nox ?_
  exact (pss_cons (ps_asg (pe_dnewK) (pg_name (i := 3) sc__law_summed.nd rfl (by first | exact Or.inl rfl | exact Or.inr rfl)))
  (pss_cons (ps_asg (pe_dnewK) (pg_name (i := 4) sc__law_summed.nd rfl (by first | exact Or.inl rfl | exact Or.inr rfl)))
  (pss_cons (ps_for PassesOwn.never rfl (pi_list (pv 0)) (pg_name (i := 5) sc__law_summed.nd rfl (by first | exact Or.inl rfl | exact Or.inr rfl)) (pss_one (ps_lock (ps_for PassesOwn.never rfl (pi_items (pv 5)) (pg_tup rfl (pgs_cons (pg_name (i := 6) sc__law_summed.nd rfl (by first | exact Or.inl rfl | exact Or.inr rfl)) (pgs_cons (pg_name (i := 7) sc__law_summed.nd rfl (by first | exact Or.inl rfl | exact Or.inr rfl)) pgs_nil))) (pss_cons (ps_asg pe_int (pg_name (i := 8) sc__law_summed.nd rfl (by first | exact Or.inl rfl | exact Or.inr rfl)))
  (pss_cons (ps_if (pt_cmpR op_notN (pv 2) pe_non (nomark _)) (pss_one (ps_asg (pe_ix ix_tup (pv 7) (pv 2) (fun _ _ => rfl)) (pg_name (i := 8) sc__law_summed.nd rfl (by first | exact Or.inl rfl | exact Or.inr rfl)))) pss_nil)
  (pss_cons (ps_dput (hu_of hr) (pv 3) (pv 8) (pe_op op_cat (pe_dget2 (hu_of hr) (pv 3) (pv 8) (pe_lst pa_nil) ⟨by rfl, by rfl, by rfl, by rfl⟩) (pe_lst (pa_cons (pv 6) pa_nil))) rfl)
  (pss_one (ps_dput (hu_of hr) (pv 4) (pv 8) (pe_op op_add (pe_dget2 (hu_of hr) (pv 4) (pv 8) pe_int ⟨by rfl, by rfl, by rfl, by rfl⟩) (pe_ix ix_tup (pv 7) (pv 1) (fun _ _ => rfl))) rfl)))))))))
  (pss_cons (ps_asg (pe_dnewK) (pg_name (i := 9) sc__law_summed.nd rfl (by first | exact Or.inl rfl | exact Or.inr rfl)))
  (pss_cons (ps_lock (ps_for PassesOwn.never rfl (pi_keys (pv 3)) (pg_name (i := 8) sc__law_summed.nd rfl (by first | exact Or.inl rfl | exact Or.inr rfl)) (pss_one (ps_dput (hu_of hr) (pv 9) (pv 8) (pe_tup (pa_cons (pe_callB (cr_sortedSet rfl) (by rfl) (T.b_sorted) (by decide +kernel) (pa_cons (pe_callTy (cr_setL rfl) (by rfl) (T.b_set) (by decide +kernel) (pa_cons (pe_dget (hu_of hr) (pv 3) (pv 8) (fun _ _ => rfl)) pa_nil)) pa_nil)) (pa_cons (pe_dget (hu_of hr) (pv 4) (pv 8) (fun _ _ => rfl)) pa_nil))) rfl))))
  (pss_one (ps_ret (pv 9))))))))
theorem c__law_summed (T : Txt w K mg) : U.Cal P w K mg base CX0 1 "_law_summed" (sp__law_summed K) [] := by
  obtain ⟨fd, F⟩ := T.dd__law_summed
  have hb : Binds K fd ["_law_some", "_law_column", "_law_by"] [] := F.bindsN (ps := ["_law_some", "_law_column", "_law_by"]) (fun _ _ _ _ _ _ us hl => match us, hl with | [_, _, _], _ => rfl)
  exact ⟨⟨_, fd, _, [], F.ok (CX := CX0) sc__law_summed (len__law_summed K) (fun cdv A outer s H vs Q E hr h => ⟨t__law_summed K w, body__law_summed T hr, pure__law_summed w vs H Q E h⟩), T.g__law_summed, F.kp, hb, .nil⟩⟩
theorem body_key_of (T : Txt w K mg) {cdv : Value} {A : Around} {outer : List Env} {s : Shared} {H : Hp} {E : XK} (hr : Room 0 (A.deeper (envOfC "key_of" (defScope s_key_of) s.heap.objs.size (He.fAd K ("key_of", none)) cdv))) : PSs (cxOf CX0 P w K mg base M_key_of "key_of" (defScope s_key_of) (He.fAd K ("key_of", none)) cdv A outer s H E) (defBody s_key_of) (t_key_of K) := by
  
  refine PSs.nox ?_
  exact (pss_cons (ps_if (pt_cmpR op_isN (pv 1) pe_non (nomark _)) (pss_one (ps_ret pe_int)) pss_nil)
  (pss_one (ps_ret (pe_ix ix_tup (pv 0) (pv 1) (fun _ _ => rfl)))))
theorem c_key_of (T : Txt w K mg) : U.Cal P w K mg base CX0 1 "key_of" (sp_key_of K) [] := by
  obtain ⟨fd, F⟩ := T.dd_key_of
  have hb : Binds K fd ["row", "by"] [] := F.bindsN (ps := ["row", "by"]) (fun _ _ _ _ _ _ us hl => match us, hl with | [_, _], _ => rfl)
  exact ⟨⟨_, fd, _, [], F.ok (CX := CX0) sc_key_of (len_key_of K) (fun cdv A outer s H vs Q E hr h => ⟨t_key_of K, body_key_of T hr, pure_key_of vs H Q E h⟩), T.g_key_of, F.kp, hb, .nil⟩⟩
theorem body_summed (T : Txt w K mg) {cdv : Value} {A : Around} {outer : List Env} {s : Shared} {H : Hp} {E : XK} (hr : Room 2 (A.deeper (envOfC "summed" (defScope s_summed) s.heap.objs.size (He.fAd K ("summed", none)) cdv))) : PSs (cxOf (L2.CX P w) P w K mg base M_summed "summed" (defScope s_summed) (He.fAd K ("summed", none)) cdv A outer s H E) (defBody s_summed) (t_summed K (fun cls d _ H => E cls d H) w) := by
  have c_is_column := c_is_column (P := P) (base := base) T
  have c_key_of := c_key_of (P := P) (base := base) T
  have c_need := c_need (P := P) (base := base) T
  have c_width_of := c_width_of (P := P) (base := base) T
  have tk : L2.Takes (cxOf (L2.CX P w) P w K mg base M_summed "summed" (defScope s_summed) (He.fAd K ("summed", none)) cdv A outer s H E) (fun cls d _ H => E cls d H) := L2.takes_of rfl rfl rfl rfl
  exact (pss_cons (ps_expr (U.pe_c (E := (WE (fun cls d _ H => E cls d H))) c_need hr (by decide) (fun σ => passAt tk σ) (by rfl) (pa_cons (pe_and (pe_callB call_isiT (by rfl) (T.b_isinstance) (by decide +kernel) (pa_cons (pv 0) (pa_cons (pe_tup (pa_cons (pe_ty (by rfl) (T.b_list) (by decide +kernel)) (pa_cons (pe_ty (by rfl) (T.b_tuple) (by decide +kernel)) pa_nil))) pa_nil))) (pe_one (pe_chain op_le op_le pe_int (pe_callB call_len_seq (by rfl) (T.b_len) (by decide +kernel) (pa_cons (pv 0) pa_nil)) (pe_gi (by rfl) T.v_MOST_SUMMED)))) pa_nil)))
  (pss_cons (ps_for (passes_of rfl) rfl (pi_list (pv 0)) (pg_name (i := 3) sc_summed.nd rfl (by first | exact Or.inl rfl | exact Or.inr rfl)) (pss_one (ps_expr (U.pe_c (E := (WE (fun cls d _ H => E cls d H))) c_need hr (by decide) (fun σ => passAt tk σ) (by rfl) (pa_cons (pe_and (U.pe_c (E := ES0) c_is_column hr (by decide) ps0 (by rfl) (pa_cons (pv 1) (pa_cons (U.pe_c (E := (WE (fun cls d _ H => E cls d H))) c_width_of hr (by decide) (fun σ => passAt tk σ) (by rfl) (pa_cons (pv 3) pa_nil)) pa_nil))) (pe_one (pe_or (pe_cmpR op_isN (pv 2) pe_non (nomark _)) (pe_one (U.pe_c (E := ES0) c_is_column hr (by decide) ps0 (by rfl) (pa_cons (pv 2) (pa_cons (U.pe_c (E := (WE (fun cls d _ H => E cls d H))) c_width_of hr (by decide) (fun σ => passAt tk σ) (by rfl) (pa_cons (pv 3) pa_nil)) pa_nil))))))) pa_nil)))))
  (pss_cons (ps_asg (pe_dnewK) (pg_name (i := 4) sc_summed.nd rfl (by first | exact Or.inl rfl | exact Or.inr rfl)))
  (pss_cons (ps_for (passes_of rfl) rfl (pi_list (pv 0)) (pg_name (i := 3) sc_summed.nd rfl (by first | exact Or.inl rfl | exact Or.inr rfl)) (pss_one (ps_lock (ps_for (passes_of rfl) rfl (pi_keys (pv 3)) (pg_name (i := 5) sc_summed.nd rfl (by first | exact Or.inl rfl | exact Or.inr rfl)) (pss_cons (ps_asg (U.pe_c (E := ES0) c_key_of hr (by decide) ps0 (by rfl) (pa_cons (pe_dget (hu_of hr) (pv 3) (pv 5) (fun _ _ => rfl)) (pa_cons (pv 2) pa_nil))) (pg_name (i := 6) sc_summed.nd rfl (by first | exact Or.inl rfl | exact Or.inr rfl)))
  (pss_cons (ps_asg (pe_dget2 (hu_of hr) (pv 4) (pv 6) (pe_tup (pa_cons (pe_lst pa_nil) (pa_cons pe_int pa_nil))) ⟨by rfl, by rfl, by rfl, by rfl⟩) (pg_tup rfl (pgs_cons (pg_name (i := 7) sc_summed.nd rfl (by first | exact Or.inl rfl | exact Or.inr rfl)) (pgs_cons (pg_name (i := 8) sc_summed.nd rfl (by first | exact Or.inl rfl | exact Or.inr rfl)) pgs_nil))))
  (pss_one (ps_dput (hu_of hr) (pv 4) (pv 6) (pe_tup (pa_cons (pe_callB (cr_sortedSet rfl) (by rfl) (T.b_sorted) (by decide +kernel) (pa_cons (pe_callTy (cr_setL rfl) (by rfl) (T.b_set) (by decide +kernel) (pa_cons (pe_op op_cat (pv 7) (pe_lst (pa_cons (pv 5) pa_nil))) pa_nil)) pa_nil)) (pa_cons (pe_op op_add (pv 8) (pe_ix ix_tup (pe_dget (hu_of hr) (pv 3) (pv 5) (fun _ _ => rfl)) (pv 1) (fun _ _ => rfl))) pa_nil))) rfl))))))))
  (pss_one (ps_ret (pv 4)))))))
theorem c_summed (T : Txt w K mg) : U.Cal P w K mg base (L2.CX P w) 3 "summed" (sp_summed K) [] := by
  obtain ⟨fd, F⟩ := T.dd_summed
  obtain ⟨ds, hv, hb⟩ := F.binds1 (ps := ["some", "column", "by"]) 3 1 (by decide) (by decide) (fun T kV doc pm an cdv ct us its h1 h2 => match us, its, h1, h2 with | [u0, u1, u2], [i0], _, _ => ⟨_, rfl, rfl⟩)
  exact ⟨⟨_, fd, _, ds, F.ok (CX := (L2.CX P w)) sc_summed (len_summed K) (fun cdv A outer s H vs Q E hr h => ⟨t_summed K (fun cls d _ H => E cls d H) w, body_summed T hr, pure_summed w vs H Q E h⟩), T.g_summed, F.kp, hb, hv⟩⟩
theorem c_summed_d1 (T : Txt w K mg) : U.Cal P w K mg base (L2.CX P w) 3 "summed" (sp_summed K) [.non] := by
  obtain ⟨fd, F⟩ := T.dd_summed
  obtain ⟨ds, hv, hb⟩ := F.binds1 (ps := ["some", "column", "by"]) 2 0 (by decide) (by decide) (fun T kV doc pm an cdv ct us its h1 h2 => match us, its, h1, h2 with | [u0, u1], [i0], _, _ => ⟨_, rfl, rfl⟩)
  exact ⟨⟨_, fd, _, ds, F.ok (CX := (L2.CX P w)) sc_summed (len_summed K) (fun cdv A outer s H vs Q E hr h => ⟨t_summed K (fun cls d _ H => E cls d H) w, body_summed T hr, pure_summed w vs H Q E h⟩), T.g_summed, F.kp, hb, hv⟩⟩
theorem body__law_summed_well (T : Txt w K mg) {cdv : Value} {A : Around} {outer : List Env} {s : Shared} {H : Hp} {E : XK} (hr : Room 3 (A.deeper (envOfC "_law_summed_well" (defScope s__law_summed_well) s.heap.objs.size (He.fAd K ("_law_summed_well", none)) cdv))) (hgd : (A.deeper (envOfC "_law_summed_well" (defScope s__law_summed_well) s.heap.objs.size (He.fAd K ("_law_summed_well", none)) cdv)).guards = some []) : PSs (cxOf CX0 P w K mg base M__law_summed_well "_law_summed_well" (defScope s__law_summed_well) (He.fAd K ("_law_summed_well", none)) cdv A outer s H E) (defBody s__law_summed_well) (t__law_summed_well K) := by
  have c__law_again := c__law_again (P := P) (base := base) T
  have c__law_rows := c__law_rows (P := P) (base := base) T
  have c__law_summed := c__law_summed (P := P) (base := base) T
  have c__law_take := c__law_take (P := P) (base := base) T
  have c_summed := c_summed (P := P) (base := base) T
  have c_summed_d1 := c_summed_d1 (P := P) (base := base) T
  refine PSs.nox ?_
  exact (pss_cons (ps_asg (pe_lst (pa_cons (pv 1) pa_nil)) (pg_name (i := 3) sc__law_summed_well.nd rfl (by first | exact Or.inl rfl | exact Or.inr rfl)))
  (pss_cons (ps_asg (pv 2) (pg_name (i := 4) sc__law_summed_well.nd rfl (by first | exact Or.inl rfl | exact Or.inr rfl)))
  (pss_cons (ps_for PassesOwn.never rfl (pi_range1 (by rfl) (T.b_range) (pa_cons (U.pe_c (E := ES0) c__law_take hr (by decide) ps0 (by rfl) (pa_cons (pv 0) (pa_cons pe_int pa_nil))) pa_nil)) (pg_name (i := 5) sc__law_summed_well.nd rfl (by first | exact Or.inl rfl | exact Or.inr rfl)) (pss_cons (ps_asg (pe_op op_add pe_int (U.pe_c (E := ES0) c__law_take hr (by decide) ps0 (by rfl) (pa_cons (pv 0) (pa_cons (pv 2) pa_nil)))) (pg_name (i := 6) sc__law_summed_well.nd rfl (by first | exact Or.inl rfl | exact Or.inr rfl)))
  (pss_cons (ps_expr (pe_bm PySem.F.plainAttrs_list PySem.F.slot_list_insert PySem.F.type_list_insert mt_insert (pv 3) (pa_cons (U.pe_c (E := ES0) c__law_take hr (by decide) ps0 (by rfl) (pa_cons (pv 0) (pa_cons pe_int pa_nil))) (pa_cons (U.pe_c (E := ES0) c__law_rows hr (by decide) ps0 (by rfl) (pa_cons (pv 0) (pa_cons (pv 6) pa_nil))) pa_nil))))
  (pss_one (ps_asg (pe_callB (call_min2 rfl) (by rfl) (T.b_min) (by decide +kernel) (pa_cons (pv 4) (pa_cons (pv 6) pa_nil))) (pg_name (i := 4) sc__law_summed_well.nd rfl (by first | exact Or.inl rfl | exact Or.inr rfl)))))))
  (pss_cons (ps_asg (U.pe_c (E := ES0) c__law_take hr (by decide) ps0 (by rfl) (pa_cons (pv 0) (pa_cons (pv 4) pa_nil))) (pg_name (i := 7) sc__law_summed_well.nd rfl (by first | exact Or.inl rfl | exact Or.inr rfl)))
  (pss_cons (ps_asg (pe_ix ix_list (pe_lst (pa_cons pe_non (pa_cons (U.pe_c (E := ES0) c__law_take hr (by decide) ps0 (by rfl) (pa_cons (pv 0) (pa_cons (pv 4) pa_nil))) pa_nil))) (U.pe_c (E := ES0) c__law_take hr (by decide) ps0 (by rfl) (pa_cons (pv 0) (pa_cons pe_int pa_nil))) (fun _ _ => rfl)) (pg_name (i := 8) sc__law_summed_well.nd rfl (by first | exact Or.inl rfl | exact Or.inr rfl)))
  (pss_cons (ps_asg (U.pe_c (E := ES0) c__law_summed hr (by decide) ps0 (by rfl) (pa_cons (pv 3) (pa_cons (pv 7) (pa_cons (pv 8) pa_nil)))) (pg_name (i := 9) sc__law_summed_well.nd rfl (by first | exact Or.inl rfl | exact Or.inr rfl)))
  (pss_cons (ps_asg (pe_callTy call_list_of (by rfl) (T.b_list) (by decide +kernel) (pa_cons (pv 3) pa_nil)) (pg_name (i := 10) sc__law_summed_well.nd rfl (by first | exact Or.inl rfl | exact Or.inr rfl)))
  (pss_cons (ps_setLc (i := 11) (own := [("_law_one", 14)]) (g := (gName 14)) (tt := tYes) rfl sc__law_summed_well.nd rfl rfl (sw_true rfl rfl rfl (by decide +kernel)) (pi_list (pv 3)) (blkOk_by (N := M__law_summed_well) (sc := defScope s__law_summed_well) (own := [("_law_one", 14)]) (by decide +kernel)) (fun _ _ _ _ _ => (pg_name (i := 14) sc__law_summed_well.nd rfl (by first | exact Or.inl rfl | exact Or.inr rfl))) (fun _ _ _ _ _ => pts_nil) (fun _ _ _ _ _ => (pe_callTy call_dictD (by rfl) (T.b_dict) (by decide +kernel) (pa_cons (pv 14) pa_nil))))
  (pss_cons (ps_for PassesOwn.never rfl (pi_range1 (by rfl) (T.b_range) (pa_cons pe_int pa_nil)) (pg_name (i := 12) sc__law_summed_well.nd rfl (by first | exact Or.inl rfl | exact Or.inr rfl)) (pss_cons (ps_asg (U.pe_c (E := ES0) c_summed hr (by decide) (psL) (by rfl) (pa_cons (pv 10) (pa_cons (pv 7) (pa_cons (pv 8) pa_nil)))) (pg_name (i := 13) sc__law_summed_well.nd rfl (by first | exact Or.inl rfl | exact Or.inr rfl)))
  (pss_cons (ps_if (PW.pt (pw_and (pt_cmpR op_isN (pv 8) pe_non (nomark _)) (pw_and1 (pt_cmpR op_eq (pv 12) pe_int (nomark _))))) (pss_one (ps_asg (U.pe_c (E := ES0) c_summed_d1 hr (by decide) (psL) (by rfl) (pa_cons (pv 10) (pa_cons (pv 7) pa_nil))) (pg_name (i := 13) sc__law_summed_well.nd rfl (by first | exact Or.inl rfl | exact Or.inr rfl)))) pss_nil)
  (pss_one (ps_if (pt_not (pt_val (U.pe_cG (E := ES0) c__law_again hr hgd (by decide) ps0 (by rfl) (pa_cons (pv 13) (pa_cons (pv 9) pa_nil))))) (pss_one (ps_ret pe_bl)) pss_nil)))))
  (pss_one (ps_ret (pe_and (pe_cmpR (op_eqV (hu64 hr)) (pv 10) (pv 3) (nomark _)) (pe_one (pe_cmpR (op_eqV (hu64 hr)) (pv 3) (pv 11) (nomark _)))))))))))))))
theorem c__law_summed_well (T : Txt w K mg) : U.CalG P w K mg base CX0 4 "_law_summed_well" (sp__law_summed_well K) [] := by
  obtain ⟨fd, F⟩ := T.dd__law_summed_well
  have hb : Binds K fd ["_law_purse_here", "_law_rows_here", "_law_width"] [] := F.bindsN (ps := ["_law_purse_here", "_law_rows_here", "_law_width"]) (fun _ _ _ _ _ _ us hl => match us, hl with | [_, _, _], _ => rfl)
  exact ⟨⟨_, fd, _, [], U.okG F (CX := CX0) sc__law_summed_well (len__law_summed_well K) (fun cdv A outer s H vs Q E hr hgd h => ⟨t__law_summed_well K, body__law_summed_well T hr hgd, pure__law_summed_well vs H Q E h⟩), T.g__law_summed_well, F.kp, hb, .nil⟩⟩
theorem body_law (T : Txt w K mg) {cdv : Value} {A : Around} {outer : List Env} {s : Shared} {H : Hp} {E : XK} (hr : Room 4 (A.deeper (envOfC "law" (defScope s_law) s.heap.objs.size (He.fAd K ("law", none)) cdv))) (hgd : (A.deeper (envOfC "law" (defScope s_law) s.heap.objs.size (He.fAd K ("law", none)) cdv)).guards = some []) : PSs (cxOf CX0 P w K mg base M_law "law" (defScope s_law) (He.fAd K ("law", none)) cdv A outer s H E) (defBody s_law) (t_law K) := by
  have c__law_at := c__law_at (P := P) (base := base) T
  have c__law_cut_well := c__law_cut_well (P := P) (base := base) T
  have c__law_joined_well := c__law_joined_well (P := P) (base := base) T
  have c__law_purse := c__law_purse (P := P) (base := base) T
  have c__law_rows := c__law_rows (P := P) (base := base) T
  have c__law_summed_well := c__law_summed_well (P := P) (base := base) T
  have c__law_take := c__law_take (P := P) (base := base) T
  refine PSs.nox ?_
  exact (pss_cons (ps_for PassesOwn.never rfl (pi_range1 (by rfl) (T.b_range) (pa_cons (pe_callB (call_max2 rfl) (by rfl) (T.b_max) (by decide +kernel) (pa_cons pe_int (pa_cons (pe_callB (call_min2 rfl) (by rfl) (T.b_min) (by decide +kernel) (pa_cons (pe_callB call_len_seq (by rfl) (T.b_len) (by decide +kernel) (pa_cons (pv 0) pa_nil)) (pa_cons pe_int pa_nil))) pa_nil))) pa_nil)) (pg_name (i := 1) sc_law.nd rfl (by first | exact Or.inl rfl | exact Or.inr rfl)) (pss_cons (ps_asg (U.pe_c (E := ES0) c__law_purse hr (by decide) ps0 (by rfl) (pa_cons (U.pe_c (E := ES0) c__law_at hr (by decide) ps0 (by rfl) (pa_cons (pv 0) (pa_cons (pv 1) pa_nil))) pa_nil)) (pg_name (i := 2) sc_law.nd rfl (by first | exact Or.inl rfl | exact Or.inr rfl)))
  (pss_cons (ps_asg (pe_ix ix_list (pe_lst (pa_cons pe_int (pa_cons pe_int (pa_cons pe_int (pa_cons pe_int (pa_cons pe_int (pa_cons pe_int pa_nil))))))) (U.pe_c (E := ES0) c__law_take hr (by decide) ps0 (by rfl) (pa_cons (pv 2) (pa_cons pe_int pa_nil))) (fun _ _ => rfl)) (pg_name (i := 3) sc_law.nd rfl (by first | exact Or.inl rfl | exact Or.inr rfl)))
  (pss_cons (ps_asg (U.pe_c (E := ES0) c__law_rows hr (by decide) ps0 (by rfl) (pa_cons (pv 2) (pa_cons (pv 3) pa_nil))) (pg_name (i := 4) sc_law.nd rfl (by first | exact Or.inl rfl | exact Or.inr rfl)))
  (pss_cons (ps_asg (pe_callTy call_dictD (by rfl) (T.b_dict) (by decide +kernel) (pa_cons (pv 4) pa_nil)) (pg_name (i := 5) sc_law.nd rfl (by first | exact Or.inl rfl | exact Or.inr rfl)))
  (pss_cons (ps_if (PW.pt (pw_and (pt_cmpR op_eq (pe_op op_mod (pv 1) pe_int) pe_int (nomark _)) (pw_and1 (pt_not (pt_val (U.pe_cG (E := ES0) c__law_cut_well hr hgd (by decide) ps0 (by rfl) (pa_cons (pv 2) (pa_cons (U.pe_c (E := ES0) c__law_rows hr (by decide) ps0 (by rfl) (pa_cons (pv 2) (pa_cons pe_int pa_nil))) (pa_cons pe_int pa_nil))))))))) (pss_one (ps_ret pe_bl)) pss_nil)
  (pss_cons (ps_if (PW.pt (pw_or (pt_not (pt_val (U.pe_cG (E := ES0) c__law_cut_well hr hgd (by decide) ps0 (by rfl) (pa_cons (pv 2) (pa_cons (pv 4) (pa_cons (pv 3) pa_nil)))))) (pw_or1 (pt_not (pt_val (U.pe_cG (E := ES0) c__law_joined_well hr hgd (by decide) ps0 (by rfl) (pa_cons (pv 2) (pa_cons (pv 4) (pa_cons (pv 3) pa_nil))))))))) (pss_one (ps_ret pe_bl)) pss_nil)
  (pss_one (ps_if (PW.pt (pw_or (pt_not (pt_val (U.pe_cG (E := ES0) c__law_summed_well hr hgd (by decide) ps0 (by rfl) (pa_cons (pv 2) (pa_cons (pv 4) (pa_cons (pv 3) pa_nil)))))) (pw_or1 (pt_cmpR (op_neC (hu100 hr)) (pv 4) (pv 5) (nomark _))))) (pss_one (ps_ret pe_bl)) pss_nil)))))))))
  (pss_one (ps_ret pe_bl)))
theorem ok_law (T : Txt w K mg) : ∃ fd : FuncData, (∀ (s : Shared) (v : Value), BindsTo s fd ⟨[v], []⟩ [("_law_script", v)]) ∧ ∀ base : Heap, U.FnG P w K mg base CX0 5 (He.ga K "law") fd ["_law_script"] (sp_law K) := by
  obtain ⟨fd, F⟩ := T.dd_law
  have b := FunD.bindsA (ps := ["_law_script"]) F fun _ _ _ _ _ _ us hl => match us, hl with | [_], _ => rfl
  exact ⟨fd, fun s v => b s [v] rfl, fun base => U.okG F (CX := CX0) sc_law (len_law K) (fun cdv A outer s H vs Q E hr hgd h => ⟨t_law K, body_law T hr hgd, pure_law vs H Q E h⟩)⟩
end
def loose0 : List Str := ["HallError", "NoWay", "MOST_COLUMNS", "MOST_SUMMED", "need", "is_column", "width_of", "copied", "cut", "joined", "key_of", "summed", "_law_at", "_law_purse", "_law_take", "_law_number", "_law_rows", "_law_shown", "_law_summed", "_law_again", "_law_cut_well", "_law_joined_well", "_law_summed_well"]
def loose : List Str := loose0
abbrev R : PySem.W.OpenRow := PySem.W.OpenLaw.row PySem.Challenge.rw_forgethall_k21_ways
abbrev hk : PySem.W.Hook := He.hookX 6 fa fn [] [] ex
def ob (s : PySem.W.SharedT) : He.AlX := He.obsX 6 fa fn [] [] ex (HandSHeadRun.getT s)
theorem ob_eq (s : PySem.W.SharedT) : ob s = hk.obs s.abs := He.obsX_eq (HandSHeadRun.getT_eq s)
theorem run (w : World) : HandSHeadRun.RunEq R (PySem.W.view R.prog [26]) hk ob 6000 loose w := by
  intro os
  kernel_rfl
end G21
open PySem PySem.W PySem.Calls PyProof.Rows
set_option maxRecDepth 100000 in
theorem PySem.Challenge.cw_forgethall_k21_ways_holds : PySem.Challenge.rw_forgethall_k21_ways.Holds := by
  w_on; o_law
  refine HandSHeadRun.head_any (r := (OpenLaw.row PySem.Challenge.rw_forgethall_k21_ways)) (q := view (OpenLaw.row PySem.Challenge.rw_forgethall_k21_ways).prog [26]) (H := G21.hk) (ob := G21.ob) (M := 6000) (loose := G21.loose) (d := HandSHeadRun.topDef (OpenLaw.row PySem.Challenge.rw_forgethall_k21_ways).prog 26) (kwd := []) G21.ob_eq
    (by kernel_rfl) (fun s => by kernel_rfl) G21.run (by kernel_rfl) (by kernel_rfl) (by kernel_rfl) (by rfl) (by first | assumption | decide +kernel) (by decide +kernel) ⟨rfl, rfl, rfl, rfl, rfl, by decide +kernel⟩ ?hw ?hc
  case hw => w_witness2
  case hc =>
    refine U.walk_ofG (l := PySem.Challenge.rw_forgethall_k21_ways) (n := 63) (k := 5) (x := "_law_script") (CX := L2.CX0) rfl (by decide) (by kernel_rfl) ⟨rfl, by decide, by decide⟩ ?F (fun _ _ _ _ z => z)
    intro w mg fa h Y GG hmg0
    obtain ⟨K, KX, c⟩ := Y
    have T : G21.Txt w K mg := ⟨h, KX, GG, c⟩
    have hmg : mg ("law" : PySem.Str) = some (.ref fa) := by
      have e : (HandSHeadRun.topDef (OpenLaw.row PySem.Challenge.rw_forgethall_k21_ways).prog 26).name = ("law" : PySem.Str) := by kernel_rfl
      rw [← e]
      exact hmg0
    have e := hmg.symm.trans T.g_law
    cases e
    obtain ⟨fd, hb, hF⟩ := G21.ok_law (P := (PySem.Challenge.rw_forgethall_k21_ways).prog) T
    exact ⟨K, fd, G21.sp_law K, KX, hb, fun H a ns hl hO hS => G21.law_asks K ((fun _ => trivial) c.more) H a ns hl hO hS, fun base _ _ => hF base⟩
