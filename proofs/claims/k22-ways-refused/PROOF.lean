import PyProof.Rows.All
import Wide.All
import OpenK.AllK
import Wide.FinOn
import KE.KStateDown
import HandS.ForMost
import HandS.ForExc
import HandS.ExcIs
import HandS.IsInst
import HandS.Codes
import HandS.Conv
import HandS.More
import HandS.SortInts
import HandS.Strs
import HandS.SetKeys
import HandS.Flow
import HandS.NoneIn
import HandS.Defaults
import HandS.CallSlots
import HandS.Deep
import HandS.Wide
import HandS.WideBits
import HandS.Head0
import HandS.Head1
import HandS.Head2
import HandS.HeadEnd
import HandS.HeadHook1
import HandS.HeadHook2
import HandS.HeadHook3
import HandS.HeadHook4
import HandS.DictComp
import HandS.SetFor
import KE.KEqDict
import PyProof.P3Eq
import HandS.Rev
import HandS.ListEq
import KE.KSortedM
import HandS.DictTup
import KE.KSortTupG
import PyProof.ReprRoads
import HandS.DeepEq
import HandS.Finally
import PySem.Challenge.RW_forgethall_k22_ways_refused
set_option Elab.async false
set_option linter.all false
set_option maxRecDepth 100000
set_option maxHeartbeats 4000000
/-! Own rules over the hand layer: calls by packages, fields by a known class, raising, isinstance in an except suite. -/
namespace U
open PySem PySem.Spec PyProof.Rows L2

/-! ### packages: a def, a method, a class that may be called -/
structure Cal (P : Program) (w : World) (K : PySem.W.Frag) (mg : Str → Option Value) (base : Heap) (CX : CXT) (k : Nat) (x : Str) (sp : Sp) (dvs : List V) : Prop where
  ex : ∃ (f : Addr) (fd : FuncData) (ps : List Str) (ds : List Value), FnOk P w K mg base CX k f fd ps sp ∧ mg x = some (.ref f) ∧ PySem.W.keepIn K (.ref f) = true ∧ Binds K fd ps ds ∧ Vals dvs ds
structure Met (P : Program) (w : World) (K : PySem.W.Frag) (mg : Str → Option Value) (base : Heap) (CX : CXT) (k : Nat) (C : Addr) (m : Str) (sp : Sp) (dvs : List V) : Prop where
  ex : ∃ (f : Addr) (fd : FuncData) (ps : List Str) (ds : List Value), Cls K C ∧ Meth K C m f ∧ FnOk P w K mg base CX k f fd ps sp ∧ Binds K fd ps ds ∧ Vals dvs ds
structure Mak (P : Program) (w : World) (K : PySem.W.Frag) (mg : Str → Option Value) (base : Heap) (CX : CXT) (k : Nat) (x : Str) (C : Addr) (sp : Sp) (dvs : List V) : Prop where
  ex : ∃ (f : Addr) (fd : FuncData) (ps : List Str) (ds : List Value), Mk K C f ∧ FnOk P w K mg base CX k f fd ps sp ∧ mg x = some (.ref C) ∧ Binds K fd ps ds ∧ Vals dvs ds

abbrev tCl : Sp → List V → (L2.St → XK) → TA → TE := L2.tCallSD
def tMt (C : Addr) (m : Str) (sp : Sp) (dvs : List V) (E : L2.St → XK) (ta : TE) (t : TA) : TE := fun σ H Q => ta σ H fun x H1 => ∃ a dx fs, x = .ref a ∧ H1 a = some (.ins C dx fs) ∧ fs.lookup m = none ∧
  t σ H1 fun vs H2 => sp (x :: (vs ++ dvs)) H2 Q (E σ)
def tMk (C : Addr) (sp : Sp) (dvs : List V) (E : L2.St → XK) (t : TA) : TE := fun σ H Q => t σ H fun vs H1 => ∀ x dx, H1 x = none → H1 dx = none → dx ≠ x →
  sp (.ref x :: (vs ++ dvs)) (upd (upd H1 dx (.own x)) x (.ins C dx [])) (fun v H2 => v = .non ∧ Q (.ref x) H2) (E σ)

abbrev ES0 : L2.St → XK := fun _ _ _ _ => False
theorem ps0 {X : Cx} {E : L2.St → XK} : ∀ σ, PassesAt CX0 X σ (E σ) := fun _ _ _ _ _ _ _ h => h.elim

section
variable {X : Cx} {CX : CXT} {k j : Nat} {f C : Addr} {fd : FuncData} {ps : List Str} {sp : Sp} {dvs : List V} {ds : List Value} {E : L2.St → XK} {x m : Str} {p pos apos : Pos} {e o : Expr} {es : List Expr} {ta : TE} {t : TA}
theorem pe_c (c : Cal X.prog X.w X.K X.mg X.base CX k x sp dvs) (hr : Room j X.A) (hk : k ≤ j) (hx : ∀ σ, PassesAt CX X σ (E σ)) (hg : Gl X x) (ha : PA X (e :: es) t)
    (hdb : (x == ("__debug__" : Str)) = false := by decide) (he : starEach (e :: es) X.env = (false, eval e X.env) :: starEach es X.env := by rfl) (hpl : (backTo pos (starEach es X.env)).any (·.1) = false := by rfl) :
    PE X (.Call (.Name x p) (e :: es) [] pos) (tCl sp dvs E t) := by
  obtain ⟨f, fd, ps, ds, F, hm, kp, b, d⟩ := c.ex
  exact L2.pe_callSD F (hr.mono hk) hg hm kp b d hx ha hdb he hpl
theorem pe_c0 (c : Cal X.prog X.w X.K X.mg X.base CX k x sp dvs) (hr : Room j X.A) (hk : k ≤ j) (hx : ∀ σ, PassesAt CX X σ (E σ)) (hg : Gl X x)
    (hdb : (x == ("__debug__" : Str)) = false := by decide) : PE X (.Call (.Name x p) [] [] pos) (tCl sp dvs E tNil) := by
  obtain ⟨f, fd, ps, ds, F, hm, kp, b, d⟩ := c.ex
  refine ⟨fun pins s σ H Q I h => ?_⟩
  refine wpAny_Call_Name_kw (ld_glob I hg hm ?_ hdb)
  exact PySem.W.callWith_K0 I.kIn kp (L2.run_fnSD (us := []) F (hr.mono hk) b d (hx σ) I .nil h)
theorem pe_mt {pl : Sem Bool} (c : Met X.prog X.w X.K X.mg X.base CX k C m sp dvs) (hr : Room j X.A) (hk : k ≤ j) (hx : ∀ σ, PassesAt CX X σ (E σ)) (he : PE X o ta) (ha : PA X (e :: es) t)
    (hst : starEach (e :: es) X.env = (false, eval e X.env) :: starEach es X.env := by rfl) (hpl : (backTo pos (starEach es X.env)).any (·.1) = false := by rfl)
    (ht : eval (.Call (.Attribute o m apos) (e :: es) [] pos) X.env = (do
      let ov ← eval o X.env
      standAt apos.atName
      let (f, first) ← holding [ov] (getMethod ov m pl)
      callWith pos f first (backTo pos (starEach (e :: es) X.env)) (backToKw pos (keywordEach [] X.env))) := by rfl) :
    PE X (.Call (.Attribute o m apos) (e :: es) [] pos) (tMt C m sp dvs E ta t) := by
  obtain ⟨f, fd, ps, ds, hc, hm, F, b, d⟩ := c.ex
  refine ⟨fun pins s σ H Q I h => ?_⟩
  refine PySem.W.methodCall_KW (pl := pl) (thn (he.run pins s σ H _ I h) fun u s1 ⟨x, H1, I1, rx, a, dx, fs, ex, ea, l, q⟩ => ?_) ht
  subst ex
  obtain rfl : u = Value.ref a := rx
  refine getmeth_ok I1 ea hc hm l ?_
  refine PySem.W.callWith_K (first := [.ref a]) (h₀ := X.base) I.ok.mod.kin hm.kp (thn (ha.run pos pins s1 σ H1 _ I1 q) fun us s2 ⟨vs, H2, I2, r, q2⟩ => ⟨I2.kIn, ?_⟩) hst hpl
  exact L2.run_fnSD (us := .ref a :: us) (vs := .ref a :: vs) F (hr.mono hk) b d (hx σ) I2 (.cons rfl r) q2
theorem pe_mt0 {pl : Sem Bool} (c : Met X.prog X.w X.K X.mg X.base CX k C m sp dvs) (hr : Room j X.A) (hk : k ≤ j) (hx : ∀ σ, PassesAt CX X σ (E σ)) (he : PE X o ta)
    (ht : eval (.Call (.Attribute o m apos) [] [] pos) X.env = (do
      let ov ← eval o X.env
      standAt apos.atName
      let (f, first) ← holding [ov] (getMethod ov m pl)
      callWith pos f first (backTo pos (starEach [] X.env)) (backToKw pos (keywordEach [] X.env))) := by rfl) :
    PE X (.Call (.Attribute o m apos) [] [] pos) (tMt C m sp dvs E ta tNil) := by
  obtain ⟨f, fd, ps, ds, hc, hm, F, b, d⟩ := c.ex
  refine ⟨fun pins s σ H Q I h => ?_⟩
  refine PySem.W.methodCall_KW (pl := pl) (thn (he.run pins s σ H _ I h) fun u s1 ⟨x, H1, I1, rx, a, dx, fs, ex, ea, l, q⟩ => ?_) ht
  subst ex
  obtain rfl : u = Value.ref a := rx
  refine getmeth_ok I1 ea hc hm l ?_
  exact PySem.W.callWith_K0 (first := [.ref a]) I1.kIn hm.kp (L2.run_fnSD (us := [.ref a]) (vs := [.ref a]) F (hr.mono hk) b d (hx σ) I1 (.cons rfl .nil) q)
theorem run_mk {pins : List (Addr × Obj)} {σ : L2.St} {H : Hp} {s : Shared} {Q : VK} {us : List Value} {vs : List V} (M : Mk X.K C f) (F : FnOk X.prog X.w X.K X.mg X.base CX k f fd ps sp) (hr : Room (k + 1) X.A) (hb : Binds X.K fd ps ds) (hd : Vals dvs ds)
    (hx : PassesAt CX X σ (E σ)) (I : Inv X pins σ H s) (r : Vals vs us)
    (h : ∀ x dx, H x = none → H dx = none → dx ≠ x → sp (.ref x :: (vs ++ dvs)) (upd (upd H dx (.own x)) x (.ins C dx [])) (fun v H2 => v = .non ∧ Q (.ref x) H2) (E σ)) :
    wpAny (model X.prog X.w) X.A (call (.ref C) us) (EP X pins σ Q) X.xe s := by
  have hq := h (s.heap.objs.size + 1) s.heap.objs.size (I.hok.fresh (Nat.le_succ _)) (I.hok.fresh (Nat.le_refl _)) (Nat.ne_of_lt (Nat.lt_succ_self _))
  have I2 := Inv.made (C := C) I
  have r2 : Vals (V.ref (s.heap.objs.size + 1) :: (vs ++ dvs)) (Value.ref (s.heap.objs.size + 1) :: (us ++ ds)) := .cons rfl (r.append hd)
  have hl : (Value.ref (s.heap.objs.size + 1) :: us ++ ds).length = ps.length := by
    have e := r2.length
    rw [F.len _ _ _ _ hq] at e
    exact e.symm
  refine wpAny_call (make_map (f := f) I.kIn M.makes M.init (beq_iff_eq.mp M.fn) (codeAny_mono (F.run _ X.stack _ _ ⟨Value.ref (s.heap.objs.size + 1) :: us, []⟩ (Value.ref (s.heap.objs.size + 1) :: (us ++ ds)) _ _ (E σ) (hr.make C us [])
    (I2.env0.make C us []) (hb _ (Value.ref (s.heap.objs.size + 1) :: us) I2.kIn hl) r2 hq) fun r s' hq' => ?_))
  cases r with
  | error e => exact hx pins _ _ e s' I2 hq'
  | ok fl =>
    cases fl with
    | ret u =>
      obtain ⟨v, H', I3, rv, ev, q3⟩ := I2.after hq'
      subst ev
      exact ⟨rv, ⟨V.ref (s.heap.objs.size + 1), H', I3, rfl, q3⟩⟩
    | next => exact False.elim hq'
    | brk => exact False.elim hq'
    | cont => exact False.elim hq'
theorem pe_mk (c : Mak X.prog X.w X.K X.mg X.base CX k x C sp dvs) (hr : Room j X.A) (hk : k + 1 ≤ j) (hx : ∀ σ, PassesAt CX X σ (E σ)) (hg : Gl X x) (ha : PA X (e :: es) t)
    (hdb : (x == ("__debug__" : Str)) = false := by decide) (he : starEach (e :: es) X.env = (false, eval e X.env) :: starEach es X.env := by rfl) (hpl : (backTo pos (starEach es X.env)).any (·.1) = false := by rfl) :
    PE X (.Call (.Name x p) (e :: es) [] pos) (tMk C sp dvs E t) := by
  obtain ⟨f, fd, ps, ds, M, F, hm, b, d⟩ := c.ex
  refine ⟨fun pins s σ H Q I h => ?_⟩
  refine wpAny_Call_Name_kw (ld_glob I hg hm ?_ hdb)
  refine PySem.W.callWith_K (h₀ := X.base) I.ok.mod.kin M.kp (thn (ha.run pos pins s σ H _ I h) fun us s1 ⟨vs, H1, I1, r, q⟩ => ⟨I1.kIn, ?_⟩) he hpl
  exact run_mk M F (hr.mono hk) b d (hx σ) I1 r q
theorem pe_mk0 (c : Mak X.prog X.w X.K X.mg X.base CX k x C sp dvs) (hr : Room j X.A) (hk : k + 1 ≤ j) (hx : ∀ σ, PassesAt CX X σ (E σ)) (hg : Gl X x)
    (hdb : (x == ("__debug__" : Str)) = false := by decide) : PE X (.Call (.Name x p) [] [] pos) (tMk C sp dvs E tNil) := by
  obtain ⟨f, fd, ps, ds, M, F, hm, b, d⟩ := c.ex
  refine ⟨fun pins s σ H Q I h => ?_⟩
  refine wpAny_Call_Name_kw (ld_glob I hg hm ?_ hdb)
  exact PySem.W.callWith_K0 I.kIn M.kp (run_mk (us := []) M F (hr.mono hk) b d (hx σ) I .nil h)
end

/-! ### a field of an instance of a known class -/
def tFd (C : Addr) (ta : TE) (f : Str) : TE := fun σ H Q => ta σ H fun x H1 => ∃ a dx fs v, x = .ref a ∧ H1 a = some (.ins C dx fs) ∧ fs.lookup f = some v ∧ Q v H1
def sFd (C : Addr) (ta tv : TE) (f : Str) : TS := fun D σ H => tv σ H fun y H1 => ta σ H1 fun x H2 => ∃ a dx fs, x = .ref a ∧ H2 a = some (.ins C dx fs) ∧ fs.length < 1000 ∧ D.nx σ (upd H2 a (.ins C dx (putF f y fs)))
/-- e.f += value, whole numbers -/
def sFdAdd (C : Addr) (ta tv : TE) (f : Str) : TS := fun D σ H => ta σ H fun x H1 => ∃ a dx fs i, x = .ref a ∧ H1 a = some (.ins C dx fs) ∧ fs.lookup f = some (.int i) ∧
  tv σ H1 fun y H2 => ∃ j dx' fs', y = .int j ∧ H2 a = some (.ins C dx' fs') ∧ fs'.length < 1000 ∧ D.nx σ (upd H2 a (.ins C dx' (putF f (.int (i + j)) fs')))
section
variable {X : Cx} {o e value : Expr} {f : Str} {pos pos' tpos : Pos} {ta tv : TE} {C : Addr}
theorem pe_fd (c : Cls X.K C) (n : NoAttr X.K C f) (he : PE X e ta) (hb : attributeBase e f X.env (eval e X.env) = eval e X.env := by rfl) : PE X (.Attribute e f pos) (tFd C ta f) := by
  refine ⟨fun pins s σ H Q I h => ?_⟩
  refine attr_of hb (thn (he.run pins s σ H _ I h) fun u s1 ⟨x, H1, I1, rx, a, dx, fs, v, ex, ea, l, q⟩ => ?_)
  subst ex
  obtain rfl : u = Value.ref a := rx
  exact getattr_ok I1 ea c n l fun u' s2 I2 ru => ⟨v, H1, I2, ru, q⟩
theorem ps_fd (c : Cls X.K C) (n : NoAttr X.K C f) (ha : PE X o ta) (hv : PE X value tv) (hs : swapsWith value (some (.Attribute o f pos')) pos.line X.env = pure false := by rfl) : PS X (.Assign [.Attribute o f pos'] value pos) (sFd C ta tv f) := by
  refine ⟨fun pins s σ H D I h => ?_⟩
  refine plainObj_wpAny_Assign_Attribute (thn (hv.run pins s σ H _ I h) fun u s1 ⟨y, H1, I1, ry, q⟩ => thn (ha.run pins s1 σ H1 _ I1 q) fun ov s2 ⟨x, H2, I2, rx, a, dx, fs, ex, ea, l, q2⟩ => ?_) hs
  subst ex
  obtain rfl : ov = Value.ref a := rx
  exact setattr_ok I2 ea c n l ry fun s3 I3 => ⟨σ, _, I3, q2⟩
theorem ps_fdadd (c : Cls X.K C) (n : NoAttr X.K C f) (ha : PE X o ta) (hv : PE X value tv) : PS X (.AugAssign (.Attribute o f tpos) .Add value pos) (sFdAdd C ta tv f) := by
  refine ⟨fun pins s σ H D I h => ?_⟩
  refine wpAny_AugAssign_AttributeAny (thn (ha.run pins s σ H _ I h) fun ov s1 ⟨x, H1, I1, rx, a, dx, fs, i, ex, ea, l, q⟩ => ?_)
  subst ex
  obtain rfl : ov = Value.ref a := rx
  refine getattr_ok I1 ea c n l fun u s2 I2 ru => thn (hv.run pins s2 σ H1 _ I2 q) fun w3 s3 ⟨y, H2, I3, ry, j, dx', fs', ey, ea', l', q3⟩ => ?_
  subst ey
  refine thn (in_add (X := X) pins s3 σ H2 (.int i) (.int j) u w3 (fun z H3 => z = .int (i + j) ∧ H3 = H2) I3 ru ry ⟨i, j, rfl, rfl, rfl, rfl⟩) fun w4 s4 ⟨z, H3, I4, rz, ez, eH⟩ => ?_
  subst ez
  subst eH
  exact setattr_ok I4 ea' c n l' rz fun s5 I5 => ⟨σ, _, I5, q3⟩
end

/-! ### constants of the module -/
section
variable {X : Cx} {x : Str} {pos : Pos}
theorem pe_gi {i : Int} (hg : Gl X x) (h : ∃ t, X.mg x = some (.int i t)) (hd : (x == ("__debug__" : Str)) = false := by decide) : PE X (.Name x pos) (tC (.int i)) := by
  obtain ⟨t, h⟩ := h
  exact pe_glob hg h ⟨t, rfl⟩ hd
theorem pe_gs {z : Str} (hg : Gl X x) (h : ∃ t, X.mg x = some (.str z t)) (hd : (x == ("__debug__" : Str)) = false := by decide) : PE X (.Name x pos) (tC (.str z)) := by
  obtain ⟨t, h⟩ := h
  exact pe_glob hg h ⟨t, rfl⟩ hd
theorem pe_gr {a : Addr} (hg : Gl X x) (h : X.mg x = some (.ref a)) (hd : (x == ("__debug__" : Str)) = false := by decide) : PE X (.Name x pos) (tC (.ref a)) := pe_glob hg h rfl hd
theorem pe_ty {T : String} (hg : Gl X x) (hm : X.mg x = none) (hv : bootBuiltins x = some (.type T)) (hn : x ≠ "__name__" := by decide) (hd : (x == ("__debug__" : Str)) = false := by decide) : PE X (.Name x pos) (tC (.ty T)) := pe_bltn hg hm hv rfl hn hd
end

/-! ### raising: own classes over HallError, made with a text -/
/-- what the written part says of an error class -/
structure ErrC (K : PySem.W.Frag) (C : Addr) : Prop where
  x : PySem.W.excIn K C He.veBase "ValueError.__new__" = true
  k : PySem.W.keepIn K (.ref C) = true
  b : PySem.W.subIn K (.ref C) (.type "BaseException") = some true
  t : PySem.W.typeIn K (.ref C) = some (.type "type")
def tRs (C : Addr) (W : WX) : TS := fun _ σ H => W (.ref C) none σ H
theorem ps_rs {X : Cx} {C : Addr} {W : WX} {x m : Str} {j : Nat} {p p2 pos pos2 : Pos} (hc : X.calm = true) (tk : Takes X W) (T : ErrC X.K C) (gC : X.mg x = some (.ref C)) (hg : Gl X x) (hdb : (x == ("__debug__" : Str)) = false := by decide) :
    PS X (.Raise (some (.Call (.Name x p) [.Constant (.str m) j p2] [] pos)) none pos2) (tRs C W) :=
  ps_raise hc tk (pmk_own PySem.F.excBase_ValueError T.x gC T.k (raises_own T.b T.t) hg hdb)

/-! ### isinstance of a caught error -/
def rIsX (K : PySem.W.Frag) (a : Addr) (cls : Value) (d : Option Addr) : List V → Hp → VK → Prop := fun xs H Q => ∃ (D : Addr) (c : V) (cv : Value) (b : Bool), cls = .ref D ∧ d = none ∧ ExcC K D ∧ xs = [.ref a, c] ∧ ClsV c cv ∧ PySem.W.kitOne K (.ref D) cv = some b ∧ Q (.bl b) H
def rIsXT (K : PySem.W.Frag) (a : Addr) (cls : Value) (d : Option Addr) : List V → Hp → VK → Prop := fun xs H Q => ∃ (D tp : Addr) (cs : List V) (us : List Value) (b : Bool), cls = .ref D ∧ d = none ∧ ExcC K D ∧ xs = [.ref a, .ref tp] ∧ H tp = some (.tup cs) ∧ Paired ClsV cs us ∧ PySem.W.kitAny K (.ref D) us = some b ∧ Q (.bl b) H
section
variable {X : Cx} {a : Addr} {oe : Obj} {cls : Value} {d : Option Addr} {pn : List (Addr × Obj)}
theorem inst_exc {pins : List (Addr × Obj)} {s : Shared} {σ : L2.St} {H : Hp} {D : Addr} (hz : Zc (.ref D) none oe) (hf : ∃ vs, oe.data = .fields vs) (I : Inv (X.suite a ((a, oe) :: pn)) pins σ H s) : PySem.W.InstAt s.heap a oe D none := by
  obtain ⟨hget, _⟩ := I.pin (a, oe) (List.mem_append.mpr (.inl List.mem_cons_self))
  obtain ⟨vs, hv⟩ := hf
  obtain ⟨oc, od, oda, osl⟩ := oe
  obtain ⟨h1, h2⟩ := hz
  dsimp only at h1 h2 hv
  subst h1 h2 hv
  exact ⟨hget, rfl, rfl, trivial⟩
theorem call_isX (hz : Zc cls d oe) (hf : ∃ vs, oe.data = .fields vs) : CallR (X.suite a ((a, oe) :: pn)) (.builtin "isinstance") (rIsX X.K a cls d) := by
  intro pins s σ H xs us Q I r h
  obtain ⟨D, c, cv, b, rfl, rfl, C, rfl, hcv, e, q⟩ := h
  obtain ⟨u1, u2, rfl, r1, r2⟩ := vals2 r
  have e2 := hcv.eq r2
  subst e2
  cases (show u1 = Value.ref a from r1)
  exact PySem.W.kia_one (PySem.W.handS_kitx_exc C.hg C.hk C.hs C.hd C.ha C.hn C.ht C.hm) I.kIn (inst_exc hz hf I) e (fun z => nomatch z) fun tk => ⟨.bl b, H, I.kept (t' := tk) fun _ _ z => z, rfl, q⟩
theorem call_isXT (hz : Zc cls d oe) (hf : ∃ vs, oe.data = .fields vs) : CallR (X.suite a ((a, oe) :: pn)) (.builtin "isinstance") (rIsXT X.K a cls d) := by
  intro pins s σ H xs us Q I r h
  obtain ⟨D, tp, cs, ws, b, rfl, rfl, C, rfl, hT, k, e, q⟩ := h
  obtain ⟨u1, u2, rfl, r1, r2⟩ := vals2 r
  cases (show u2 = Value.ref tp from r2)
  cases (show u1 = Value.ref a from r1)
  obtain ⟨_, its, rv, o, h1, h2, n, h3⟩ := (show ObjOk X.prog X.w H s.heap tp (.tup cs) from I.hok tp _ hT)
  have e3 := ClsV.all k rv
  subst e3
  obtain ⟨oc, od, dt, sl⟩ := o
  simp only at h2 h3
  subst h2 h3
  exact PySem.W.kia_tup (PySem.W.handS_kitx_exc C.hg C.hk C.hs C.hd C.ha C.hn C.ht C.hm) I.kIn (inst_exc hz hf I) h1 e (fun z => nomatch z) fun tk => ⟨.bl b, H, I.kept (t' := tk) fun _ _ z => z, rfl, q⟩
end
end U

set_option Elab.async false
set_option linter.all false
set_option maxRecDepth 100000
set_option maxHeartbeats 4000000
/-! Names for the readings, so that readings can be printed by a program. -/
namespace U
open PySem PySem.Spec PyProof.Rows L2
abbrev rAddI : R2 := rI0 fun i j => .int (i + j)
abbrev rSubI : R2 := rI0 fun i j => .int (i - j)
abbrev rMulI : R2 := rI CMul fun i j => .int (i * j)
abbrev rFdivI : R2 := rI CDivW fun i j => .int (i / j)
abbrev rModI : R2 := rI (fun _ j => 0 < j) fun i j => .int (i % j)
abbrev rPowI : R2 := rI CPow fun i j => .int (i ^ j.toNat)
abbrev rLtI : R2 := rI0 fun i j => .bl (decide (i < j))
abbrev rLeI : R2 := rI0 fun i j => .bl (decide (i ≤ j))
abbrev rGtI : R2 := rI0 fun i j => .bl (decide (j < i))
abbrev rGeI : R2 := rI0 fun i j => .bl (decide (j ≤ i))
abbrev rIsNn : R2 := fun x y H Q => y = .non ∧ Q (.bl (decide (x = .non))) H
abbrev rNotNn : R2 := fun x y H Q => y = .non ∧ Q (.bl (!decide (x = .non))) H
abbrev rAddS : R2 := fun x y H Q => ∃ i j, x = .str i ∧ y = .str j ∧ i.length + j.length ≤ sizeLine ∧ Q (.str (i ++ j)) H
abbrev rInSg : R2 := fun x y H Q => ∃ (c : Nat) (z : Str), x = .str ⟨#[c]⟩ ∧ y = .str z ∧ Q (.bl (decide (c ∈ z.cps.toList))) H
abbrev rNiSg : R2 := fun x y H Q => ∃ (c : Nat) (z : Str), x = .str ⟨#[c]⟩ ∧ y = .str z ∧ Q (.bl (!decide (c ∈ z.cps.toList))) H
abbrev RC := List V → Hp → VK → Prop
abbrev RM := V → List V → Hp → VK → Prop
abbrev rAbs : RC := fun xs H Q => ∃ i, xs = [.int i] ∧ Q (.int (if i < 0 then -i else i)) H
abbrev rMax2 : RC := fun xs H Q => ∃ i j, xs = [.int i, .int j] ∧ Q (.int (if j > i then j else i)) H
abbrev rMin2 : RC := fun xs H Q => ∃ i j, xs = [.int i, .int j] ∧ Q (.int (if j < i then j else i)) H
abbrev rDivmod : RC := fun xs H Q => ∃ i j, xs = [.int i, .int j] ∧ CDivP i j ∧ ∀ p, H p = none → Q (.ref p) (upd H p (.tup [.int (i / j), .int (i % j)]))
theorem two200 : (2 : Nat) ^ 200 = 1606938044258990275541962092341162602522202993782792835301376 := by decide
theorem cdw {i j : Int} (h0 : 0 < j) (h1 : j ≤ 1000000000000000000000000000000000000000000000000000000000000) : CDivW i j := by
  refine wide_div (b := 200) h0 ?_ (by decide) (by decide)
  rw [two200]
  omega
theorem cdp {i j : Int} (h0 : 0 < j) (h1 : j ≤ 1000000000000000000000000000000000000000000000000000000000000) : CDivP i j := ⟨h0, PyProof.noPylong_of_log2 (cdw (i := i) h0 h1).2⟩
abbrev rLenSeq (K : PySem.W.Frag) : RC := fun xs H Q => ∃ p ys, xs = [.ref p] ∧ (SqL K H p ys ∨ SqT K H p ys) ∧ Q (.int ys.length) H
abbrev rLenStr : RC := fun xs H Q => ∃ z, xs = [.str z] ∧ z.length ≤ sizeLine ∧ Q (.int z.length) H
abbrev rLenDc : RC := fun xs H Q => ∃ a kvs, xs = [V.ref a] ∧ H a = some (.dK kvs) ∧ Q (.int kvs.length) H
abbrev rListOf (K : PySem.W.Frag) : RC := fun xs H Q => ∃ p ys, xs = [.ref p] ∧ (SqL K H p ys ∨ SqT K H p ys) ∧ ∀ l, H l = none → Q (.ref l) (upd H l (.lst ys))
abbrev rTupleOf (K : PySem.W.Frag) : RC := fun xs H Q => ∃ p ys, xs = [.ref p] ∧ ((SqL K H p ys ∧ ∀ l, H l = none → Q (.ref l) (upd H l (.tup ys))) ∨ (SqT K H p ys ∧ Q (.ref p) H))
abbrev rStrInt : RC := fun xs H Q => ∃ i, xs = [.int i] ∧ i.natAbs.log2 < 1920 ∧ Q (.str (toString i)) H
abbrev rInt1 : RC := fun xs H Q => (∃ i, xs = [.int i] ∧ Q (.int i) H) ∨ ∃ k, xs = [.bl k] ∧ Q (.int (if k then 1 else 0)) H
abbrev rIntStr : RC := fun xs H Q => ∃ a n, xs = [.str a] ∧ PySem.intText? a = some n ∧ a.length ≤ 640 ∧ Q (.int n) H
abbrev mJoin (K : PySem.W.Frag) : RM := fun x xs H Q => ∃ a p, ∃ ys : List Str, x = .str a ∧ xs = [.ref p] ∧ (SqL K H p (ys.map V.str) ∨ SqT K H p (ys.map V.str)) ∧
  (ys.map (·.length)).sum + ys.length * a.length ≤ 16777216 ∧ Q (.str (Txt.join a ys)) H
abbrev mPartition : RM := fun x xs H Q => ∃ a b, x = .str a ∧ xs = [.str b] ∧ (b.length == 0) = false ∧ a.length ≤ sizeLine ∧
  ∀ p, H p = none → Q (.ref p) (upd H p (.tup [.str (Txt.partition a b).1, .str (Txt.partition a b).2.1, .str (Txt.partition a b).2.2]))
abbrev mSplit : RM := fun x xs H Q => ∃ a b, x = .str a ∧ xs = [.str b] ∧ (b.length == 0) = false ∧ a.length + 2 ≤ sizeLine ∧ rNewStrs (Txt.split a b) H Q
abbrev mStarts : RM := fun x xs H Q => ∃ a b, x = .str a ∧ xs = [.str b] ∧ Q (.bl (Txt.startswith a b)) H
abbrev mEnds : RM := fun x xs H Q => ∃ a b, x = .str a ∧ xs = [.str b] ∧ Q (.bl (Txt.endswith a b)) H
abbrev rMulS : R2 := fun x y H Q => ∃ a n, x = .str a ∧ y = .int n ∧ MulOk a n ∧ Q (.str (Txt.mul a n)) H
theorem op_mulS {X : Cx} : OpR X (binaryOp .Mult) rMulS := by
  intro pins s σ H x y v u Q I rx ry h
  obtain ⟨a, n, rfl, rfl, ok, q⟩ := h
  obtain ⟨t, rfl⟩ := rx
  obtain ⟨t', rfl⟩ := ry
  exact SB.mul ok fun t2 k => ⟨.str _, H, I.tok k, ⟨t2, rfl⟩, q⟩

/-! ### d.keys() as a value; sorted(d.keys()) -/
def KeysO (p d : Addr) : HO := .ext fun h => PySem.W.KdlKeysView h p d
def tKeysV (td : TE) : TE := fun σ H Q => td σ H fun x H1 => ∃ d kvs, x = .ref d ∧ Rd H1 d (.dK kvs) ∧ ∀ p, H1 p = none → Q (.ref p) (upd H1 p (KeysO p d))
theorem pe_keysV {X : Cx} {e : Expr} {td : TE} {apos cpos : Pos} (he : PE X e td) (hbase : attributeBase e "keys" X.env (eval e X.env) = eval e X.env := by rfl) (hline : (apos.endLine == cpos.line) = true := by rfl) : PE X (.Call (.Attribute e "keys" apos) [] [] cpos) (tKeysV td) := by
  refine ⟨fun pins s σ H Q I h => ?_⟩
  refine wpAny_Call_method (T := "dict") (id := "dict.keys") hbase rfl hline F.plainAttrs_dict F.slot_dict_keys F.type_dict_keys (thn (he.run pins s σ H _ I h) fun u s1 ⟨x, H1, I1, rx, d, kvs, ex, hd, q⟩ => ?_)
  subst ex
  obtain rfl : u = Value.ref d := rx
  obtain ⟨z, hs, vs, rel, dd⟩ := dk_rd I1.hok hd
  refine ⟨dd.typeIs, dd.mapOf.noDict, ?_⟩
  have ho : (s1.heap.push { cls := .type "dict_keys", data := .fields #[.ref d] }).get? s1.heap.objs.size = some { cls := .type "dict_keys", data := .fields #[.ref d] } := Heap.get?_push_size _ rfl
  have I2 : Inv X pins σ (upd H1 s1.heap.objs.size (KeysO s1.heap.objs.size d)) { s1 with heap := s1.heap.push { cls := .type "dict_keys", data := .fields #[.ref d] } } :=
    I1.laid (t' := s1.toks) (fun b ob q => Heap.get?_push_of_some _ q) (Nat.le_refl _) ⟨⟨_, ho, rfl, rfl⟩, ⟨_, ho⟩, fun h1 h2 ⟨o, e1, e2⟩ k => ⟨o, k o e1, e2⟩⟩
  show wpAny _ _ (callWith cpos (.builtin "dict.keys") [.ref d] [] []) _ X.xe s1
  exact method_meetsIn F.slot_dict_keys F.entry_dict_keys rfl (PySem.evalArgs_none ⟨rfl, dd.typeIs, F.args_dict_keys_1 _, _, PySem.W.kdl_meets_keys (mixKind X.prog X.w) d hs, ⟨vs, dd⟩, ⟨.ref s1.heap.objs.size, _, I2, rfl, q _ (I1.hok.fresh (Nat.le_refl _))⟩⟩)
/-- sorted(d.keys()), fewer than 64 whole numbers -/
abbrev rSortedKV : RC := fun xs H Q => ∃ (a d : Addr) (kvs : List (Key × V)) (ks : List Int), xs = [.ref a] ∧ H a = some (KeysO a d) ∧ Rd H d (.dK kvs) ∧ kvs.map (·.1) = ks.map Sum.inl ∧ ks.length < 64 ∧
  ∀ (ys : List Int) (p : Addr), ys.Perm ks → ys.Pairwise (· ≤ ·) → H p = none → Q (.ref p) (upd H p (.lst (ys.map V.int)))
theorem call_sortedKV {X : Cx} (hcalm : X.calm = true) : CallR X (.builtin "sorted") rSortedKV := by
  intro pins s σ H xs us Q I r q
  obtain ⟨a, d, kvs, ks, ex, ha, hd, hks, h64, q⟩ := q
  subst ex
  obtain ⟨u, eu, rx⟩ := vals1 r
  subst eu
  cases rx
  obtain ⟨z, lo, vs, rel, dd⟩ := dk_rd I.hok hd
  obtain ⟨ep, hat⟩ := dd.dictAt
  obtain ⟨view, _, _⟩ := (show ObjOk X.prog X.w H s.heap a (KeysO a d) from I.hok a _ ha)
  have hkeys : vs.map (·.1) = ks.map Sum.inl := rel.keys.symm.trans hks
  have hl : vs.length = ks.length := by
    have e := congrArg List.length hkeys
    rw [List.length_map, List.length_map] at e
    exact e
  have h16 : vs.length ≤ sizeLine := by rw [hl, sizeLine_eq]; omega
  refine Calls.call_function_entry PyProof.Rows.kind_sorted PyProof.Rows.plain_sorted PyProof.Rows.entry_sorted (PyProof.Rows.args_sorted1 _) ?_
  unfold Builtin.«sorted»
  refine wpAny_bind (m := checkCount "sorted" 1 1 _) (wpAny_pure ?_)
  refine wpAny_bind (PySem.W.kdu_collect (A := X.A.in1) (PySem.W.kdl_keys (r := a) (d := d) (knd := mixKind X.prog X.w) (kvs := vs) (ep := ep)) (I.ok.hd hcalm) ⟨view, hat⟩ h16 fun h' tk acc hk hacc => ?_)
  have hal : acc.toList.length = ks.length := by rw [Array.length_toList, hacc.1, hl]
  have hS : IntsAre acc.toList ks := ints_each hal fun j v e => by
    obtain ⟨k, x, e1, e2⟩ := hacc.2 j v (by rw [← Array.getElem?_toList]; exact e)
    have e3 : (vs.map (·.1))[j]? = some k := by rw [List.getElem?_map, e1]; rfl
    rw [hkeys, List.getElem?_map] at e3
    cases e4 : ks[j]? with
    | none => rw [e4] at e3; cases e3
    | some y =>
      rw [e4] at e3
      have e5 : Sum.inl y = k := Option.some.inj e3
      subst e5
      rcases keyIs_shape (show keyIs (Sum.inl y) v = true from e2) with ⟨i, t, ek, ev⟩ | ⟨z, t, ek, ev⟩
      · cases ek
        exact ⟨y, t, rfl, ev⟩
      · cases ek
  have I1 : Inv X pins σ H { s with heap := h', toks := tk } := I.kept hk
  refine wpAny_bind (wpAny_newList ?_ (by rw [hal, sizeLine_eq]; omega))
  have hoL : (h'.push (seqObj "list" acc.toList.toArray 0)).get? h'.objs.size = some (seqObj "list" acc.toList.toArray 0) := Heap.get?_push_size _ rfl
  show wpAny _ _ _ _ _ { s with heap := h'.push (seqObj "list" acc.toList.toArray 0), toks := tk }
  refine wpAny_bind (wpAny_holding (wpAny_call_entry PyProof.Rows.slot_list_sort ⟨_, hoL, rfl⟩ PyProof.Rows.entry_list_sort
    (PyProof.Rows.list_sort_tree (s := { s with heap := h'.push (seqObj "list" acc.toList.toArray 0), toks := tk }) hoL hS (by rw [hal]; exact h64) fun out ys g1 g2 g3 => ⟨_, rfl, ?_⟩) (PyProof.Rows.args_list_sort _)))
  obtain ⟨e', he'⟩ := PyProof.Rows.sortedHeap_at (vs := acc.toList) (out := out) hoL
  have hlen : (ys.map V.int).length ≤ sizeLine := by
    rw [List.length_map, g2.length_eq]
    exact Nat.le_trans (Nat.le_of_lt h64) (by decide)
  refine wpAny_pure ⟨_, rfl, .ref h'.objs.size, upd H h'.objs.size (.lst (ys.map V.int)), I1.laid (t' := tk) (fun b u e => ?_) (Nat.le_refl _)
    (show ObjOk X.prog X.w _ _ _ (.lst (ys.map V.int)) from ⟨hlen, out.toList, e', vals_of_ints g1, by rw [Array.toArray_toList]; exact he'⟩), rfl, q ys _ g2 g3 (I1.hok.fresh (Nat.le_refl _))⟩
  have hb : b < h'.objs.size := Heap.lt_size e
  rw [PyProof.Rows.sortedHeap_old (Nat.ne_of_lt hb) (by rw [size_push']; exact Nat.lt_succ_of_lt hb)]
  exact Heap.get?_push_of_some _ e

/-! ### errors -/
theorem psL {X : Cx} : ∀ σ, PassesAt (L2.CX X.prog X.w) X σ (ES0 σ) := fun _ _ _ _ _ _ _ h => by
  obtain ⟨_, _, _, _, _, _, _, _, _, _, _, _, z⟩ := h
  exact z.elim
def errNames : List Str := ["NoName", "BadKind", "NoText", "NoPerson", "Taken", "NoKind", "NoMatter", "NoThing", "NoWay", "NoRows", "NoDay", "NoHold", "NoTelling", "NoAnswer", "Answered"]
def excB (K : PySem.W.Frag) (D : Addr) : Bool :=
  He.eqO (PySem.W.findIn K (.ref D) "__getattribute__") (some (some (.builtin "BaseException.__getattribute__"))) && (He.eqO (PySem.W.findIn K (.ref D) "__getattr__") (some none) &&
  (decide (PySem.W.subIn K (.ref D) (.type "BaseException") = some true) && (PySem.W.hasDictIn K D && (He.eqO (PySem.W.findIn K (.ref D) "__class__") (some (some (.builtin "object.__class__"))) &&
  (He.eqO (PySem.W.specialIn K (.builtin "object.__class__") "__get__") (some (some (.builtin "getset_descriptor.__get__"))) && (decide (PySem.W.takesIn K (.builtin "object.__class__") = some true) && decide (PySem.W.mroIn K D (.type "object") = some true)))))))
theorem excB_ok {K : PySem.W.Frag} {D : Addr} (h : excB K D = true) : ExcC K D := by
  obtain ⟨h1, h⟩ := He.ba h
  obtain ⟨h2, h⟩ := He.ba h
  obtain ⟨h3, h⟩ := He.ba h
  obtain ⟨h4, h⟩ := He.ba h
  obtain ⟨h5, h⟩ := He.ba h
  obtain ⟨h6, h⟩ := He.ba h
  obtain ⟨h7, h8⟩ := He.ba h
  exact ⟨He.eqO_ok h1, He.eqO_ok h2, of_decide_eq_true h3, h4, He.eqO_ok h5, He.eqO_ok h6, of_decide_eq_true h7, of_decide_eq_true h8⟩
/-- what is told of the error classes -/
structure ErrK (K : PySem.W.Frag) : Prop where
  exc : ∀ x ∈ errNames, ExcC K (He.ga K x)
  exm : ∀ x ∈ errNames, PySem.W.exmOne K (.ref (He.ga K x)) (.ref (He.ga K "HallError")) = some true
  kit : ∀ x ∈ errNames, ∀ y ∈ errNames, PySem.W.kitOne K (.ref (He.ga K x)) (.ref (He.ga K y)) = some (decide (x = y))
  kitH : ∀ x ∈ errNames, PySem.W.kitOne K (.ref (He.ga K x)) (.ref (He.ga K "HallError")) = some true
  kitV : ∀ x ∈ errNames, PySem.W.kitOne K (.ref (He.ga K x)) (.type "ValueError") = some true
def errB (K : PySem.W.Frag) : Bool := errNames.all fun x => excB K (He.ga K x) && (decide (PySem.W.exmOne K (.ref (He.ga K x)) (.ref (He.ga K "HallError")) = some true) &&
  ((errNames.all fun y => decide (PySem.W.kitOne K (.ref (He.ga K x)) (.ref (He.ga K y)) = some (decide (x = y)))) && (decide (PySem.W.kitOne K (.ref (He.ga K x)) (.ref (He.ga K "HallError")) = some true) && decide (PySem.W.kitOne K (.ref (He.ga K x)) (.type "ValueError") = some true))))
theorem errB_ok {K : PySem.W.Frag} (h : errB K = true) : ErrK K := by
  have h1 := List.all_eq_true.mp h
  refine ⟨fun x hx => excB_ok (He.ba (h1 x hx)).1, fun x hx => of_decide_eq_true (He.ba (He.ba (h1 x hx)).2).1, fun x hx y hy => ?_, fun x hx => ?_, fun x hx => ?_⟩
  · exact of_decide_eq_true (List.all_eq_true.mp (He.ba (He.ba (He.ba (h1 x hx)).2).2).1 y hy)
  · exact of_decide_eq_true (He.ba (He.ba (He.ba (He.ba (h1 x hx)).2).2).2).1
  · exact of_decide_eq_true (He.ba (He.ba (He.ba (He.ba (h1 x hx)).2).2).2).2
end U

set_option Elab.async false
set_option linter.all false
set_option maxRecDepth 100000
set_option maxHeartbeats 4000000
/-! Helpers for the readings: what stays, comprehensions whose element leaves the heap alone, texts, types. -/
namespace U
open PySem PySem.Spec PyProof.Rows L2

/-! ### what stays -/
/-- all that was tracked stays, but what stands at l -/
structure Keep (l : List Addr) (H H' : Hp) : Prop where
  k : ∀ b o, H b = some o → b ∉ l → H' b = some o
theorem Keep.refl {l : List Addr} {H : Hp} : Keep l H H := ⟨fun _ _ h _ => h⟩
theorem Keep.trans {l : List Addr} {H H1 H2 : Hp} (a : Keep l H H1) (b : Keep l H1 H2) : Keep l H H2 := ⟨fun c o h n => b.k c o (a.k c o h n) n⟩
theorem Keep.same {l : List Addr} {H H1 : Hp} (a : Same H H1) : Keep l H H1 := ⟨fun c o h _ => a c o h⟩
theorem Keep.mono {l l' : List Addr} {H H1 : Hp} (a : Keep l H H1) (h : ∀ x, x ∈ l → x ∈ l') : Keep l' H H1 := ⟨fun c o e n => a.k c o e fun z => n (h c z)⟩
theorem Keep.put {l : List Addr} {H H1 : Hp} {p : Addr} {o : HO} (a : Keep l H H1) (h : p ∈ l) : Keep l H (upd H1 p o) := ⟨fun c u e n => by
  have z : c ≠ p := fun z => n (by rw [z]; exact h)
  rw [upd_ne z]
  exact a.k c u e n⟩
theorem Keep.new {l : List Addr} {H H1 : Hp} {p : Addr} {o : HO} (a : Keep l H H1) (h : H p = none) : Keep l H (upd H1 p o) := ⟨fun c u e n => by
  rw [upd_ne (ne_of_none e h)]
  exact a.k c u e n⟩
theorem Keep.free {l : List Addr} {H H1 : Hp} {p : Addr} (a : Keep l H H1) (n : p ∉ l) (h : H1 p = none) : H p = none := by
  cases e : H p with
  | none => rfl
  | some o =>
    rw [a.k p o e n] at h
    cases h
/-- what wasn't there ahead may be changed: all as before -/
theorem Keep.drop {p : Addr} {H0 H H1 : Hp} (a : Keep [p] H H1) (s : Same H0 H) (n : H0 p = none) : Same H0 H1 := fun c o e => a.k c o (s c o e) (by
  intro z
  rw [List.mem_singleton.mp z, n] at e
  cases e)
theorem Keep.seq {K : PySem.W.Frag} {l : List Addr} {H H1 : Hp} {a : Addr} {xs : List V} (k : Keep l H H1) (n : a ∉ l) (h : SqL K H a xs) : SqL K H1 a xs := by
  rcases h with (h | ⟨o, h⟩) | h
  · exact .inl (.inl (k.k _ _ h n))
  · exact .inl (.inr ⟨o, k.k _ _ h n⟩)
  · exact .inr h
theorem same_new {H : Hp} {p : Addr} {o : HO} (h : H p = none) : Same H (upd H p o) := fun c u e => by
  rw [upd_ne (ne_of_none e h)]
  exact e
theorem Same.new {H H1 : Hp} {p : Addr} {o : HO} (a : Same H H1) (h : H1 p = none) : Same H (upd H1 p o) := a.trans (same_new h)
theorem _root_.L2.Same.new {H H1 : Hp} {p : Addr} {o : HO} (a : Same H H1) (h : H1 p = none) : Same H (upd H1 p o) := a.trans (same_new h)
/-- an object that H doesn't know may change -/
theorem Same.mut {H H1 : Hp} {p : Addr} {o : HO} (a : Same H H1) (h : H p = none) : Same H (upd H1 p o) := fun c u e => by
  rw [upd_ne (ne_of_none e h)]
  exact a c u e
theorem seq_upd {K : PySem.W.Frag} {H : Hp} {a p : Addr} {xs : List V} {o : HO} (h : SqL K H a xs) (n : H p = none) : SqL K (upd H p o) a xs := (same_new n).seq h
theorem Same.seqT {K : PySem.W.Frag} {H H' : Hp} {a : Addr} {xs : List V} (e : Same H H') (h : SqT K H a xs) : SqT K H' a xs := by
  rcases h with (h | ⟨o, h⟩) | h
  · exact .inl (.inl (e _ _ h))
  · exact .inl (.inr ⟨o, e _ _ h⟩)
  · exact .inr h

/-! ### slots -/
theorem wipe1 {σ : L2.St} {j : Nat} {v : Option V} : wipe ((wipe σ [j]).set j v) [j] = wipe σ [j] := by
  show ((σ.set j none).set j v).set j none = σ.set j none
  rw [List.set_set, List.set_set]

/-! ### comprehensions whose test and element leave the heap alone -/
section
variable {K : PySem.W.Frag} {tt : TT} {te : TE} {σ : L2.St} {H1 : Hp} {D : Addr} {Q : Hp → Prop} {j : Nat}
/-- over a text -/
theorem lc_str {x : Str} {g : TG} {vs : List Nat} (Pv : Nat → Hp → Prop) (h0 : Pv 0 (upd H1 D (.lst [])))
    (hs : ∀ i c H, x.cps[i]? = some c → Pv i H → g (.str ⟨#[c]⟩) (wipe σ vs) H fun σ2 H2 => wipe σ2 vs = wipe σ vs ∧ tt σ2 H2 fun b H3 =>
      if b = true then te σ2 H3 fun y H4 => ∃ acc, H4 D = some (.lst acc) ∧ acc.length < sizeLine ∧ Pv (i + 1) (upd H4 D (.lst (acc ++ [y]))) else Pv (i + 1) H3) (hd : ∀ H, Pv x.cps.size H → Q H) :
    ∃ W : Nat → Nat → Hp → Prop, (∃ m, W 0 m (upd H1 D (.lst []))) ∧ ∀ i m H, W i m H →
      ((Its x).stop i H ∧ Q H) ∨ ((Its x).go i H ∧ ∃ Nx : Hp → Prop, (∀ H', Nx H' → ∃ m', m' < m ∧ W (i + 1) m' H') ∧ ∀ y H', (Its x).yld i H y H' → g y (wipe σ vs) H' fun σ2 H2 => wipe σ2 vs = wipe σ vs ∧ tt σ2 H2 fun b H3 =>
        if b = true then te σ2 H3 fun y H4 => ∃ acc, H4 D = some (.lst acc) ∧ acc.length < sizeLine ∧ Nx (upd H4 D (.lst (acc ++ [y]))) else Nx H3) := by
  refine ⟨fun i m H => m = x.cps.size - i ∧ i ≤ x.cps.size ∧ Pv i H, ⟨x.cps.size, by simp, Nat.zero_le _, h0⟩, ?_⟩
  rintro i m H ⟨rfl, hi, p⟩
  by_cases hlt : i < x.cps.size
  · refine .inr ⟨hlt, Pv (i + 1), fun H' p' => ⟨x.cps.size - (i + 1), by omega, rfl, hlt, p'⟩, fun y H' z => ?_⟩
    obtain ⟨e, c, hc, rfl⟩ := z
    subst e
    exact hs i c _ hc p
  · have e : i = x.cps.size := by omega
    subst e
    exact .inl ⟨Nat.le_refl _, hd H p⟩
theorem take_snoc {α : Type} {l : List α} {i : Nat} {x : α} (h : l[i]? = some x) : l.take (i + 1) = l.take i ++ [x] := by
  rw [List.take_add_one, h]
  rfl
theorem lcs_fm {x : Str} (p : Nat → Bool) (f : Nat → V) (hx : x.cps.size ≤ 1000000)
    (ht : ∀ c acc (R : Bool → Hp → Prop), c ∈ x.cps.toList → R (p c) (upd H1 D (.lst acc)) → tt ((wipe σ [j]).set j (some (.str ⟨#[c]⟩))) (upd H1 D (.lst acc)) R)
    (he : ∀ c acc (R : VK), c ∈ x.cps.toList → p c = true → R (f c) (upd H1 D (.lst acc)) → te ((wipe σ [j]).set j (some (.str ⟨#[c]⟩))) (upd H1 D (.lst acc)) R)
    (hd : Q (upd H1 D (.lst ((x.cps.toList.filter p).map f)))) :
    ∃ W : Nat → Nat → Hp → Prop, (∃ m, W 0 m (upd H1 D (.lst []))) ∧ ∀ i m H, W i m H →
      ((Its x).stop i H ∧ Q H) ∨ ((Its x).go i H ∧ ∃ Nx : Hp → Prop, (∀ H', Nx H' → ∃ m', m' < m ∧ W (i + 1) m' H') ∧ ∀ y H', (Its x).yld i H y H' → gName j y (wipe σ [j]) H' fun σ2 H2 => wipe σ2 [j] = wipe σ [j] ∧ tt σ2 H2 fun b H3 =>
        if b = true then te σ2 H3 fun y H4 => ∃ acc, H4 D = some (.lst acc) ∧ acc.length < sizeLine ∧ Nx (upd H4 D (.lst (acc ++ [y]))) else Nx H3) := by
  refine lc_str (g := gName j) (vs := [j]) (fun i H => H = upd H1 D (.lst (((x.cps.toList.take i).filter p).map f))) (by simp) (fun i c H hc e => ?_) (fun H e => ?_)
  · subst e
    have hc' : x.cps.toList[i]? = some c := by rw [Array.getElem?_toList]; exact hc
    have hm : c ∈ x.cps.toList := List.mem_of_getElem? hc'
    refine ⟨wipe1, ht c _ _ hm ?_⟩
    have hlen : (((x.cps.toList.take i).filter p).map f).length < sizeLine := by
      rw [List.length_map, sizeLine_eq]
      have h1 := List.length_filter_le p (x.cps.toList.take i)
      rw [List.length_take] at h1
      have h2 : i < x.cps.toList.length := (List.getElem?_eq_some_iff.mp hc').1
      rw [Array.length_toList] at h2
      omega
    by_cases hp : p c = true
    · rw [hp]
      refine iteT (he c _ _ hm hp ⟨_, upd_same, hlen, ?_⟩)
      rw [upd_upd, take_snoc hc', List.filter_append, List.map_append]
      simp [hp]
    · have hp' : p c = false := by simpa using hp
      rw [hp']
      refine iteF ?_
      rw [take_snoc hc', List.filter_append, List.map_append]
      simp [hp']
  · rw [e, ← Array.length_toList, List.take_length]
    exact hd
/-- over a list -/
theorem lcl_fm {a : Addr} {xs : List V} (p : V → Bool) (f : V → V) (hs : SqL K H1 a xs) (hD : H1 D = none) (hx : xs.length ≤ 1000000)
    (ht : ∀ v acc (R : Bool → Hp → Prop), v ∈ xs → R (p v) (upd H1 D (.lst acc)) → tt ((wipe σ [j]).set j (some v)) (upd H1 D (.lst acc)) R)
    (he : ∀ v acc (R : VK), v ∈ xs → p v = true → R (f v) (upd H1 D (.lst acc)) → te ((wipe σ [j]).set j (some v)) (upd H1 D (.lst acc)) R)
    (hd : Q (upd H1 D (.lst ((xs.filter p).map f)))) :
    ∃ W : Nat → Nat → Hp → Prop, (∃ m, W 0 m (upd H1 D (.lst []))) ∧ ∀ i m H, W i m H →
      ((Itl K a).stop i H ∧ Q H) ∨ ((Itl K a).go i H ∧ ∃ Nx : Hp → Prop, (∀ H', Nx H' → ∃ m', m' < m ∧ W (i + 1) m' H') ∧ ∀ y H', (Itl K a).yld i H y H' → gName j y (wipe σ [j]) H' fun σ2 H2 => wipe σ2 [j] = wipe σ [j] ∧ tt σ2 H2 fun b H3 =>
        if b = true then te σ2 H3 fun y H4 => ∃ acc, H4 D = some (.lst acc) ∧ acc.length < sizeLine ∧ Nx (upd H4 D (.lst (acc ++ [y]))) else Nx H3) := by
  refine lc_list (g := gName j) (vs := [j]) (xs := xs) (fun i H => H = upd H1 D (.lst (((xs.take i).filter p).map f))) (by simp) (fun i H _ e => by rw [e]; exact seq_upd hs hD) (fun i c H hc e => ?_) (fun H e => ?_)
  · subst e
    have hm : c ∈ xs := List.mem_of_getElem? hc
    refine ⟨wipe1, ht c _ _ hm ?_⟩
    have hlen : (((xs.take i).filter p).map f).length < sizeLine := by
      rw [List.length_map, sizeLine_eq]
      have h1 := List.length_filter_le p (xs.take i)
      rw [List.length_take] at h1
      have h2 : i < xs.length := (List.getElem?_eq_some_iff.mp hc).1
      omega
    by_cases hp : p c = true
    · rw [hp]
      refine iteT (he c _ _ hm hp ⟨_, upd_same, hlen, ?_⟩)
      rw [upd_upd, take_snoc hc, List.filter_append, List.map_append]
      simp [hp]
    · have hp' : p c = false := by simpa using hp
      rw [hp']
      refine iteF ?_
      rw [take_snoc hc, List.filter_append, List.map_append]
      simp [hp']
  · rw [e, List.take_length]
    exact hd
theorem lcs_m {x : Str} (f : Nat → V) (hx : x.cps.size ≤ 1000000)
    (he : ∀ c acc (R : VK), c ∈ x.cps.toList → R (f c) (upd H1 D (.lst acc)) → te ((wipe σ [j]).set j (some (.str ⟨#[c]⟩))) (upd H1 D (.lst acc)) R)
    (hd : Q (upd H1 D (.lst (x.cps.toList.map f)))) :
    ∃ W : Nat → Nat → Hp → Prop, (∃ m, W 0 m (upd H1 D (.lst []))) ∧ ∀ i m H, W i m H →
      ((Its x).stop i H ∧ Q H) ∨ ((Its x).go i H ∧ ∃ Nx : Hp → Prop, (∀ H', Nx H' → ∃ m', m' < m ∧ W (i + 1) m' H') ∧ ∀ y H', (Its x).yld i H y H' → gName j y (wipe σ [j]) H' fun σ2 H2 => wipe σ2 [j] = wipe σ [j] ∧ tYes σ2 H2 fun b H3 =>
        if b = true then te σ2 H3 fun y H4 => ∃ acc, H4 D = some (.lst acc) ∧ acc.length < sizeLine ∧ Nx (upd H4 D (.lst (acc ++ [y]))) else Nx H3) := by
  refine lcs_fm (fun _ => true) f hx (fun c acc R _ r => r) (fun c acc R hc _ r => he c acc R hc r) ?_
  rw [List.filter_eq_self.mpr (fun _ _ => rfl)]
  exact hd
theorem lcl_m {a : Addr} {xs : List V} (f : V → V) (hs : SqL K H1 a xs) (hD : H1 D = none) (hx : xs.length ≤ 1000000)
    (he : ∀ v acc (R : VK), v ∈ xs → R (f v) (upd H1 D (.lst acc)) → te ((wipe σ [j]).set j (some v)) (upd H1 D (.lst acc)) R)
    (hd : Q (upd H1 D (.lst (xs.map f)))) :
    ∃ W : Nat → Nat → Hp → Prop, (∃ m, W 0 m (upd H1 D (.lst []))) ∧ ∀ i m H, W i m H →
      ((Itl K a).stop i H ∧ Q H) ∨ ((Itl K a).go i H ∧ ∃ Nx : Hp → Prop, (∀ H', Nx H' → ∃ m', m' < m ∧ W (i + 1) m' H') ∧ ∀ y H', (Itl K a).yld i H y H' → gName j y (wipe σ [j]) H' fun σ2 H2 => wipe σ2 [j] = wipe σ [j] ∧ tYes σ2 H2 fun b H3 =>
        if b = true then te σ2 H3 fun y H4 => ∃ acc, H4 D = some (.lst acc) ∧ acc.length < sizeLine ∧ Nx (upd H4 D (.lst (acc ++ [y]))) else Nx H3) := by
  refine lcl_fm (fun _ => true) f hs hD hx (fun c acc R _ r => r) (fun c acc R hc _ r => he c acc R hc r) ?_
  rw [List.filter_eq_self.mpr (fun _ _ => rfl)]
  exact hd
end

/-! ### data -/
theorem dpAll_ints {K : PySem.W.Frag} {H : Hp} : ∀ ns : List Int, DpAll K H (ns.map V.int) (ns.map PyData.int)
  | [] => .nil
  | n :: r => .cons (.int n) (dpAll_ints r)
theorem dpAll_strs {K : PySem.W.Frag} {H : Hp} : ∀ ns : List Str, DpAll K H (ns.map V.str) (ns.map PyData.str)
  | [] => .nil
  | n :: r => .cons (.str n) (dpAll_strs r)

theorem strOk_of {z : Str} (h : ∀ c ∈ z.cps.toList, c < 1114112) : PyData.strOk z = true := by
  unfold PyData.strOk
  rw [← Array.all_toList]
  exact List.all_eq_true.mpr fun c hc => decide_eq_true (h c hc)
theorem canLay_strs : ∀ {l : List Str}, (∀ z ∈ l, ∀ c ∈ z.cps.toList, c < 1114112) → PyData.canLayAll0 (l.map PyData.str) = true
  | [], _ => rfl
  | z :: r, h => by
    show (PyData.strOk z && PyData.canLayAll0 (r.map PyData.str)) = true
    rw [strOk_of (h z (List.mem_cons_self ..)), canLay_strs fun y hy => h y (List.mem_cons_of_mem _ hy)]
    rfl
theorem depth_strs : ∀ l : List Str, PyData.depthAll (l.map PyData.str) = 0
  | [] => by simp [PyData.depthAll]
  | z :: r => by
    rw [List.map_cons, PyData.depthAll, depth_strs r]
    simp [PyData.depth]
theorem shaped_strs {l : List Str} (h : ∀ z ∈ l, ∀ c ∈ z.cps.toList, c < 1114112) : SeqAt.shaped (.list (l.map PyData.str)) = true := by
  unfold SeqAt.shaped
  have e1 : PyData.canLay0 (.list (l.map PyData.str)) = true := canLay_strs h
  have e2 : PyData.depth (.list (l.map PyData.str)) = 1 := by rw [PyData.depth, depth_strs]
  rw [e1, e2]
  rfl
theorem canLay_ints : ∀ l : List Int, PyData.canLayAll0 (l.map PyData.int) = true
  | [] => rfl
  | z :: r => by
    show (true && PyData.canLayAll0 (r.map PyData.int)) = true
    rw [canLay_ints r]
    rfl
theorem depth_ints : ∀ l : List Int, PyData.depthAll (l.map PyData.int) = 0
  | [] => by simp [PyData.depthAll]
  | z :: r => by
    rw [List.map_cons, PyData.depthAll, depth_ints r]
    simp [PyData.depth]
theorem shaped_ints (l : List Int) : SeqAt.shaped (.list (l.map PyData.int)) = true := by
  unfold SeqAt.shaped
  have e1 : PyData.canLay0 (.list (l.map PyData.int)) = true := canLay_ints l
  have e2 : PyData.depth (.list (l.map PyData.int)) = 1 := by rw [PyData.depth, depth_ints]
  rw [e1, e2]
  rfl
theorem eqv_nil (xs : List PyData) : PyData.eqv (.list xs) (.list []) = xs.isEmpty := by
  rw [PyData.eqv]
  cases xs with
  | nil => simp [PyData.eqvAll]
  | cons x r => simp [PyData.eqvAll]

/-! ### the letters -/
abbrev abc : Str := "abcdefghijklmnopqrstuvwxyz"
theorem abc_len : abc.cps.toList.length = 26 := by decide +kernel
theorem abc_size : abc.length = 26 := by decide +kernel

theorem abc_at {d : Int} (h0 : 0 ≤ d) (h1 : d < 26) : ∃ c, atI abc.cps.toList d = some c ∧ c ∈ abc.cps.toList := by
  obtain ⟨j, rfl⟩ : ∃ j : Nat, d = (j : Int) := ⟨d.toNat, by omega⟩
  have hj : j < abc.cps.toList.length := by rw [abc_len]; omega
  exact ⟨abc.cps.toList[j], atI_nat (List.getElem?_eq_getElem hj), List.getElem_mem hj⟩
/-- an item of a written text at a place within -/
theorem str_at {z : Str} {n : Nat} (hn : z.cps.toList.length = n) {d : Int} (h0 : 0 ≤ d) (h1 : d < n) : ∃ c, atI z.cps.toList d = some c ∧ c ∈ z.cps.toList := by
  obtain ⟨j, rfl⟩ : ∃ j : Nat, d = (j : Int) := ⟨d.toNat, by omega⟩
  have hj : j < z.cps.toList.length := by omega
  exact ⟨z.cps.toList[j], atI_nat (List.getElem?_eq_getElem hj), List.getElem_mem hj⟩
theorem joinL_one : ∀ cs : List Nat, TL.joinL [] (cs.map fun c => [c]) = cs
  | [] => rfl
  | [c] => rfl
  | c :: d :: r => by
    show [c] ++ ([] ++ TL.joinL [] ((d :: r).map fun c => [c])) = c :: d :: r
    rw [joinL_one (d :: r)]
    rfl
/-- "".join of single signs -/
theorem join_signs (cs : List Nat) : Txt.join "" (cs.map fun c => (⟨#[c]⟩ : Str)) = SX.S cs := by
  have e := SX.join_S [] (cs.map fun c => [c])
  rw [joinL_one, List.map_map] at e
  exact e
theorem signs_len : ∀ cs : List Nat, ((cs.map fun c => (⟨#[c]⟩ : Str)).map (·.length)).sum = cs.length
  | [] => rfl
  | c :: r => by
    rw [List.map_cons, List.map_cons, List.sum_cons, signs_len r, List.length_cons]
    show 1 + r.length = r.length + 1
    omega

/-! ### names -/
def isNmS (z : Str) : Bool := decide (1 ≤ z.length) && decide (z.length ≤ 8) && z.cps.toList.all fun c => decide (c ∈ abc.cps.toList)
def isNm : V → Bool
  | .str z => isNmS z
  | _ => false

/-! ### a value whose type is known -/
structure TxOk (z : Str) : Prop where
  len : z.length ≤ 100000
  ok : ∀ c ∈ z.cps.toList, c < 1114112
def isStrV : V → Bool
  | .str _ => true
  | _ => false
/-- a text in bounds, or something of a built-in type that is no text -/
def Kn (K : PySem.W.Frag) (H : Hp) (v : V) : Prop := (∃ z, v = .str z ∧ TxOk z) ∨ (isStrV v = false ∧ ∃ T : String, TyX K H v (.type T) ∧ T ∈ ["int", "bool", "NoneType", "list", "tuple", "dict"])
theorem _root_.L2.TyX.same {K : PySem.W.Frag} {H H' : Hp} {v : V} {t : Value} (s : Same H H') (h : TyX K H v t) : TyX K H' v t := by
  cases h with
  | base h =>
    cases h with
    | non => exact .base .non
    | bl x => exact .base (.bl x)
    | int i => exact .base (.int i)
    | str x => exact .base (.str x)
    | flt x => exact .base (.flt x)
    | lst e => exact .base (.lst (s _ _ e))
    | frz e => exact .base (.frz (s _ _ e))
    | tup e => exact .base (.tup (s _ _ e))
    | dK e => exact .base (.dK (s _ _ e))
    | dT e => exact .base (.dT (s _ _ e))
    | ins e cl ha hn htk hm => exact .base (.ins (s _ _ e) cl ha hn htk hm)
  | byt b => exact .byt b
  | set e => exact .set (s _ _ e)
  | kList e c => exact .kList e c
  | kTuple e c => exact .kTuple e c
  | kDict e c => exact .kDict e c
  | fTuple e => exact .fTuple (s _ _ e)
  | fDict e => exact .fDict (s _ _ e)
theorem Kn.same {K : PySem.W.Frag} {H H' : Hp} {v : V} (s : Same H H') (h : Kn K H v) : Kn K H' v := by
  rcases h with h | ⟨h1, T, h2, h3⟩
  · exact .inl h
  · exact .inr ⟨h1, T, TyX.same s h2, h3⟩
theorem kit_str {T : String} (h : T ∈ ["int", "bool", "NoneType", "list", "tuple", "dict"]) : kitB T "str" = some false := by
  simp only [List.mem_cons, List.not_mem_nil, or_false] at h
  rcases h with rfl | rfl | rfl | rfl | rfl | rfl <;> decide +kernel
theorem kit_str_str : kitB "str" "str" = some true := by decide +kernel
section
variable {K : PySem.W.Frag} {H : Hp}
theorem Kn.str {z : Str} (h : TxOk z) : Kn K H (.str z) := .inl ⟨z, rfl, h⟩
theorem Kn.int (i : Int) : Kn K H (.int i) := .inr ⟨rfl, "int", .base (.int i), by simp⟩
theorem Kn.bl (b : Bool) : Kn K H (.bl b) := .inr ⟨rfl, "bool", .base (.bl b), by simp⟩
theorem Kn.non : Kn K H .non := .inr ⟨rfl, "NoneType", .base .non, by simp⟩
theorem Kn.lst {a : Addr} {xs : List V} (h : H a = some (.lst xs)) : Kn K H (.ref a) := .inr ⟨rfl, "list", .base (.lst h), by simp⟩
theorem Kn.tup {a : Addr} {xs : List V} (h : H a = some (.tup xs)) : Kn K H (.ref a) := .inr ⟨rfl, "tuple", .base (.tup h), by simp⟩
theorem Kn.dct {a : Addr} {kvs : List (Key × V)} (h : H a = some (.dK kvs)) : Kn K H (.ref a) := .inr ⟨rfl, "dict", .base (.dK h), by simp⟩
end
/-- isinstance(v, str): the type and the answer -/
theorem Kn.isS (K : PySem.W.Frag) {H : Hp} {v : V} (kn : Kn K H v) : ∃ T : String, TyX K H v (.type T) ∧ PySem.W.kitOne K (.type T) (.type "str") = some (isStrV v) := by
  rcases kn with ⟨z, rfl, h⟩ | ⟨h1, T, ty, ht⟩
  · exact ⟨_, .base (.str z), kit_ty kit_str_str⟩
  · exact ⟨T, ty, by rw [h1]; exact kit_ty (kit_str ht)⟩
theorem Kn.tx {K : PySem.W.Frag} {H : Hp} {z : Str} (kn : Kn K H (.str z)) : TxOk z := by
  rcases kn with ⟨z', e, h⟩ | ⟨h1, _⟩
  · cases e
    exact h
  · cases h1
theorem isNm_notStr {v : V} (h : isStrV v = false) : isNm v = false := by
  cases v with
  | str z => cases h
  | _ => rfl
theorem isStrV_str {v : V} (h : isStrV v = true) : ∃ z, v = .str z := by
  cases v with
  | str z => exact ⟨z, rfl⟩
  | _ => cases h
theorem isNm_str {v : V} (h : isNm v = true) : ∃ z, v = .str z := by
  cases v with
  | str z => exact ⟨z, rfl⟩
  | _ => cases h
theorem TxOk.cut {z : Str} (h : TxOk z) (lo hi : Option Int) : TxOk (cutS z lo hi) := ⟨Nat.le_trans (cutS_length z lo hi) h.1, fun c hc => h.2 c (List.mem_of_mem_drop (List.mem_of_mem_take (by simpa [cutS] using hc)))⟩
theorem str_cat_toList (a b : Str) : (a ++ b).cps.toList = a.cps.toList ++ b.cps.toList := TL.tl_append a b
theorem str_cat_len (a b : Str) : (a ++ b).length = a.length + b.length := by
  have e := congrArg List.length (str_cat_toList a b)
  rw [List.length_append] at e
  simpa [Str.length] using e
theorem TxOk.cat {a b : Str} {n m : Nat} (ha : TxOk a) (hb : TxOk b) (la : a.length ≤ n) (lb : b.length ≤ m) (h : n + m ≤ 100000) : TxOk (a ++ b) := ⟨by rw [str_cat_len]; omega, fun c hc => by
  rw [str_cat_toList] at hc
  rcases List.mem_append.mp hc with hc | hc
  · exact ha.2 c hc
  · exact hb.2 c hc⟩
theorem one_ok {c : Nat} (h : c < 1114112) : TxOk ⟨#[c]⟩ := ⟨(by show 1 ≤ 100000; decide), fun d hd => by
  have e : d = c := by simpa using hd
  rw [e]
  exact h⟩
theorem nil_ok : TxOk "" := ⟨Nat.zero_le _, fun c hc => by
  have e0 : ("" : Str).cps.toList = [] := by decide +kernel
  rw [e0] at hc
  cases hc⟩

/-! ### errors, by their names -/
theorem clsv_errs (K : PySem.W.Frag) : ∀ ys : List Str, Paired ClsV (ys.map fun y => V.ref (He.ga K y)) (ys.map fun y => Value.ref (He.ga K y))
  | [] => .nil
  | y :: r => .cons (.own _) (clsv_errs K r)
theorem kitAny_errs {K : PySem.W.Frag} (EK : ErrK K) {x : Str} (hx : x ∈ errNames) : ∀ ys : List Str, (∀ y ∈ ys, y ∈ errNames) → PySem.W.kitAny K (.ref (He.ga K x)) (ys.map fun y => Value.ref (He.ga K y)) = some (ys.any fun y => decide (x = y))
  | [], _ => rfl
  | y :: r, h => by
    have ih := kitAny_errs EK hx r fun z hz => h z (List.mem_cons_of_mem _ hz)
    have h1 := EK.kit x hx y (h y (List.mem_cons_self ..))
    refine kitAny_cons (b := decide (x = y)) h1 (fun e => ?_) (fun e => ?_)
    · show PySem.W.kitAny K (.ref (He.ga K x)) (r.map fun y => Value.ref (He.ga K y)) = some (decide (x = y) || r.any fun y => decide (x = y))
      rw [ih, e]
      rfl
    · show (decide (x = y) || r.any fun y => decide (x = y)) = true
      rw [e]
      rfl

/-! ### all but one object -/
def off (p : Addr) (H : Hp) : Hp := fun b => if b = p then none else H b
theorem off_at {p b : Addr} {H : Hp} {o : HO} (h : H b = some o) (n : b ≠ p) : off p H b = some o := by
  unfold off
  rw [if_neg n]
  exact h
theorem off_same {p : Addr} {H : Hp} : Same (off p H) H := fun b o h => by
  unfold off at h
  split at h
  · cases h
  · exact h
theorem Keep.off {p : Addr} {H H' : Hp} (k : Keep [p] H H') : Same (off p H) (U.off p H') := fun b o h => by
  have n : b ≠ p := fun e => by
    unfold U.off at h
    rw [if_pos e] at h
    cases h
  exact off_at (k.k b o (off_same _ _ h) (by simp [n])) n
theorem off_of_same {p : Addr} {H H' : Hp} (s : Same H H') : Same (off p H) (off p H') := (Keep.same s).off

/-! ### data in the heap -/
mutual
theorem Dp.same {K : PySem.W.Frag} {H H' : Hp} (s : Same H H') : ∀ {v : V} {d : PyData}, Dp K H v d → Dp K H' v d
  | _, _, .non => .non
  | _, _, .bl b => .bl b
  | _, _, .int i => .int i
  | _, _, .str x => .str x
  | _, _, .lst h hs => .lst (s.seq h) (DpAll.same s hs)
  | _, _, .tup h hs => .tup (Same.seqT s h) (DpAll.same s hs)
theorem DpAll.same {K : PySem.W.Frag} {H H' : Hp} (s : Same H H') : ∀ {vs : List V} {ds : List PyData}, DpAll K H vs ds → DpAll K H' vs ds
  | _, _, .nil => .nil
  | _, _, .cons h hs => .cons (Dp.same s h) (DpAll.same s hs)
end
def tyD : PyData → String
  | .none => "NoneType"
  | .bool _ => "bool"
  | .int _ => "int"
  | .str _ => "str"
  | .list _ => "list"
  | .tuple _ => "tuple"
  | .dict _ => "dict"
theorem _root_.L2.Dp.ty {K : PySem.W.Frag} {H : Hp} {v : V} {d : PyData} (h : Dp K H v d) : TyX K H v (.type (tyD d)) := by
  cases h with
  | non => exact .base .non
  | bl b => exact .base (.bl b)
  | int i => exact .base (.int i)
  | str x => exact .base (.str x)
  | lst h _ =>
    rcases h with (h | ⟨o, h⟩) | h
    · exact .base (.lst h)
    · exact .base (.frz h)
    · obtain ⟨o, its, n, hk, hc, _⟩ := h
      exact .kList hk hc
  | tup h _ =>
    rcases h with (h | ⟨o, h⟩) | h
    · exact .base (.tup h)
    · exact .fTuple h
    · obtain ⟨o, its, n, hk, hc, _⟩ := h
      exact .kTuple hk hc
structure Dt (K : PySem.W.Frag) (H : Hp) (v : V) (d : PyData) : Prop where
  dp : Dp K H v d
  sh : SeqAt.shaped d = true
theorem Dt.same {K : PySem.W.Frag} {H H' : Hp} {v : V} {d : PyData} (s : Same H H') (h : Dt K H v d) : Dt K H' v d := ⟨Dp.same s h.dp, h.sh⟩
theorem Dt.of_off {K : PySem.W.Frag} {p : Addr} {H : Hp} {v : V} {d : PyData} (h : Dt K (off p H) v d) : Dt K H v d := h.same off_same
theorem Kn.of_off {K : PySem.W.Frag} {p : Addr} {H : Hp} {v : V} (h : Kn K (off p H) v) : Kn K H v := Kn.same off_same h
def noDict : PyData → Bool
  | .dict _ => false
  | _ => true
theorem _root_.L2.Dp.nd {K : PySem.W.Frag} {H : Hp} {v : V} {d : PyData} (h : Dp K H v d) : noDict d = true := by
  cases h <;> rfl
def isIntD : PyData → Bool
  | .int _ => true
  | .bool _ => true
  | _ => false
def isBoolD : PyData → Bool
  | .bool _ => true
  | _ => false
def isStrD : PyData → Bool
  | .str _ => true
  | _ => false
def isTupD : PyData → Bool
  | .tuple _ => true
  | _ => false
def tyNames : List String := ["NoneType", "bool", "int", "str", "list", "tuple", "dict"]
theorem tyD_mem (d : PyData) : tyD d ∈ tyNames := by
  cases d <;> simp [tyD, tyNames]
theorem kit7_int : ∀ T ∈ tyNames, kitB T "int" = some (T == "int" || T == "bool") := by decide +kernel
theorem kit7_bool : ∀ T ∈ tyNames, kitB T "bool" = some (T == "bool") := by decide +kernel
theorem kit7_str : ∀ T ∈ tyNames, kitB T "str" = some (T == "str") := by decide +kernel
theorem kit7_tup : ∀ T ∈ tyNames, kitB T "tuple" = some (T == "tuple") := by decide +kernel
theorem kit7_list : ∀ T ∈ tyNames, kitB T "list" = some (T == "list") := by decide +kernel
theorem kit7_dict : ∀ T ∈ tyNames, kitB T "dict" = some (T == "dict") := by decide +kernel
theorem kitD_int {d : PyData} (h : noDict d = true) : kitB (tyD d) "int" = some (isIntD d) := by
  rw [kit7_int _ (tyD_mem d)]
  cases d <;> rfl
theorem kitD_bool {d : PyData} (h : noDict d = true) : kitB (tyD d) "bool" = some (isBoolD d) := by
  rw [kit7_bool _ (tyD_mem d)]
  cases d <;> rfl
theorem kitD_str {d : PyData} (h : noDict d = true) : kitB (tyD d) "str" = some (isStrD d) := by
  rw [kit7_str _ (tyD_mem d)]
  cases d <;> rfl
theorem kitD_tup {d : PyData} (h : noDict d = true) : kitB (tyD d) "tuple" = some (isTupD d) := by
  rw [kit7_tup _ (tyD_mem d)]
  cases d <;> rfl

/-! ### menus: an item of a written list at a drawn place -/
theorem menu {xs : List V} {n : Nat} {d : Int} (P : V → Prop) (hn : xs.length = n) (h0 : 0 ≤ d) (h1 : d < n) (all : ∀ v ∈ xs, P v) : ∃ v, atI xs d = some v ∧ P v := by
  obtain ⟨j, rfl⟩ : ∃ j : Nat, d = (j : Int) := ⟨d.toNat, by omega⟩
  have hj : j < xs.length := by omega
  exact ⟨xs[j], atI_nat (List.getElem?_eq_getElem hj), all _ (List.getElem_mem hj)⟩
theorem Dt.int {K : PySem.W.Frag} {H : Hp} (i : Int) : Dt K H (.int i) (.int i) := ⟨.int i, rfl⟩
theorem Dt.bl {K : PySem.W.Frag} {H : Hp} (i : Bool) : Dt K H (.bl i) (.bool i) := ⟨.bl i, rfl⟩
theorem Dt.non {K : PySem.W.Frag} {H : Hp} : Dt K H .non .none := ⟨.non, rfl⟩
theorem Dt.str {K : PySem.W.Frag} {H : Hp} {z : Str} (h : TxOk z) : Dt K H (.str z) (.str z) := ⟨.str z, by
  unfold SeqAt.shaped
  have e : PyData.canLay0 (.str z) = true := strOk_of h.ok
  rw [e]
  rfl⟩
theorem shaped_parts {d : PyData} (h : SeqAt.shaped d = true) : d.canLay0 = true ∧ d.depth ≤ 64 := ⟨SeqAt.canLay_of_shaped h, SeqAt.depth_of_shaped h⟩
/-- data of some depth -/
structure Dd (n : Nat) (d : PyData) : Prop where
  lay : d.canLay0 = true
  dep : d.depth ≤ n
theorem Dd.sh {n : Nat} {d : PyData} (h : Dd n d) (hn : n ≤ 64) : SeqAt.shaped d = true := by
  unfold SeqAt.shaped
  rw [h.lay, decide_eq_true (Nat.le_trans h.dep hn)]
  rfl
theorem Dd.list {n : Nat} {ds : List PyData} (h : ∀ d ∈ ds, Dd n d) : Dd (n + 1) (.list ds) := by
  constructor
  · show PyData.canLayAll0 ds = true
    induction ds with
    | nil => rfl
    | cons x r ih =>
      show (x.canLay0 && PyData.canLayAll0 r) = true
      rw [(h x (List.mem_cons_self ..)).lay, ih fun y hy => h y (List.mem_cons_of_mem _ hy)]
      rfl
  · rw [PyData.depth]
    have e : PyData.depthAll ds ≤ n := by
      induction ds with
      | nil => simp [PyData.depthAll]
      | cons x r ih =>
        rw [PyData.depthAll]
        exact Nat.max_le.mpr ⟨(h x (List.mem_cons_self ..)).dep, ih fun y hy => h y (List.mem_cons_of_mem _ hy)⟩
    omega
theorem Dd.tuple {n : Nat} {ds : List PyData} (h : ∀ d ∈ ds, Dd n d) : Dd (n + 1) (.tuple ds) := by
  have q := Dd.list h
  exact ⟨q.lay, by have := q.dep; simp only [PyData.depth] at this ⊢; exact this⟩
theorem Dd.int (i : Int) : Dd 0 (.int i) := ⟨rfl, by simp [PyData.depth]⟩
theorem Dd.str {z : Str} (h : TxOk z) : Dd 0 (.str z) := ⟨strOk_of h.ok, by simp [PyData.depth]⟩
theorem Dd.none : Dd 0 .none := ⟨rfl, by simp [PyData.depth]⟩
theorem Dd.bool (b : Bool) : Dd 0 (.bool b) := ⟨rfl, by simp [PyData.depth]⟩
theorem Dd.mono {n m : Nat} {d : PyData} (h : Dd n d) (k : n ≤ m) : Dd m d := ⟨h.lay, Nat.le_trans h.dep k⟩
end U

set_option Elab.async false
set_option linter.all false
set_option maxRecDepth 100000
set_option maxHeartbeats 4000000
/-! Text += text; isinstance of own classes; small facts of texts. -/
namespace U
open PySem PySem.Spec PyProof.Rows L2
theorem iteE {c : Bool} {A B : Prop} (h : c = false) (b : B) : if c = true then A else B := by
  rw [h]
  exact iteF b
abbrev ipS : TIp := rAddS
theorem ip_addS {X : Cx} : PIp X .Add ipS := iop_add_str
/-- what isinstance asks of an own class -/
structure InsK (K : PySem.W.Frag) (C : Addr) : Prop where
  cl : Cls K C
  ha : PySem.W.findIn K (.ref C) "__class__" = some (some (.builtin "object.__class__"))
  hn : PySem.W.specialIn K (.builtin "object.__class__") "__get__" = some (some (.builtin "getset_descriptor.__get__"))
  htk : PySem.W.takesIn K (.builtin "object.__class__") = some true
  hm : PySem.W.mroIn K C (.type "object") = some true
  kit : PySem.W.kitOne K (.ref C) (.ref C) = some true
def insB (K : PySem.W.Frag) (x : Str) : Bool := (He.Fa.cls x).ok K && (He.eqO (PySem.W.findIn K (.ref (He.ga K x)) "__class__") (some (some (.builtin "object.__class__"))) &&
  (He.eqO (PySem.W.specialIn K (.builtin "object.__class__") "__get__") (some (some (.builtin "getset_descriptor.__get__"))) && (decide (PySem.W.takesIn K (.builtin "object.__class__") = some true) &&
  (decide (PySem.W.mroIn K (He.ga K x) (.type "object") = some true) && decide (PySem.W.kitOne K (.ref (He.ga K x)) (.ref (He.ga K x)) = some true)))))
theorem insB_ok {K : PySem.W.Frag} {x : Str} (h : insB K x = true) : InsK K (He.ga K x) := by
  obtain ⟨h1, h⟩ := He.ba h
  obtain ⟨h2, h⟩ := He.ba h
  obtain ⟨h3, h⟩ := He.ba h
  obtain ⟨h4, h⟩ := He.ba h
  obtain ⟨h5, h6⟩ := He.ba h
  exact ⟨He.cls_ok h1, He.eqO_ok h2, He.eqO_ok h3, of_decide_eq_true h4, of_decide_eq_true h5, of_decide_eq_true h6⟩
theorem InsK.ty {K : PySem.W.Frag} {C : Addr} (h : InsK K C) {H : Hp} {a dx : Addr} {fs : List (Str × V)} (e : H a = some (.ins C dx fs)) : TyX K H (.ref a) (.ref C) := .base (.ins e h.cl h.ha h.hn h.htk h.hm)
theorem lit_ok {z : Str} (h : z.length ≤ 100000 ∧ ∀ c ∈ z.cps.toList, c < 1114112) : TxOk z := ⟨h.1, h.2⟩
theorem str_beq (a x : Str) : (a == x) = decide (x = a) := by
  by_cases h : x = a
  · rw [decide_eq_true h, h]
    exact beq_self_eq_true a
  · rw [decide_eq_false h]
    exact beq_eq_false_iff_ne.mpr fun e => h e.symm
theorem str_eq_nil {z : Str} : z = "" ↔ z.length = 0 := ⟨fun e => by rw [e]; rfl, fun e => by
  obtain ⟨a⟩ := z
  have e1 : a.size = 0 := e
  have e2 : a = #[] := Array.eq_empty_of_size_eq_zero e1
  rw [e2]
  rfl⟩
theorem partition_len (z y : Str) : (Txt.partition z y).1.length ≤ z.length ∧ (Txt.partition z y).2.1.length ≤ z.length ∧ (Txt.partition z y).2.2.length ≤ z.length := PyProof.Rows.fact_partition z y
theorem partition_ok {z : Str} (h : TxOk z) (y : Str) : TxOk (Txt.partition z y).1 ∧ TxOk (Txt.partition z y).2.1 ∧ TxOk (Txt.partition z y).2.2 := by
  have hl := partition_len z y
  have hs := PySem.StrLaws.partition_sum z y
  have hm : ∀ c, c ∈ (Txt.partition z y).1.cps.toList ∨ c ∈ (Txt.partition z y).2.1.cps.toList ∨ c ∈ (Txt.partition z y).2.2.cps.toList → c ∈ z.cps.toList := fun c hc => by
    rw [← hs, str_cat_toList, str_cat_toList, List.mem_append, List.mem_append]
    rcases hc with h | h | h
    · exact .inl (.inl h)
    · exact .inl (.inr h)
    · exact .inr h
  exact ⟨⟨Nat.le_trans hl.1 h.1, fun c hc => h.2 c (hm c (.inl hc))⟩, ⟨Nat.le_trans hl.2.1 h.1, fun c hc => h.2 c (hm c (.inr (.inl hc)))⟩, ⟨Nat.le_trans hl.2.2 h.1, fun c hc => h.2 c (hm c (.inr (.inr hc)))⟩⟩
def optV : Option Int → V
  | none => .non
  | some n => .int n
theorem flat_opt (o : Option Int) : flatV (optV o) = true := by cases o <;> rfl
/-- list(d.keys()) -/
abbrev rListKV : RC := fun xs H Q => ∃ (a d : Addr) (kvs : List (Key × V)), xs = [.ref a] ∧ H a = some (KeysO a d) ∧ Rd H d (.dK kvs) ∧ ∀ p, H p = none → Q (.ref p) (upd H p (.lst (kvs.map fun kv => kV kv.1)))
theorem call_listKV {X : Cx} (hcalm : X.calm = true) : CallR X (.type "list") rListKV := by
  intro pins s σ H xs us Q I r q
  obtain ⟨a, d, kvs, ex, ha, hd, q⟩ := q
  subst ex
  obtain ⟨u, eu, rx⟩ := vals1 r
  subst eu
  cases rx
  obtain ⟨z, lo, vs, rel, dd⟩ := dk_rd I.hok hd
  obtain ⟨ep, hat⟩ := dd.dictAt
  obtain ⟨view, _, _⟩ := (show ObjOk X.prog X.w H s.heap a (KeysO a d) from I.hok a _ ha)
  have ek : (kvs.map fun kv => kV kv.1) = vs.map fun p => kV p.1 := by
    have e := congrArg (List.map kV) rel.keys
    rw [List.map_map, List.map_map] at e
    exact e
  refine PySem.W.kdl_call (PySem.W.kdl_keys (r := a) (d := d) (knd := mixKind X.prog X.w) (kvs := vs) (ep := ep)) (I.ok.hd hcalm) ⟨view, hat⟩ (by rw [← rel.length]; exact z) fun h' tk acc c' hk hD hacc => ?_
  have hv : Vals (vs.map fun p => kV p.1) acc.toList := keys_at (by rw [Array.length_toList]; exact hacc.1) fun j v e => hacc.2 j v (by rw [← Array.getElem?_toList]; exact e)
  refine ⟨.ref s.heap.objs.size, upd H s.heap.objs.size (.lst (kvs.map fun kv => kV kv.1)), I.laid (t' := tk) hk (Nat.le_refl _)
    (show ObjOk X.prog X.w _ _ _ (.lst (kvs.map fun kv => kV kv.1)) from ⟨by rw [List.length_map]; exact z, acc.toList, c', by rw [ek]; exact hv, by rw [Array.toArray_toList]; exact hD⟩), rfl, q _ (I.hok.fresh (Nat.le_refl _))⟩
/-- a comprehension over a dict's keys -/
theorem lck_fm {tt : TT} {te : TE} {σ : L2.St} {H1 : Hp} {D : Addr} {Q : Hp → Prop} {j : Nat} {d : Addr} {o : Obj} {kvs : List (Key × V)} (p : Key × V → Bool) (f : Key × V → V) (hd0 : H1 d = some (.frz o (.dK kvs))) (hD : H1 D = none) (hx : kvs.length ≤ 1000000)
    (ht : ∀ kv acc (R : Bool → Hp → Prop), kv ∈ kvs → R (p kv) (upd H1 D (.lst acc)) → tt ((wipe σ [j]).set j (some (kV kv.1))) (upd H1 D (.lst acc)) R)
    (he : ∀ kv acc (R : VK), kv ∈ kvs → p kv = true → R (f kv) (upd H1 D (.lst acc)) → te ((wipe σ [j]).set j (some (kV kv.1))) (upd H1 D (.lst acc)) R)
    (hd : Q (upd H1 D (.lst ((kvs.filter p).map f)))) :
    ∃ W : Nat → Nat → Hp → Prop, (∃ m, W 0 m (upd H1 D (.lst []))) ∧ ∀ i m H, W i m H →
      ((Itk d o kvs).stop i H ∧ Q H) ∨ ((Itk d o kvs).go i H ∧ ∃ Nx : Hp → Prop, (∀ H', Nx H' → ∃ m', m' < m ∧ W (i + 1) m' H') ∧ ∀ y H', (Itk d o kvs).yld i H y H' → gName j y (wipe σ [j]) H' fun σ2 H2 => wipe σ2 [j] = wipe σ [j] ∧ tt σ2 H2 fun b H3 =>
        if b = true then te σ2 H3 fun y H4 => ∃ acc, H4 D = some (.lst acc) ∧ acc.length < sizeLine ∧ Nx (upd H4 D (.lst (acc ++ [y]))) else Nx H3) := by
  refine ⟨fun i m H => m = kvs.length - i ∧ i ≤ kvs.length ∧ H = upd H1 D (.lst (((kvs.take i).filter p).map f)), ⟨kvs.length, by simp, Nat.zero_le _, by simp⟩, ?_⟩
  rintro i m H ⟨rfl, hi, rfl⟩
  have hfz : (upd H1 D (.lst (((kvs.take i).filter p).map f))) d = some (.frz o (.dK kvs)) := by
    rw [upd_ne (ne_of_none hd0 hD)]
    exact hd0
  by_cases hlt : i < kvs.length
  · refine .inr ⟨⟨hfz, hlt⟩, fun H' => H' = upd H1 D (.lst (((kvs.take (i + 1)).filter p).map f)), fun H' p' => ⟨kvs.length - (i + 1), by omega, rfl, hlt, p'⟩, fun y H' z => ?_⟩
    obtain ⟨e, k, v, hk, rfl⟩ := z
    subst e
    have hm : (k, v) ∈ kvs := List.mem_of_getElem? hk
    refine ⟨wipe1, ht (k, v) _ _ hm ?_⟩
    have hlen : (((kvs.take i).filter p).map f).length < sizeLine := by
      rw [List.length_map, sizeLine_eq]
      have h1 := List.length_filter_le p (kvs.take i)
      rw [List.length_take] at h1
      omega
    by_cases hp : p (k, v) = true
    · rw [hp]
      refine iteT (he (k, v) _ _ hm hp ⟨_, upd_same, hlen, ?_⟩)
      rw [upd_upd, take_snoc hk, List.filter_append, List.map_append]
      simp [hp]
    · have hp' : p (k, v) = false := by simpa using hp
      rw [hp']
      refine iteF ?_
      rw [take_snoc hk, List.filter_append, List.map_append]
      simp [hp']
  · have e : i = kvs.length := by omega
    subst e
    refine .inl ⟨⟨hfz, Nat.le_refl _⟩, ?_⟩
    rw [List.take_length]
    exact hd
/-- a comprehension over a list whose element may lay new things -/
theorem lcl_s {K : PySem.W.Frag} {te : TE} {σ : L2.St} {H1 : Hp} {D : Addr} {Q : Hp → Prop} {j : Nat} {a : Addr} {xs : List V} (f : V → V) (hs : SqL K H1 a xs) (hD : H1 D = none) (hx : xs.length ≤ 1000000)
    (he : ∀ v H', v ∈ xs → Same H1 H' → ∀ R : VK, (∀ H'', Same H' H'' → R (f v) H'') → te ((wipe σ [j]).set j (some v)) H' R)
    (hd : ∀ H', Same H1 H' → H' D = some (.lst (xs.map f)) → Q H') :
    ∃ W : Nat → Nat → Hp → Prop, (∃ m, W 0 m (upd H1 D (.lst []))) ∧ ∀ i m H, W i m H →
      ((Itl K a).stop i H ∧ Q H) ∨ ((Itl K a).go i H ∧ ∃ Nx : Hp → Prop, (∀ H', Nx H' → ∃ m', m' < m ∧ W (i + 1) m' H') ∧ ∀ y H', (Itl K a).yld i H y H' → gName j y (wipe σ [j]) H' fun σ2 H2 => wipe σ2 [j] = wipe σ [j] ∧ tYes σ2 H2 fun b H3 =>
        if b = true then te σ2 H3 fun y H4 => ∃ acc, H4 D = some (.lst acc) ∧ acc.length < sizeLine ∧ Nx (upd H4 D (.lst (acc ++ [y]))) else Nx H3) := by
  refine lc_list (g := gName j) (vs := [j]) (xs := xs) (fun i H => Same H1 H ∧ H D = some (.lst ((xs.take i).map f))) ⟨same_new hD, by rw [upd_same]; simp⟩ (fun i H _ e => e.1.seq hs) (fun i c H hc e => ?_) (fun H e => ?_)
  · obtain ⟨s1, hl⟩ := e
    refine ⟨wipe1, he c H (List.mem_of_getElem? hc) s1 _ fun H4 s4 => ⟨_, s4 _ _ hl, ?_, ?_, ?_⟩⟩
    · rw [List.length_map, List.length_take, sizeLine_eq]
      omega
    · exact U.Same.mut (s1.trans s4) hD
    · rw [upd_same, take_snoc hc, List.map_append]
      rfl
  · refine hd H e.1 ?_
    rw [e.2, List.take_length]
/-- what is told of some error classes -/
structure ErrL (l : List Str) (K : PySem.W.Frag) : Prop where
  exc : ∀ x ∈ l, ExcC K (He.ga K x)
  exm : ∀ x ∈ l, PySem.W.exmOne K (.ref (He.ga K x)) (.ref (He.ga K "HallError")) = some true
  kit : ∀ x ∈ l, ∀ y ∈ l, PySem.W.kitOne K (.ref (He.ga K x)) (.ref (He.ga K y)) = some (decide (x = y))
  kitH : ∀ x ∈ l, PySem.W.kitOne K (.ref (He.ga K x)) (.ref (He.ga K "HallError")) = some true
  kitV : ∀ x ∈ l, PySem.W.kitOne K (.ref (He.ga K x)) (.type "ValueError") = some true
def errLB (l : List Str) (K : PySem.W.Frag) : Bool := l.all fun x => excB K (He.ga K x) && (decide (PySem.W.exmOne K (.ref (He.ga K x)) (.ref (He.ga K "HallError")) = some true) &&
  ((l.all fun y => decide (PySem.W.kitOne K (.ref (He.ga K x)) (.ref (He.ga K y)) = some (decide (x = y)))) && (decide (PySem.W.kitOne K (.ref (He.ga K x)) (.ref (He.ga K "HallError")) = some true) && decide (PySem.W.kitOne K (.ref (He.ga K x)) (.type "ValueError") = some true))))
theorem errLB_ok {l : List Str} {K : PySem.W.Frag} (h : errLB l K = true) : ErrL l K := by
  have h1 := List.all_eq_true.mp h
  refine ⟨fun x hx => excB_ok (He.ba (h1 x hx)).1, fun x hx => of_decide_eq_true (He.ba (He.ba (h1 x hx)).2).1, fun x hx y hy => ?_, fun x hx => ?_, fun x hx => ?_⟩
  · exact of_decide_eq_true (List.all_eq_true.mp (He.ba (He.ba (He.ba (h1 x hx)).2).2).1 y hy)
  · exact of_decide_eq_true (He.ba (He.ba (He.ba (He.ba (h1 x hx)).2).2).2).1
  · exact of_decide_eq_true (He.ba (He.ba (He.ba (He.ba (h1 x hx)).2).2).2).2
end U

set_option Elab.async false
set_option linter.all false
set_option maxRecDepth 100000
set_option maxHeartbeats 4000000
/-! Dicts of data compared (both answers); set(list of whole numbers). -/
namespace U
open PySem PySem.Spec PyProof.Rows L2
/-- a dict of data -/
def DcAt (K : PySem.W.Frag) (H : Hp) (a : Addr) (ds : List (Key × PyData)) : Prop := ∃ kvs, H a = some (.dK kvs) ∧ Paired (fun (kv : Key × V) (kd : Key × PyData) => kv.1 = kd.1 ∧ Dp K H kv.2 kd.2) kvs ds
def dcLook (ds : List (Key × PyData)) (k : Key) : Option PyData := (ds.find? fun q => decide (q.1 = k)).map (·.2)
def hitD (es : List (Key × PyData)) (q : Key × PyData) : Bool := match dcLook es q.1 with
  | some e => PyData.eqv q.2 e
  | none => false
def eqDc (ds es : List (Key × PyData)) : Bool := (ds.length == es.length) && ds.all (hitD es)
theorem dc_val {K : PySem.W.Frag} {H : Hp} {kvs : List (Key × V)} {ds : List (Key × PyData)} (h : Paired (fun (kv : Key × V) (kd : Key × PyData) => kv.1 = kd.1 ∧ Dp K H kv.2 kd.2) kvs ds) (k : Key) :
    (valV kvs k = none ∧ dcLook ds k = none) ∨ ∃ v d, valV kvs k = some v ∧ dcLook ds k = some d ∧ Dp K H v d ∧ (k, d) ∈ ds := by
  induction h with
  | nil => exact .inl ⟨rfl, rfl⟩
  | @cons p q ps qs hd _ ih =>
    obtain ⟨e1, e2⟩ := hd
    by_cases c : q.1 = k
    · right
      refine ⟨p.2, q.2, ?_, ?_, e2, ?_⟩
      · unfold valV
        rw [List.find?_cons, decide_eq_true (e1.trans c)]
        rfl
      · unfold dcLook
        rw [List.find?_cons, decide_eq_true c]
        rfl
      · rw [← c]
        exact List.mem_cons_self ..
    · have n1 : valV (p :: ps) k = valV ps k := by
        unfold valV
        rw [List.find?_cons, decide_eq_false (by rw [e1]; exact c)]
      have n2 : dcLook (q :: qs) k = dcLook qs k := by
        unfold dcLook
        rw [List.find?_cons, decide_eq_false c]
      rw [n1, n2]
      rcases ih with h | ⟨v, d, h1, h2, h3, h4⟩
      · exact .inl h
      · exact .inr ⟨v, d, h1, h2, h3, List.mem_cons_of_mem _ h4⟩
section
variable {X : Cx} {pins : List (Addr × Obj)} {σ : L2.St} {H : Hp} {s : Shared}
theorem dc_hits (I : Inv X pins σ H s) {A : Around} (hu : A.units + 64 < cLine) {ls : List (Key × V)} {vb : List (Key × Value)} {es : List (Key × PyData)} (rb : KV ls vb) (pb : Paired (fun (kv : Key × V) (kd : Key × PyData) => kv.1 = kd.1 ∧ Dp X.K H kv.2 kd.2) ls es) (sb : ∀ q ∈ es, SeqAt.shaped q.2 = true)
    {ks : List (Key × V)} {ds : List (Key × PyData)} (pa : Paired (fun (kv : Key × V) (kd : Key × PyData) => kv.1 = kd.1 ∧ Dp X.K H kv.2 kd.2) ks ds) : (∀ q ∈ ds, SeqAt.shaped q.2 = true) → ∀ {va : List (Key × Value)}, KV ks va → PySem.W.KeqHits A s vb va (ds.all (hitD es)) := by
  induction pa with
  | nil =>
    intro _ va ra
    unfold KV at ra
    cases ra
    exact .nil
  | @cons p q ps qs h _ ih =>
    intro sa va ra
    unfold KV at ra
    cases ra with
    | cons r1 rr =>
      rename_i w ws
      obtain ⟨k, v⟩ := w
      obtain ⟨a1, a2⟩ := r1
      obtain ⟨b1, b2⟩ := h
      have ek : q.1 = k := b1.symm.trans a1
      have rest := ih (fun z hz => sa z (List.mem_cons_of_mem _ hz)) (show KV ps ws from rr)
      show PySem.W.KeqHits A s vb ((k, v) :: ws) (hitD es q && qs.all (hitD es))
      have rv := rb.val k
      rcases dc_val pb k with ⟨n1, n2⟩ | ⟨u, d, n1, n2, n3, n4⟩
      · rw [n1] at rv
        have e0 : hitD es q = false := by
          unfold hitD
          rw [ek, n2]
        rw [e0]
        refine .miss ?_
        cases hv : valueAt vb k with
        | none => rfl
        | some y =>
          rw [hv] at rv
          exact (show False from rv).elim
      · rw [n1] at rv
        obtain ⟨y, hy, ry⟩ := rv.some_of
        have e0 : hitD es q = PyData.eqv q.2 d := by
          unfold hitD
          rw [ek, n2]
        rw [e0]
        obtain ⟨as, r1⟩ := Dp.reads I q.2 p.2 v b2 a2
        obtain ⟨bs, r2⟩ := Dp.reads I d u y n3 ry
        have s1 := sa q (List.mem_cons_self ..)
        have s2 := sb (k, d) n4
        exact .hit hy (SeqAt.eqAt_reads _ _ _ _ _ _ _ _ r1 r2 (SeqAt.canLay_of_shaped s1) (SeqAt.canLay_of_shaped s2) (SeqAt.room_of_shaped s1 hu)) rest
end
def rEqC (K : PySem.W.Frag) : R2 := fun x y H Q => ∃ a b ds es, x = .ref a ∧ y = .ref b ∧ DcAt K H a ds ∧ DcAt K H b es ∧ (∀ q ∈ ds, SeqAt.shaped q.2 = true) ∧ (∀ q ∈ es, SeqAt.shaped q.2 = true) ∧ Q (.bl (eqDc ds es)) H
def rNeC (K : PySem.W.Frag) : R2 := fun x y H Q => ∃ a b ds es, x = .ref a ∧ y = .ref b ∧ DcAt K H a ds ∧ DcAt K H b es ∧ (∀ q ∈ ds, SeqAt.shaped q.2 = true) ∧ (∀ q ∈ es, SeqAt.shaped q.2 = true) ∧ Q (.bl (!eqDc ds es)) H
section
variable {X : Cx}
theorem paired_len {α β : Type} {R : α → β → Prop} {xs : List α} {ys : List β} (h : Paired R xs ys) : xs.length = ys.length := by
  induction h with
  | nil => rfl
  | cons _ _ ih => rw [List.length_cons, List.length_cons, ih]
theorem op_eqC (hu : X.A.units + 100 < cLine) : OpR X (compareOp .Eq) (rEqC X.K) := by
  intro pins s σ H x y v u Q I rx ry h
  obtain ⟨a, b, ds, es, rfl, rfl, ⟨ks, ea, pa⟩, ⟨ls, eb, pb⟩, sa, sb, q⟩ := h
  cases (show v = Value.ref a from rx)
  cases (show u = Value.ref b from ry)
  obtain ⟨_, ya, va, ra, da⟩ := dk_of I.hok ea
  obtain ⟨_, yb, vb, rb, db⟩ := dk_of I.hok eb
  refine PySem.W.keq_eq (knd := mixKind X.prog X.w) ya yb da db (by omega) (fun _ => dc_hits I (A := X.A.in1) (by show X.A.units + 1 + 64 < cLine; omega) rb pb sb pa sa ra) (fin_bl I q ?_)
  rw [← ra.length, ← rb.length, paired_len pa, paired_len pb]
  rfl
theorem op_neC (hu : X.A.units + 100 < cLine) : OpR X (compareOp .NotEq) (rNeC X.K) := by
  intro pins s σ H x y v u Q I rx ry h
  obtain ⟨a, b, ds, es, rfl, rfl, ⟨ks, ea, pa⟩, ⟨ls, eb, pb⟩, sa, sb, q⟩ := h
  cases (show v = Value.ref a from rx)
  cases (show u = Value.ref b from ry)
  obtain ⟨_, ya, va, ra, da⟩ := dk_of I.hok ea
  obtain ⟨_, yb, vb, rb, db⟩ := dk_of I.hok eb
  refine PySem.W.keq_ne (knd := mixKind X.prog X.w) ya yb da db (by omega) (fun _ => dc_hits I (A := X.A.in1) (by show X.A.units + 1 + 64 < cLine; omega) rb pb sb pa sa ra) (fin_bl I q ?_)
  rw [← ra.length, ← rb.length, paired_len pa, paired_len pb]
  rfl
end

/-! ### set(list of whole numbers) -/
section
variable {P : Program} {w : World} {A : Around} {E : Value → Shared → Prop} {s : Shared}
/-- a new set is empty, and can be walked -/
abbrev set0 (w : World) : Obj := { cls := .type "set", dict := none, data := .set #[] 0 (.fresh 0 0 (!w.params.followText "set-order")) }
/-- the filling of a new set (at the heap's end) from a list -/
theorem fill_list {l : Addr} {items : Array Value} (ns : List Int) {R : Result → Shared → Prop} (hh : A.handled = none) (hl : s.heap.IsList l items) (hi : IntsAre items.toList ns) (hb : ns.length + 1 < scanBound)
    (h : ∀ (h' : Heap) (tk c : Nat), SetR w h' s.heap.objs.size (fun j => decide (j ∈ ns)) c → c ≤ ns.length → (∀ b o, s.heap.get? b = some o → h'.get? b = some o) → R (.ok (.ret .none)) { s with heap := h', toks := tk }) :
    codeAny (model P w) A (.builtin "set.update.loop" ⟨[.ref s.heap.objs.size, .ref (s.heap.push (set0 w)).objs.size], []⟩) R { s with heap := (s.heap.push (set0 w)).push { cls := .type "list_iterator", data := .fields #[.ref l, .int 0 0] } } := by
  have inL : l < s.heap.objs.size := by
    obtain ⟨o, ho, _⟩ := hl
    exact Heap.lt_size ho
  have many : items.size = ns.length := by
    rw [← Array.length_toList]
    exact IntsAre.length hi
  have grown : (s.heap.push (set0 w)).objs.size = s.heap.objs.size + 1 := Heap.size_push ..
  have l1 : (s.heap.push (set0 w)).IsList l items := hl.push _
  have apart : l ≠ (s.heap.push (set0 w)).objs.size := by
    rw [grown]
    exact Nat.ne_of_lt (Nat.lt_succ_of_lt inL)
  have hd : A.in1.handled = none := by simpa using hh
  refine set_update_ints ((Walks.list hd _ l apart items).toS) s.heap.objs.size (by simp only [List.mem_cons, List.not_mem_nil, or_false, not_or]; rw [grown]; exact ⟨Nat.ne_of_lt (Nat.lt_succ_self _), Nat.ne_of_gt inL⟩) ns many hb (fun i v hv => ?_) items.size 0 _ rfl (Nat.zero_le _)
    ⟨⟨_, Heap.get?_push_size _ rfl, rfl, rfl⟩, l1.push _⟩ ⟨0, Nat.le_refl 0, setR_new_at (Heap.get?_push_of_some _ (Heap.get?_push_size _ rfl))⟩ fun s' c moved hc hS => ?_
  · have lt : i < ns.length := by
      rw [← many]
      exact (Array.getElem?_eq_some_iff.mp hv).1
    obtain ⟨t, e⟩ := IntsAre.int_at hi i v (by rw [Array.getElem?_toList]; exact hv)
    refine ⟨ns[i], t, List.getElem?_eq_getElem lt, ?_⟩
    rw [e, List.getD_eq_getElem?_getD, List.getElem?_eq_getElem lt]
    rfl
  · have e1 := moved.gens
    have e2 := moved.drawn
    have e3 := moved.os
    obtain ⟨h', g', d', tk', os'⟩ := s'
    cases e1
    cases e2
    cases e3
    refine h h' tk' c hS (by omega) fun b o e => moved.heap b o ?_ (Heap.get?_push_of_some _ (Heap.get?_push_of_some _ e))
    have lt := Heap.lt_size e
    simp only [List.mem_cons, List.not_mem_nil, or_false, not_or]
    rw [grown]
    exact ⟨Nat.ne_of_lt lt, Nat.ne_of_lt (Nat.lt_succ_of_lt lt)⟩
/-- what set.__init__(new set, list) does -/
theorem init_list {l : Addr} {items : Array Value} (ns : List Int) {Q : Shared → Prop} (hh : A.handled = none) (hl : s.heap.IsList l items) (hi : IntsAre items.toList ns) (hb : ns.length + 1 < scanBound)
    (h : ∀ (h' : Heap) (tk c : Nat), SetR w h' s.heap.objs.size (fun j => decide (j ∈ ns)) c → c ≤ ns.length → (∀ b o, s.heap.get? b = some o → h'.get? b = some o) → Q { s with heap := h', toks := tk }) :
    codeAny (model P w) A (.call (.builtin "set.__init__") ⟨[.ref s.heap.objs.size, .ref l], []⟩) (wants (fun r s₂ => r = .none ∧ Q s₂) E) { s with heap := s.heap.push (set0 w) } := by
  have at0 : (s.heap.push (set0 w)).get? s.heap.objs.size = some (set0 w) := Heap.get?_push_size _ rfl
  have ty : Shared.TypeIs { s with heap := s.heap.push (set0 w) } (.ref s.heap.objs.size) "set" := ⟨_, at0, rfl⟩
  have hl1 := hl.push (set0 w)
  refine codeAny_call_builtin F.called_set.init.plain F.entry_set_init (check_set_init_1 ty ?_)
  have go : ∀ {R : Result → Shared → Prop}, (∀ s', Q s' → R (.ok (.ret .none)) s') → codeAny (model P w) A.in1 (.builtin "set.update.loop" ⟨[.ref s.heap.objs.size, .ref (s.heap.push (set0 w)).objs.size], []⟩) R { s with heap := (s.heap.push (set0 w)).push { cls := .type "list_iterator", data := .fields #[.ref l, .int 0 0] } } := fun {R} k =>
    fill_list ns (by simp [hh]) hl hi hb fun h' tk c hS hc hk => k _ (h h' tk c hS hc hk)
  obtain ⟨ol, hol, hcl, nl, hdl⟩ := hl1
  obtain ⟨ocls, odict, odata, oslots⟩ := ol
  dsimp only at hcl hdl
  cases hcl
  cases hdl
  have noSet := F.sub_list_set
  have noFrozen := F.sub_list_frozenset
  have noDict : (Value.type "list" == Value.type "dict") = false := by decide
  unfold Builtin.«set.__init__» noKeywords Builtin.Frozenset.updateFrom
  generalize hPI : pyIter = PI
  wp_walk
  subst hPI
  refine wpAny_pyIter_list (hl.push (set0 w)) (wpAny_bind (wpAny_runValue (go fun s' q => ?_)))
  exact wpAny_pure (wpAny_pure ⟨rfl, q⟩)
theorem call_setL {l : Addr} {items : Array Value} (ns : List Int) {Q : Value → Shared → Prop} (hh : A.handled = none) (hl : s.heap.IsList l items) (hi : IntsAre items.toList ns) (hb : ns.length + 1 < scanBound)
    (h : ∀ (h' : Heap) (tk c : Nat), SetR w h' s.heap.objs.size (fun j => decide (j ∈ ns)) c → c ≤ ns.length → (∀ b o, s.heap.get? b = some o → h'.get? b = some o) → Q (.ref s.heap.objs.size) { s with heap := h', toks := tk }) :
    wpAny (model P w) A (call (.type "set") [.ref l]) Q E s := by
  have ft := F.called_set
  obtain ⟨c, tl, hmro⟩ := ft.mro
  have hmade := ft.made
  have hsub := ft.sub
  have hnt := ft.notType
  have hcc := ft.canCreate
  have hct := F.typeCall_set_1 (.ref l)
  have hli := ft.init.lookup
  have hbi := ft.init.bind (.ref s.heap.objs.size)
  have at0 : (s.heap.push (set0 w)).get? s.heap.objs.size = some (set0 w) := Heap.get?_push_size _ rfl
  have ty : Shared.TypeIs { s with heap := s.heap.push (set0 w) } (.ref s.heap.objs.size) "set" := ⟨_, at0, rfl⟩
  refine wpAny_call (codeAny_of_tree ?_)
  show wpAny _ _ (callAny (.type "set") _) _ _ _
  refine wpAny_pure ⟨Code.quiet_builtin _ (by decide +kernel), codeAny_builtin F.entry_type_call ?_⟩
  rw [Around.under_plain (weight_type_call_type "set" [.ref l] []) rfl]
  repeat (any_goals (first | assumption | wp_step))
  refine codeAny_mono (code_set_led1 (.ref l) (E := E) (Q₁ := fun obj s₁ => obj = .ref s.heap.objs.size ∧ s₁ = { s with heap := s.heap.push (set0 w) }) ⟨rfl, rfl⟩) fun r s₁ hr => ?_
  cases r with
  | error e => exact hr
  | ok fl =>
    cases fl with
    | next => exact hr.elim
    | brk => exact hr.elim
    | cont => exact hr.elim
    | ret obj =>
      obtain ⟨e1, e2⟩ := hr
      subst e1
      subst e2
      repeat (any_goals (first | assumption | wp_step))
      refine codeAny_mono (init_list ns (Q := fun s₂ => Q (.ref s.heap.objs.size) s₂) (E := E) (by simp [hh]) hl hi hb h) fun r₂ s₂ hr₂ => ?_
      cases r₂ with
      | error e => exact hr₂
      | ok fl₂ =>
        cases fl₂ with
        | next => exact hr₂.elim
        | brk => exact hr₂.elim
        | cont => exact hr₂.elim
        | ret r =>
          obtain ⟨e3, q⟩ := hr₂
          subst e3
          repeat (any_goals (first | assumption | wp_step))
end
/-- set(list) of whole numbers, fewer than a thousand -/
def rSetL (K : PySem.W.Frag) (w : World) : RC := fun xs H Q => ∃ (l : Addr) (ns : List Int), xs = [.ref l] ∧ SqL K H l (ns.map V.int) ∧ ns.length ≤ 1000 ∧ ∀ p c, H p = none → c ≤ ns.length → (∃ ks : List Int, ks.Nodup ∧ ks.length = c ∧ ∀ k ∈ ks, k ∈ ns) → Q (.ref p) (upd H p (SetO w p (fun j => decide (j ∈ ns)) c))
theorem setR_list {w : World} {h : Heap} {a : Addr} {ns : List Int} {c : Nat} (R : SetR w h a (fun j => decide (j ∈ ns)) c) : ∃ ks : List Int, ks.Nodup ∧ ks.length = c ∧ ∀ k ∈ ks, k ∈ ns := by
  obtain ⟨o, es, ep, t, _, _, _, _, nd, mem, _, _, sz, _⟩ := R
  refine ⟨es.toList.map keyOf, nd, by rw [List.length_map, Array.length_toList]; exact sz, fun k hk => of_decide_eq_true ((mem k).mpr hk)⟩
theorem cr_setL {X : Cx} (hc : X.calm = true) : CallR X (.type "set") (rSetL X.K X.w) := by
  intro pins s σ H xs us Q I r h
  obtain ⟨l, ns, rfl, hs, hl, q⟩ := h
  rw [Vals.ref1 r]
  obtain ⟨its, rv, pl, _⟩ := I.list hs
  refine call_setL ns (I.ok.hd hc) pl.isList (ints_of_vals rv) (by unfold scanBound; omega) fun h' tk c R hcn k => ?_
  exact ⟨.ref s.heap.objs.size, upd H s.heap.objs.size (SetO X.w s.heap.objs.size (fun j => decide (j ∈ ns)) c), I.laid (t' := tk) k (Nat.le_refl _) (setO_new R), rfl, q _ c (I.hok.fresh (Nat.le_refl _)) hcn (setR_list R)⟩
end U

set_option Elab.async false
set_option linter.all false
set_option maxRecDepth 100000
set_option maxHeartbeats 4000000
/-! list(reversed(a list)); a dict that a call made, walked; lists compared with []. -/
namespace U
open PySem PySem.Spec PyProof.Rows L2
section
variable {prog : Program} {w : World} {A : Around} {E : Value → Shared → Prop} {s : Shared}
/-- a list that is empty takes all that a walk from behind gives -/
theorem take_rev {it l S : Addr} {items : Array Value} {c₀ : Nat} {R : Result → Shared → Prop} (hh : A.handled = none) (hit : s.heap.IsRevIter it l ((items.size : Int) - 1)) (hl : s.heap.IsList l items) (hne : l ≠ it) (hn : items.size ≤ sizeLine)
    (hS : s.heap.get? S = some { cls := .type "list", data := .seq #[] c₀ }) (nSi : S ≠ it) (nSl : S ≠ l)
    (hR : ∀ (h' : Heap) (tk : Nat) (acc : Array Value) (c : Nat), (∀ b o, b ≠ it → b ≠ S → s.heap.get? b = some o → h'.get? b = some o) → h'.get? S = some { cls := .type "list", dict := none, data := .seq acc c, slots := #[] } → ItemsOf (fun i v => items[items.size - 1 - i]? = some v) acc items.size → R (.ok (.ret .none)) { s with heap := h', toks := tk }) :
    wpAny (model prog w) A.in1 (Builtin.List.listExtendWith (.ref S) (.ref it) .none)
      (fun fin s' => match fin with | .done f => R (.ok f) s' | .again c' => c'.quiet = true ∧ codeAny (model prog w) A c' R s') (fun e s' => R (.error e) s') s := by
  have ty : s.TypeIs (.ref it) "list_reverseiterator" := hit.typeIs
  have other : Builtin.List.listSameRef (.ref S) (.ref it) = false := by simp [Builtin.List.listSameRef, nSi]
  have far : S ∉ [it, l] := by simp only [List.mem_cons, List.not_mem_nil, or_false, not_or]; exact ⟨nSi, nSl⟩
  unfold Builtin.List.listExtendWith
  refine wpAny_bind (wpAny_typeOf ty ?_)
  rw [if_neg (by rw [other]; decide)]
  refine wpAny_bind (wpAny_pyIter_revIter hit (wpAny_bind (wpAny_holding ?_)))
  unfold Builtin.List.listLengthHint
  refine wpAny_bind (wpAny_specialOf ty RT.nolen_lri ?_)
  show wpAny _ A.in1 (specialOf (Value.ref it) (Str.ofString "__length_hint__") >>= _) _ _ _
  refine wpAny_bind (wpAny_specialOf ty RT.hint_lri ?_)
  generalize hid : ("list_reverseiterator.__length_hint__" : String) = id0
  wp_delta
  rw [show splitId id0 = some ("list_reverseiterator", "__length_hint__") from by subst hid; decide +kernel]
  subst hid
  refine wpAny_bind (wpAny_isInstance (b := true) ty (by rw [isSubtype_type]; kernel_rfl) (wpAny_pure ?_))
  rw [if_neg (by decide)]
  have z : ((items.size : Nat) : Int) - 1 - ((0 : Nat) : Int) = (items.size : Int) - 1 := by omega
  refine wpAny_pure ⟨plainId_quiet F.plain_extend_loop _, codeAny_extend_loopS ((Walks.listRev (prog := prog) (w := w) (A := A.in1) hh it l hne items).toS) hn _ far _ items.size 0 _ _ _ rfl (Nat.zero_le _) ⟨Nat.zero_le _, by rw [z]; exact hit, hl⟩ hS (ItemsOf.nil _) fun s' acc c moved at' got => ?_⟩
  rw [Moved.eq_with moved]
  refine hR s'.heap s'.toks acc c (fun b o b1 b2 e => moved.heap b o (fun m => ?_) e) at' got
  rcases List.mem_cons.mp m with e' | m
  · exact b2 e'
  · exact b1 (List.mem_singleton.mp m)
theorem call_list_rev {it l : Addr} {items : Array Value} {Q : Value → Shared → Prop} (hh : A.handled = none) (hit : s.heap.IsRevIter it l ((items.size : Int) - 1)) (hl : s.heap.IsList l items) (hne : l ≠ it) (hn : items.size ≤ sizeLine)
    (hQ : ∀ (h' : Heap) (tk : Nat) (acc : Array Value) (c : Nat), (∀ b o, b ≠ it → s.heap.get? b = some o → h'.get? b = some o) → h'.get? s.heap.objs.size = some { cls := .type "list", dict := none, data := .seq acc c, slots := #[] } → ItemsOf (fun i v => items[items.size - 1 - i]? = some v) acc items.size →
      Q (.ref s.heap.objs.size) { s with heap := h', toks := tk }) : wpAny (model prog w) A (call (.type "list") [.ref it]) Q E s := by
  obtain ⟨oi, hoi, _⟩ := id hit
  obtain ⟨ol, hol, _⟩ := id hl
  have li := Heap.lt_size hoi
  have ll := Heap.lt_size hol
  refine callType_codes (Q₁ := fun obj s₁ => obj = .ref s.heap.objs.size ∧ s₁ = { s with heap := s.heap.push { cls := .type "list", data := .seq #[] } }) F.called_list (F.typeCall_list_1 _) F.entry_list_init (code_list_new _ ⟨rfl, rfl⟩) fun obj s₁ h₁ => ?_
  obtain ⟨rfl, rfl⟩ := h₁
  have hS : (s.heap.push { cls := .type "list", data := .seq #[] }).get? s.heap.objs.size = some { cls := .type "list", data := .seq #[] } := Heap.get?_push_size _ rfl
  refine ⟨⟨_, hS, rfl⟩, F.args_list_init_2 _ _, ?_⟩
  show wpAny _ A.in1.in1 (do let old ← Builtin.List.listItems (.ref s.heap.objs.size); Builtin.List.listUpdate (.ref s.heap.objs.size) (fun _ => #[]); letGo old.toList.reverse; Builtin.List.listExtendWith (.ref s.heap.objs.size) (.ref it) .none) _ _ _
  refine wpAny_bind ?_
  unfold Builtin.List.listItems
  refine wpAny_bind (wpAny_seqItems hS rfl (wpAny_pure ?_))
  refine wpAny_bind (wpAny_updateSeq hS rfl ?_)
  have hS2 := Heap.get?_update_self (Obj.mapSeq (fun _ => (#[] : Array Value))) hS rfl
  refine wpAny_bind (wpAny_letGo ?_)
  have keep : ∀ b o, s.heap.get? b = some o → ((s.heap.push { cls := .type "list", data := .seq #[] }).update s.heap.objs.size (Obj.mapSeq fun _ => (#[] : Array Value))).get? b = some o := fun b o e =>
    (Heap.get?_update_other _ _ (Nat.ne_of_gt (Heap.lt_size e))).trans (Heap.get?_push_of_some _ e)
  refine take_rev (A := A.in1) (by simpa using hh) (hit.at fun o e => keep it o e) (hl.at fun o e => keep l o e) hne hn hS2 (Nat.ne_of_gt li) (Nat.ne_of_gt ll) fun h' tk acc c k at' got => ?_
  exact ⟨rfl, hQ h' tk acc c (fun b o nb e => k b o nb (Nat.ne_of_lt (Heap.lt_size e)) (keep b o e)) at' got⟩
end
/-- list(reversed(x)), x a list: a new list -/
def tLstRev (K : PySem.W.Frag) (te : TE) : TE := fun σ H Q => te σ H fun v H1 => ∃ (a : Addr) (xs : List V), v = .ref a ∧ SqL K H1 a xs ∧ ∀ q, H1 q = none → Q (.ref q) (upd H1 q (.lst xs.reverse))
theorem pe_lstRev {X : Cx} {e : Expr} {te : TE} {p p2 pos pos2 : Pos} (hc : X.calm = true) (hg : Gl X "list") (hm : X.mg "list" = none) (hg2 : Gl X "reversed") (hm2 : X.mg "reversed" = none) (he : PE X e te)
    (hs : starEach [e] X.env = (false, eval e X.env) :: starEach [] X.env := by rfl)
    (hs2 : starEach [.Call (.Name "reversed" p2) [e] [] pos2] X.env = (false, eval (.Call (.Name "reversed" p2) [e] [] pos2) X.env) :: starEach [] X.env := by rfl) :
    PE X (.Call (.Name "list" p) [.Call (.Name "reversed" p2) [e] [] pos2] [] pos) (tLstRev X.K te) := by
  refine ⟨fun pins s σ H Q I h => ?_⟩
  refine Call_ (ld_blt I hg hm boot_list (callWith_type1 (args_cons (Call_ (ld_blt I hg2 hm2 boot_reversed (callWith_type1 (args_cons (thn (he.run pins s σ H _ I h) fun u s1 hu => args_nil ?_) hs) hs rfl))) hs2) hs2 rfl))
  obtain ⟨v, H1, J, r1, a, xs, rfl, hq, q⟩ := hu
  obtain rfl : u = Value.ref a := r1
  obtain ⟨its, rv, pl, hz⟩ := J.list hq
  refine call_reversed_list pl.isList (args_nil ?_)
  obtain ⟨ol, hol, _⟩ := id pl.isList
  refine call_list_rev (s := { s1 with heap := s1.heap.push (revObj a ((its.toArray.size : Int) - 1)) }) (J.ok.hd hc) ⟨_, Heap.get?_push_size _ rfl, rfl, rfl⟩ (pl.isList.push _) (Nat.ne_of_lt (Heap.lt_size hol)) (by rw [List.size_toArray, ← rv.length]; exact hz) fun h' tk acc c k at' got => ?_
  have big : s1.heap.objs.size ≤ (s1.heap.push (revObj a ((its.toArray.size : Int) - 1))).objs.size := by
    rw [Heap.size_push]
    exact Nat.le_succ _
  refine ⟨.ref _, upd H1 _ (.lst xs.reverse), J.laid (t' := tk) (fun b o e => k b o (Nat.ne_of_lt (Heap.lt_size e)) (Heap.get?_push_of_some _ e)) big
    (show ObjOk X.prog X.w _ _ _ (.lst xs.reverse) from ⟨by rw [List.length_reverse]; exact hz, acc.toList, c, RT.vals_rev rv got, by rw [Array.toArray_toList]; exact at'⟩), rfl, q _ (J.hok.fresh big)⟩
/-- a dict that an expression gives, locked from then on -/
def tLocked (td : TE) : TE := fun σ H Q => td σ H fun x H1 => ∃ d kvs, x = .ref d ∧ H1 d = some (.dK kvs) ∧ ∀ o, Q x (upd H1 d (.frz o (.dK kvs)))
theorem pe_locked {X : Cx} {e : Expr} {td : TE} (he : PE X e td) : PE X e (tLocked td) := by
  refine ⟨fun pins s σ H Q I h => thn (he.run pins s σ H _ I h) fun u s1 hu => ?_⟩
  obtain ⟨x, H1, J, rx, d, kvs, ex, hd, q⟩ := hu
  obtain ⟨od, J2⟩ := J.lock hd trivial
  exact ⟨x, _, J2, rx, q od⟩
/-- a list compared with a list that may be empty: only when one of them is -/
def rEqL0 (K : PySem.W.Frag) : R2 := fun x y H Q => ∃ a b xs, x = .ref a ∧ y = .ref b ∧ SqL K H a xs ∧ SqL K H b [] ∧ Q (.bl xs.isEmpty) H
theorem op_eqL0 {X : Cx} (hu : X.A.units + 100 < cLine) : OpR X (compareOp .Eq) (rEqL0 X.K) := by
  intro pins s σ H x y v u Q I rx ry h
  obtain ⟨a, b, xs, rfl, rfl, ha, hb, q⟩ := h
  cases (show v = Value.ref a from rx)
  cases (show u = Value.ref b from ry)
  obtain ⟨us, r1, p1, _⟩ := I.list ha
  obtain ⟨ws, r2, p2, _⟩ := I.list hb
  cases xs with
  | nil =>
    have e1 : us = [] := List.length_eq_zero_iff.mp r1.length.symm
    have e2 : ws = [] := List.length_eq_zero_iff.mp r2.length.symm
    subst e1
    subst e2
    refine SeqAt.rcP_lists (e := fun _ => true) p1.isList p2.isList rfl (by omega) (fun j h1 => absurd h1 (Nat.not_lt_zero j)) _ _ ?_
    exact ⟨.bl true, H, I, rfl, q⟩
  | cons z zs =>
    refine SeqAt.RcAt.lists_lengths p1.isList p2.isList ?_ (by omega) _ _ _ _ ⟨.bl false, H, I, rfl, q⟩
    have l1 := r1.length
    have l2 := r2.length
    rw [List.size_toArray, List.size_toArray, ← l1, ← l2]
    rfl
theorem hu100 {k : Nat} {A : Around} (hr : Room k A) : A.units + 100 < cLine := by
  have := hr.un
  omega
abbrev rSortedDI : RC := fun xs H Q => ∃ (a : Addr) (kvs : List (Key × V)) (ks : List Int), xs = [.ref a] ∧ Rd H a (.dK kvs) ∧ kvs.map (·.1) = ks.map Sum.inl ∧ ks.length < 64 ∧
  ∀ (ys : List Int) (p : Addr), ys.Perm ks → ys.Pairwise (· ≤ ·) → H p = none → Q (.ref p) (upd H p (.lst (ys.map V.int)))
end U

set_option Elab.async false
set_option linter.all false
set_option maxRecDepth 100000
set_option maxHeartbeats 4000000
/-! Rows and sums: models, and promises of ways. -/
namespace G
open PySem PySem.Spec PyProof.Rows L2 U
abbrev Rw := List (Int × List Int)
abbrev Gs := List (Int × (List Int × Int))
/-! ### dicts with whole numbers as keys, by a model -/
section
variable {α : Type} {ent : Key × V → Int × α → Prop} {kvs : List (Key × V)} {l : List (Int × α)}
def lookA (l : List (Int × α)) (k : Int) : Option α := (l.find? fun q => decide (q.1 = k)).map (·.2)
def putA (l : List (Int × α)) (k : Int) (x : α) : List (Int × α) := if (l.any fun q => decide (q.1 = k)) = true then l.map (fun q => if q.1 = k then (q.1, x) else q) else l ++ [(k, x)]
theorem lookA_cons (q : Int × α) (r : List (Int × α)) (k : Int) : lookA (q :: r) k = if q.1 = k then some q.2 else lookA r k := by
  unfold lookA
  by_cases h : q.1 = k
  · rw [List.find?_cons, decide_eq_true h, if_pos h]
    rfl
  · rw [List.find?_cons, decide_eq_false h, if_neg h]
theorem lookA_mem {k : Int} {x : α} : ∀ {l : List (Int × α)}, lookA l k = some x → (k, x) ∈ l
  | [], h => by cases h
  | q :: r, h => by
    rw [lookA_cons] at h
    by_cases e : q.1 = k
    · rw [if_pos e] at h
      have := Option.some.inj h
      subst this
      rw [← e]
      exact List.mem_cons_self ..
    · rw [if_neg e] at h
      exact List.mem_cons_of_mem _ (lookA_mem h)
theorem lookA_none {k : Int} : ∀ {l : List (Int × α)}, lookA l k = none ↔ k ∉ l.map (·.1)
  | [] => by simp [lookA]
  | q :: r => by
    rw [lookA_cons, List.map_cons, List.mem_cons]
    by_cases e : q.1 = k
    · rw [if_pos e]
      simp [e]
    · rw [if_neg e, lookA_none (l := r)]
      simp [Ne.symm e]
theorem lookA_of_mem {k : Int} {x : α} : ∀ {l : List (Int × α)}, (l.map (·.1)).Nodup → (k, x) ∈ l → lookA l k = some x
  | [], _, h => by cases h
  | q :: r, nd, h => by
    rw [List.map_cons, List.nodup_cons] at nd
    rw [lookA_cons]
    rcases List.mem_cons.mp h with e | h
    · rw [← e, if_pos rfl]
    · rw [if_neg (fun e => nd.1 (by rw [e]; exact List.mem_map.mpr ⟨_, h, rfl⟩))]
      exact lookA_of_mem nd.2 h
theorem da_val (hk : ∀ kv q, ent kv q → kv.1 = Sum.inl q.1) (h : Paired ent kvs l) (k : Int) : (valV kvs (Sum.inl k) = none ∧ lookA l k = none) ∨ ∃ v x, valV kvs (Sum.inl k) = some v ∧ lookA l k = some x ∧ ent (Sum.inl k, v) (k, x) := by
  induction h with
  | nil => exact .inl ⟨rfl, rfl⟩
  | @cons p q ps qs hd _ ih =>
    have e1 := hk _ _ hd
    rw [lookA_cons]
    by_cases c : q.1 = k
    · right
      refine ⟨p.2, q.2, valV_pos (by rw [e1, c]), by rw [if_pos c], ?_⟩
      have : (Sum.inl k, p.2) = p := by rw [← c, ← e1]
      rw [this, ← c]
      exact hd
    · rw [if_neg c, valV_neg (by rw [e1]; exact fun z => c (Sum.inl.inj z))]
      exact ih
theorem da_any (hk : ∀ kv q, ent kv q → kv.1 = Sum.inl q.1) (h : Paired ent kvs l) (k : Int) : (kvs.any fun kv => decide (kv.1 = Sum.inl k)) = l.any fun q => decide (q.1 = k) := by
  induction h with
  | nil => rfl
  | @cons p q ps qs hd _ ih =>
    rw [List.any_cons, List.any_cons, ih, hk _ _ hd]
    congr 1
    by_cases c : q.1 = k
    · rw [decide_eq_true c, decide_eq_true (by rw [c])]
    · rw [decide_eq_false c, decide_eq_false fun z => c (Sum.inl.inj z)]
theorem da_map (hk : ∀ kv q, ent kv q → kv.1 = Sum.inl q.1) (h : Paired ent kvs l) {k : Int} {v : V} {x : α} (he : ent (Sum.inl k, v) (k, x)) :
    Paired ent (kvs.map fun kv => if kv.1 = Sum.inl k then (kv.1, v) else kv) (l.map fun q => if q.1 = k then (q.1, x) else q) := by
  induction h with
  | nil => exact .nil
  | @cons p q ps qs hd _ ih =>
    have e1 := hk _ _ hd
    refine .cons ?_ ih
    dsimp only
    by_cases c : q.1 = k
    · rw [if_pos c, if_pos (by rw [e1, c]), e1, c]
      exact he
    · rw [if_neg c, if_neg (by rw [e1]; exact fun z => c (Sum.inl.inj z))]
      exact hd
theorem paired_app {α β : Type} {R : α → β → Prop} {as cs : List α} {bs ds : List β} (h : Paired R as bs) (g : Paired R cs ds) : Paired R (as ++ cs) (bs ++ ds) := by
  induction h with
  | nil => exact g
  | cons a _ ih => exact .cons a ih
theorem da_put (hk : ∀ kv q, ent kv q → kv.1 = Sum.inl q.1) (h : Paired ent kvs l) {k : Int} {v : V} {x : α} (he : ent (Sum.inl k, v) (k, x)) : Paired ent (putK kvs (Sum.inl k) v) (putA l k x) := by
  unfold putK putA
  rw [da_any hk h k]
  by_cases c : (l.any fun q => decide (q.1 = k)) = true
  · rw [if_pos c, if_pos c]
    exact da_map hk h he
  · rw [if_neg c, if_neg c]
    exact paired_app h (.cons he .nil)
theorem da_keys (hk : ∀ kv q, ent kv q → kv.1 = Sum.inl q.1) (h : Paired ent kvs l) : kvs.map (·.1) = (l.map (·.1)).map Sum.inl := by
  induction h with
  | nil => rfl
  | cons hd _ ih => rw [List.map_cons, List.map_cons, List.map_cons, ih, hk _ _ hd]
theorem paired_at {α β : Type} {R : α → β → Prop} {as : List α} {bs : List β} (h : Paired R as bs) : ∀ {i : Nat} {a : α}, as[i]? = some a → ∃ b, bs[i]? = some b ∧ R a b := by
  induction h with
  | nil => intro i a e; cases e
  | cons hd _ ih =>
    intro i a e
    cases i with
    | zero =>
      cases e
      exact ⟨_, rfl, hd⟩
    | succ i => exact ih (i := i) e
theorem putA_new {k : Int} {x : α} (h : k ∉ l.map (·.1)) : putA l k x = l ++ [(k, x)] := by
  unfold putA
  rw [if_neg]
  intro z
  obtain ⟨q, hq, e⟩ := List.any_eq_true.mp z
  exact h (List.mem_map.mpr ⟨q, hq, of_decide_eq_true e⟩)
end
/-! ### rows -/
def rowEnt (K : PySem.W.Frag) (H : Hp) (kv : Key × V) (r : Int × List Int) : Prop := kv.1 = Sum.inl r.1 ∧ ∃ t, kv.2 = .ref t ∧ SqT K H t (r.2.map V.int)
theorem rowEnt_k {K : PySem.W.Frag} {H : Hp} : ∀ kv r, rowEnt K H kv r → kv.1 = Sum.inl r.1 := fun _ _ h => h.1
theorem rowEnt_same {K : PySem.W.Frag} {H H' : Hp} (s : Same H H') : ∀ kv r, rowEnt K H kv r → rowEnt K H' kv r := fun _ _ ⟨e, t, e2, h⟩ => ⟨e, t, e2, Same.seqT s h⟩
/-- the people are whole numbers from 1 to 60 -/
structure Good (R : Rw) : Prop where
  nd : (R.map (·.1)).Nodup
  rng : ∀ r ∈ R, 0 < r.1 ∧ r.1 ≤ 60
  few : R.length < 62
structure RowsAt (K : PySem.W.Frag) (H : Hp) (a : Addr) (R : Rw) : Prop where
  ex : ∃ kvs, H a = some (.dK kvs) ∧ Paired (rowEnt K H) kvs R
  ok : Good R
theorem RowsAt.keep {K : PySem.W.Frag} {H H' : Hp} {a : Addr} {R : Rw} (h : RowsAt K H a R) (s : Same H H') : RowsAt K H' a R := by
  obtain ⟨kvs, e, p⟩ := h.ex
  exact ⟨⟨kvs, s _ _ e, L2.Paired.mapP p (rowEnt_same s)⟩, h.ok⟩
def Wd (R : Rw) (n : Nat) : Prop := ∀ r ∈ R, r.2.length = n
theorem nodup_sub : ∀ {l m : List Int}, l.Nodup → l ⊆ m → l.length ≤ m.length
  | [], _, _, _ => Nat.zero_le _
  | a :: r, m, nd, hs => by
    rw [List.nodup_cons] at nd
    have ha := hs (List.mem_cons_self ..)
    have h1 := nodup_sub (m := m.erase a) nd.2 fun x hx => (List.mem_erase_of_ne (fun e => nd.1 (by rw [← e]; exact hx))).mpr (hs (List.mem_cons_of_mem _ hx))
    rw [List.length_erase_of_mem ha] at h1
    have := List.length_pos_of_mem ha
    rw [List.length_cons]
    omega
theorem nodup_len {l : List Int} {n : Nat} (nd : l.Nodup) (h : ∀ k ∈ l, 0 < k ∧ k ≤ n) : l.length ≤ n := by
  have h2 : l ⊆ (List.range n).map fun i => ((i : Nat) : Int) + 1 := fun k hk => by
    have := h k hk
    exact List.mem_map.mpr ⟨(k - 1).toNat, List.mem_range.mpr (by omega), by omega⟩
  have h3 := nodup_sub nd h2
  rw [List.length_map, List.length_range] at h3
  exact h3
theorem Good.of {R : Rw} (nd : (R.map (·.1)).Nodup) (rng : ∀ r ∈ R, 0 < r.1 ∧ r.1 ≤ 60) : Good R := ⟨nd, rng, by
  have := nodup_len (n := 60) nd (fun k hk => by
    obtain ⟨r, hr, rfl⟩ := List.mem_map.mp hk
    exact rng r hr)
  rw [List.length_map] at this
  omega⟩
theorem Good.perm {R R' : Rw} (p : R'.Perm R) (g : Good R) : Good R' := .of ((p.map _).nodup_iff.mpr g.nd) fun r hr => g.rng r (p.mem_iff.mp hr)
theorem Good.sub {R R' : Rw} (p : R'.Sublist R) (g : Good R) : Good R' := .of (g.nd.sublist (p.map _)) fun r hr => g.rng r (p.subset hr)
/-! ### the ways -/
def cutR (cs : List Nat) (R : Rw) : Rw := R.map fun r => (r.1, cs.map fun c => r.2.getD c 0)
def joinRow (B : Rw) (r : Int × List Int) : Option (Int × List Int) := (lookA B r.1).map fun b => (r.1, r.2 ++ b)
def joinR (A B : Rw) : Rw := A.filterMap (joinRow B)
def keyR (by_ : Option Nat) (row : List Int) : Int := match by_ with
  | none => 0
  | some c => row.getD c 0
def byV : Option Nat → V
  | none => .non
  | some c => .int (c : Int)
/-- person, key, number -/
abbrev Ent := Int × Int × Int
def entR (col : Nat) (by_ : Option Nat) (R : Rw) : List Ent := R.map fun r => (r.1, keyR by_ r.2, r.2.getD col 0)
def ents (col : Nat) (by_ : Option Nat) (Rs : List Rw) : List Ent := Rs.flatMap (entR col by_)
def sumOf (es : List Ent) (k : Int) : Int := ((es.filter fun e => decide (e.2.1 = k)).map (·.2.2)).sum
/-- what a sum is -/
structure Sm (es : List Ent) (G : Gs) : Prop where
  nd : (G.map (·.1)).Nodup
  cov : ∀ e ∈ es, e.2.1 ∈ G.map (·.1)
  hit : ∀ g ∈ G, ∃ e ∈ es, e.2.1 = g.1
  srt : ∀ g ∈ G, g.2.1.Pairwise (· < ·)
  mem : ∀ g ∈ G, ∀ p, p ∈ g.2.1 ↔ ∃ e ∈ es, e.2.1 = g.1 ∧ e.1 = p
  num : ∀ g ∈ G, g.2.2 = sumOf es g.1
def sumEnt (K : PySem.W.Frag) (H : Hp) (kv : Key × V) (g : Int × (List Int × Int)) : Prop := kv.1 = Sum.inl g.1 ∧ ∃ t l, kv.2 = .ref t ∧ SqT K H t [.ref l, .int g.2.2] ∧ H l = some (.lst (g.2.1.map V.int))
theorem sumEnt_k {K : PySem.W.Frag} {H : Hp} : ∀ kv r, sumEnt K H kv r → kv.1 = Sum.inl r.1 := fun _ _ h => h.1
theorem sumEnt_same {K : PySem.W.Frag} {H H' : Hp} (s : Same H H') : ∀ kv r, sumEnt K H kv r → sumEnt K H' kv r := fun _ _ ⟨e, t, l, e2, h, h2⟩ => ⟨e, t, l, e2, Same.seqT s h, s _ _ h2⟩
def SumsAt (K : PySem.W.Frag) (H : Hp) (a : Addr) (G : Gs) : Prop := ∃ kvs, H a = some (.dK kvs) ∧ Paired (sumEnt K H) kvs G
theorem SumsAt.keep {K : PySem.W.Frag} {H H' : Hp} {a : Addr} {G : Gs} (h : SumsAt K H a G) (s : Same H H') : SumsAt K H' a G := by
  obtain ⟨kvs, e, p⟩ := h
  exact ⟨kvs, s _ _ e, L2.Paired.mapP p (sumEnt_same s)⟩
/-- sums whose lists are of a sort -/
def sumEntZ (Z : Addr → Prop) (K : PySem.W.Frag) (H : Hp) (kv : Key × V) (g : Int × (List Int × Int)) : Prop := kv.1 = Sum.inl g.1 ∧ ∃ t l, kv.2 = .ref t ∧ SqT K H t [.ref l, .int g.2.2] ∧ H l = some (.lst (g.2.1.map V.int)) ∧ Z l
theorem sumEntZ_k {Z : Addr → Prop} {K : PySem.W.Frag} {H : Hp} : ∀ kv r, sumEntZ Z K H kv r → kv.1 = Sum.inl r.1 := fun _ _ h => h.1
theorem sumEntZ_same {Z : Addr → Prop} {K : PySem.W.Frag} {H H' : Hp} (s : Same H H') : ∀ kv r, sumEntZ Z K H kv r → sumEntZ Z K H' kv r := fun _ _ ⟨e, t, l, e2, h, h2, z⟩ => ⟨e, t, l, e2, Same.seqT s h, s _ _ h2, z⟩
def SumsZ (Z : Addr → Prop) (K : PySem.W.Frag) (H : Hp) (a : Addr) (G : Gs) : Prop := ∃ kvs, H a = some (.dK kvs) ∧ Paired (sumEntZ Z K H) kvs G
theorem SumsZ.keep {Z : Addr → Prop} {K : PySem.W.Frag} {H H' : Hp} {a : Addr} {G : Gs} (h : SumsZ Z K H a G) (s : Same H H') : SumsZ Z K H' a G := by
  obtain ⟨kvs, e, p⟩ := h
  exact ⟨kvs, s _ _ e, L2.Paired.mapP p (sumEntZ_same s)⟩
theorem SumsZ.imp {Z Z' : Addr → Prop} {K : PySem.W.Frag} {H : Hp} {a : Addr} {G : Gs} (h : SumsZ Z K H a G) (f : ∀ l, Z l → Z' l) : SumsZ Z' K H a G := by
  obtain ⟨kvs, e, p⟩ := h
  exact ⟨kvs, e, L2.Paired.mapP p fun kv g ⟨e, t, l, e2, h, h2, z⟩ => ⟨e, t, l, e2, h, h2, f l z⟩⟩
theorem SumsZ.at {Z : Addr → Prop} {K : PySem.W.Frag} {H : Hp} {a : Addr} {G : Gs} (h : SumsZ Z K H a G) : SumsAt K H a G := by
  obtain ⟨kvs, e, p⟩ := h
  exact ⟨kvs, e, L2.Paired.mapP p fun kv g ⟨e, t, l, e2, h, h2, _⟩ => ⟨e, t, l, e2, h, h2⟩⟩
/-! ### promises -/
def sp_need (K : PySem.W.Frag) : Sp := fun vs H Q E => match vs with
  | [.bl b] => (b = true → Q .non H) ∧ (b = false → E (.ref (He.ga K "NoWay")) none H)
  | _ => False
def sp_is_column (K : PySem.W.Frag) : Sp := fun vs H Q _ => match vs with
  | [.int c, .int n] => Q (.bl (decide (0 ≤ c) && decide (c < n))) H
  | _ => False
def sp_width_of (K : PySem.W.Frag) : Sp := fun vs H Q E => match vs with
  | [.ref a] => ∃ R n, RowsAt K H a R ∧ Wd R n ∧ (R = [] → E (.ref (He.ga K "NoWay")) none H) ∧ (R ≠ [] → ∀ H', Same H H' → Q (.int (n : Int)) H')
  | _ => False
def sp_copied (K : PySem.W.Frag) : Sp := fun vs H Q E => match vs with
  | [.ref a] => ∃ R, RowsAt K H a R ∧ (R = [] → E (.ref (He.ga K "NoWay")) none H) ∧ (R ≠ [] → ∀ p R' H', R'.Perm R → RowsAt K H' p R' → H p = none → Same H H' → Q (.ref p) H')
  | _ => False
def sp_cut (K : PySem.W.Frag) : Sp := fun vs H Q E => match vs with
  | [.ref a, .ref c] => ∃ R n, ∃ cs : List Nat, RowsAt K H a R ∧ Wd R n ∧ R ≠ [] ∧ SqL K H c (cs.map fun (i : Nat) => V.int (i : Int)) ∧ 1 ≤ cs.length ∧ cs.length ≤ 12 ∧ (∀ i ∈ cs, i < n) ∧
    ∀ p R' H', R'.Perm (cutR cs R) → RowsAt K H' p R' → H p = none → Same H H' → Q (.ref p) H'
  | _ => False
def sp_joined (K : PySem.W.Frag) : Sp := fun vs H Q E => match vs with
  | [.ref a, .ref b] => ∃ A B n m, RowsAt K H a A ∧ RowsAt K H b B ∧ Wd A n ∧ Wd B m ∧ A ≠ [] ∧ B ≠ [] ∧ 1 ≤ n ∧ n + m ≤ 12 ∧
    ∀ p R' H', R'.Perm (joinR A B) → RowsAt K H' p R' → H p = none → Same H H' → Q (.ref p) H'
  | _ => False
def sp_key_of (K : PySem.W.Frag) : Sp := fun vs H Q _ => match vs with
  | [.ref t, v] => ∃ (xs : List Int) (by_ : Option Nat), v = byV by_ ∧ SqT K H t (xs.map V.int) ∧ (∀ c, by_ = some c → c < xs.length) ∧ Q (.int (keyR by_ xs)) H
  | _ => False
def sp_summed (K : PySem.W.Frag) : Sp := fun vs H Q E => match vs with
  | [.ref l, .int c, v] => ∃ (as : List Addr) (Rs : List Rw) (col : Nat) (by_ : Option Nat), c = (col : Int) ∧ v = byV by_ ∧ SqL K H l (as.map V.ref) ∧ Paired (fun a R => RowsAt K H a R ∧ R ≠ [] ∧ ∃ n, Wd R n ∧ col < n ∧ ∀ b, by_ = some b → b < n) as Rs ∧
    1 ≤ Rs.length ∧ Rs.length ≤ 8 ∧ ∀ p G H', Sm (ents col by_ Rs) G → SumsZ (fun l => H l = none) K H' p G → H p = none → Same H H' → Q (.ref p) H'
  | _ => False
end G

set_option Elab.async false
set_option linter.all false
set_option maxRecDepth 100000
set_option maxHeartbeats 4000000

/-! Readings, printed by gen.py. -/
namespace G
open PySem PySem.Spec PyProof.Rows L2 U
abbrev N_need : List Str := ["truth"]
def t_need (K : PySem.W.Frag) (W : WX) : TS :=
  (tIfS (tNot (tB (tVar 0))) (tRs (He.ga K "NoWay") W) tNext)
abbrev N_copied : List Str := ["rows", "found", "person"]
def t_copied (K : PySem.W.Frag) (W : WX) : TS :=
  (tSeq (tDrop (tCl (sp_need K) [] (WE W) (tCons (tOp rGtI (tCB rLenDc (tCons (tVar 0) tNil)) (tC (.int 0))) tNil)))
  (tSeq (tAsg tDNewK (gName 1))
  (tSeq (tFor (iList K (tCB rSortedDI (tCons (tVar 0) tNil))) (gName 2) (sDPut (tVar 1) (tVar 2) (tDGet (tVar 0) (tVar 2))))
  (tRet (tVar 1)))))
abbrev N_is_column : List Str := ["thing", "width"]
def t_is_column (K : PySem.W.Frag) : TS :=
  (tRet (tAndV (tCB (rIsi K) (tCons (tVar 0) (tCons (tC (.ty "int")) tNil))) (tAndV (tNotV (tCB (rIsi K) (tCons (tVar 0) (tCons (tC (.ty "bool")) tNil)))) (tChain rLeI rLtI (tC (.int 0)) (tVar 0) (tVar 1)))))
abbrev N_width_of : List Str := ["rows", "row"]
def t_width_of (K : PySem.W.Frag) (W : WX) : TS :=
  (tSeq (tDrop (tCl (sp_need K) [] (WE W) (tCons (tOp rGtI (tCB rLenDc (tCons (tVar 0) tNil)) (tC (.int 0))) tNil)))
  (tRet (tCB (rMax K) (tCons (tLockE (tLc (iVals (tVar 0)) (gName 1) tYes (tCB (rLenSeq K) (tCons (tVar 1) tNil)) [1])) tNil))))
abbrev N_cut : List Str := ["rows", "columns", "width", "found", "person", "column"]
def t_cut (K : PySem.W.Frag) (W : WX) : TS :=
  (tSeq (tAsg (tCl (sp_width_of K) [] (WE W) (tCons (tVar 0) tNil)) (gName 2))
  (tSeq (tDrop (tCl (sp_need K) [] (WE W) (tCons (tAndV (tCB (rIsiT K) (tCons (tVar 1) (tCons (tTup (tCons (tC (.ty "list")) (tCons (tC (.ty "tuple")) tNil))) tNil))) (tChain rLeI rLeI (tC (.int 1)) (tCB (rLenSeq K) (tCons (tVar 1) tNil)) (tC (.int 12)))) tNil)))
  (tSeq (tDrop (tCl (sp_need K) [] (WE W) (tCons (tCB (rAll K) (tCons (tLc (iList K (tVar 1)) (gName 5) tYes (tCl (sp_is_column K) [] ES0 (tCons (tVar 5) (tCons (tVar 2) tNil))) [5]) tNil)) tNil)))
  (tSeq (tAsg tDNewK (gName 3))
  (tSeq (tFor (iList K (tCB rSortedDI (tCons (tVar 0) tNil))) (gName 4) (sDPut (tVar 3) (tVar 4) (tCB (rTupleOf K) (tCons (tLc (iList K (tVar 1)) (gName 5) tYes (tOp (rIxT K) (tDGet (tVar 0) (tVar 4)) (tVar 5)) [5]) tNil))))
  (tRet (tVar 3)))))))
abbrev N_joined : List Str := ["one", "other", "found", "person"]
def t_joined (K : PySem.W.Frag) (W : WX) : TS :=
  (tSeq (tDrop (tCl (sp_need K) [] (WE W) (tCons (tOp rLeI (tOp rAddI (tCl (sp_width_of K) [] (WE W) (tCons (tVar 0) tNil)) (tCl (sp_width_of K) [] (WE W) (tCons (tVar 1) tNil))) (tC (.int 12))) tNil)))
  (tSeq (tAsg tDNewK (gName 2))
  (tSeq (tFor (iList K (tCB rSortedDI (tCons (tVar 0) tNil))) (gName 3) (tIfS (tB (tDIn (tVar 3) (tVar 1))) (sDPut (tVar 2) (tVar 3) (tOp (rCatT K) (tDGet (tVar 0) (tVar 3)) (tDGet (tVar 1) (tVar 3)))) tNext))
  (tRet (tVar 2)))))
abbrev N_key_of : List Str := ["row", "by"]
def t_key_of (K : PySem.W.Frag) : TS :=
  (tSeq (tIfS (tTest (tOp rIsNn (tVar 1) (tC .non))) (tRet (tC (.int 0))) tNext)
  (tRet (tOp (rIxT K) (tVar 0) (tVar 1))))
abbrev N_summed : List Str := ["some", "column", "by", "rows", "found", "person", "key", "people", "number"]
def t_summed (K : PySem.W.Frag) (W : WX) (w : World) : TS :=
  (tSeq (tDrop (tCl (sp_need K) [] (WE W) (tCons (tAndV (tCB (rIsiT K) (tCons (tVar 0) (tCons (tTup (tCons (tC (.ty "list")) (tCons (tC (.ty "tuple")) tNil))) tNil))) (tChain rLeI rLeI (tC (.int 1)) (tCB (rLenSeq K) (tCons (tVar 0) tNil)) (tC (.int 8)))) tNil)))
  (tSeq (tFor (iList K (tVar 0)) (gName 3) (tDrop (tCl (sp_need K) [] (WE W) (tCons (tAndV (tCl (sp_is_column K) [] ES0 (tCons (tVar 1) (tCons (tCl (sp_width_of K) [] (WE W) (tCons (tVar 3) tNil)) tNil))) (tOrV (tOp rIsNn (tVar 2) (tC .non)) (tCl (sp_is_column K) [] ES0 (tCons (tVar 2) (tCons (tCl (sp_width_of K) [] (WE W) (tCons (tVar 3) tNil)) tNil))))) tNil))))
  (tSeq (tAsg tDNewK (gName 4))
  (tSeq (tFor (iList K (tVar 0)) (gName 3) (tLock (tFor (iKeys (tVar 3)) (gName 5) (tSeq (tAsg (tCl (sp_key_of K) [] ES0 (tCons (tDGet (tVar 3) (tVar 5)) (tCons (tVar 2) tNil))) (gName 6))
  (tSeq (tAsg (tDGet2 (tVar 4) (tVar 6) (tTup (tCons (tLst tNil) (tCons (tC (.int 0)) tNil)))) (gTup K 2 (gCons (gName 7) (gCons (gName 8) gNil))))
  (sDPut (tVar 4) (tVar 6) (tTup (tCons (tCB (rSortedSet w) (tCons (tCB (rSetL K w) (tCons (tOp rCat (tVar 7) (tLst (tCons (tVar 5) tNil))) tNil)) tNil)) (tCons (tOp rAddI (tVar 8) (tOp (rIxT K) (tDGet (tVar 3) (tVar 5)) (tVar 1))) tNil)))))))))
  (tRet (tVar 4))))))
end G

set_option Elab.async false
set_option linter.all false
set_option maxRecDepth 100000
set_option maxHeartbeats 4000000
/-! The readings of ways keep their promises. -/
namespace G
open PySem PySem.Spec PyProof.Rows L2 U
variable {K : PySem.W.Frag}
/-! ### loops and comprehensions over dicts -/
theorem thaw2 {H H' : Hp} {u : Addr} {od : Obj} {o : HO} (h : H u = some o) (s : ∀ b x, b ≠ u → H b = some x → H' b = some x) : Same H (upd H' u o) := fun b x e => by
  by_cases hb : b = u
  · subst hb
    rw [upd_same]
    rw [h] at e
    exact e
  · rw [upd_ne hb]
    exact s b x hb e
theorem lcv {te : TE} {σ : L2.St} {H : Hp} {Q : VK} {j v : Nat} {d : Addr} {o : Obj} {kvs : List (Key × V)} (f : V → V) (hv : σ[v]? = some (some (.ref d))) (hd : H d = some (.frz o (.dK kvs))) (hl : kvs.length ≤ 1000)
    (he : ∀ kv ∈ kvs, ∀ acc D (R : VK), H D = none → R (f kv.2) (upd H D (.lst acc)) → te ((wipe σ [j]).set j (some kv.2)) (upd H D (.lst acc)) R)
    (k : ∀ D, H D = none → Q (.ref D) (upd H D (.lst (kvs.map fun kv => f kv.2)))) : tLc (iVals (tVar v)) (gName j) tYes te [j] σ H Q := by
  refine ⟨_, hv, d, o, kvs, rfl, hd, fun D hD => ?_⟩
  refine ⟨fun i m H' => m + i = kvs.length ∧ H' = upd H D (.lst ((kvs.take i).map fun kv => f kv.2)), ⟨kvs.length, rfl, rfl⟩, fun i m H' h => ?_⟩
  obtain ⟨hm, rfl⟩ := h
  have fz : (upd H D (.lst ((kvs.take i).map fun kv => f kv.2))) d = some (.frz o (.dK kvs)) := (upd_ne (ne_of_none hd hD)).trans hd
  rcases Nat.lt_or_ge i kvs.length with lt | ge
  · refine .inr ⟨⟨fz, lt⟩, fun H' => H' = upd H D (.lst ((kvs.take (i + 1)).map fun kv => f kv.2)), fun H' e => ⟨m - 1, by omega, by omega, e⟩, ?_⟩
    rintro x H' ⟨rfl, kk, hk⟩
    refine ⟨wipe1, he (kk, x) (List.mem_of_getElem? hk) _ D _ hD ⟨_, upd_same, ?_, ?_⟩⟩
    · rw [List.length_map, List.length_take, sizeLine_eq]
      omega
    · rw [upd_upd, take_snoc hk, List.map_append]
      rfl
  · have e : i = kvs.length := by omega
    subst e
    refine .inl ⟨⟨fz, Nat.le_refl _⟩, ?_⟩
    rw [List.take_length]
    exact k D hD
/-- for over a dict's keys, the dict locked -/
theorem for_keys {d : Addr} {o : Obj} {kvs : List (Key × V)} {g : TG} {tb : TS} {D : Ends} {σ : L2.St} {H : Hp} (Pv : Nat → L2.St → Hp → Prop) (h0 : Pv 0 σ H) (hl : ∀ i σ H, Pv i σ H → H d = some (.frz o (.dK kvs)))
    (hs : ∀ i kv σ H, kvs[i]? = some kv → Pv i σ H → g (kV kv.1) σ H fun σ2 H2 => tb { D with nx := Pv (i + 1), ct := Pv (i + 1), bk := D.nx } σ2 H2) (hd : ∀ σ H, Pv kvs.length σ H → D.nx σ H) :
    ∃ W : Nat → Nat → L2.St → Hp → Prop, (∃ m, W 0 m σ H) ∧ ∀ i m σ H, W i m σ H →
      ((Itk d o kvs).stop i H ∧ D.nx σ H) ∨ ((Itk d o kvs).go i H ∧ ∃ N : L2.St → Hp → Prop, (∀ σ' H', N σ' H' → ∃ m', m' < m ∧ W (i + 1) m' σ' H') ∧ ∀ x H', (Itk d o kvs).yld i H x H' → g x σ H' fun σ2 H2 => tb { D with nx := N, ct := N, bk := D.nx } σ2 H2) := by
  refine ⟨fun i m σ H => m + i = kvs.length ∧ Pv i σ H, ⟨kvs.length, rfl, h0⟩, fun i m σ H ⟨hm, pv⟩ => ?_⟩
  have fz := hl i σ H pv
  rcases Nat.lt_or_ge i kvs.length with lt | ge
  · refine .inr ⟨⟨fz, lt⟩, Pv (i + 1), fun σ' H' z => ⟨m - 1, by omega, by omega, z⟩, ?_⟩
    rintro _ _ ⟨rfl, k, v, hk, rfl⟩
    exact hs i (k, v) σ _ hk pv
  · have ei : i = kvs.length := by omega
    subst ei
    exact .inl ⟨⟨fz, Nat.le_refl _⟩, hd σ H pv⟩
/-! ### a dict of rows that is being made -/
theorem seqT_dict {H : Hp} {d t : Addr} {kvs : List (Key × V)} {o : HO} {xs : List V} (hd : H d = some (.dK kvs)) (h : SqT K H t xs) : SqT K (upd H d o) t xs := by
  rcases h with (h | ⟨q, h⟩) | h
  · exact .inl (.inl ((upd_ne (ne_of h hd (by intro z; cases z))).trans h))
  · exact .inl (.inr ⟨q, (upd_ne (ne_of h hd (by intro z; cases z))).trans h⟩)
  · exact .inr h
def Bld (K : PySem.W.Frag) (H : Hp) (d : Addr) (F : Rw) : Prop := ∃ kvs, H d = some (.dK kvs) ∧ Paired (rowEnt K H) kvs F
theorem Bld.put {H : Hp} {d : Addr} {F : Rw} {kvs : List (Key × V)} {k : Int} {v : V} {x : List Int} (hd : H d = some (.dK kvs)) (hp : Paired (rowEnt K H) kvs F) (he : rowEnt K H (Sum.inl k, v) (k, x)) :
    Bld K (upd H d (.dK (putK kvs (Sum.inl k) v))) d (putA F k x) := by
  refine ⟨_, upd_same, L2.Paired.mapP (da_put rowEnt_k hp he) fun kv r h => ?_⟩
  obtain ⟨e, t, e2, h⟩ := h
  exact ⟨e, t, e2, seqT_dict hd h⟩
theorem Bld.keep {H H' : Hp} {d : Addr} {F : Rw} (h : Bld K H d F) (s : Same H H') : Bld K H' d F := by
  obtain ⟨kvs, e, p⟩ := h
  exact ⟨kvs, s _ _ e, L2.Paired.mapP p (rowEnt_same s)⟩
/-- a row of a person who is there -/
theorem row_at {H : Hp} {kvs : List (Key × V)} {R : Rw} (p : Paired (rowEnt K H) kvs R) {k : Int} (hk : k ∈ R.map (·.1)) : ∃ t x, valV kvs (Sum.inl k) = some (.ref t) ∧ lookA R k = some x ∧ SqT K H t (x.map V.int) := by
  rcases da_val rowEnt_k p k with ⟨_, h⟩ | ⟨v, x, h1, h2, e, t, e2, h3⟩
  · exact absurd hk (lookA_none.mp h)
  · have e2 : v = .ref t := e2
    subst e2
    exact ⟨t, x, h1, h2, h3⟩
def rowA (R : Rw) (k : Int) : List Int := (lookA R k).getD []
theorem rowA_self {R : Rw} (nd : (R.map (·.1)).Nodup) : (R.map (·.1)).map (fun k => (k, rowA R k)) = R := by
  rw [List.map_map]
  refine (List.map_congr_left fun r hr => ?_).trans (List.map_id R)
  show (r.1, rowA R r.1) = r
  unfold rowA
  rw [lookA_of_mem nd (show (r.1, r.2) ∈ R from hr)]
  rfl
theorem perm_rows {R : Rw} (nd : (R.map (·.1)).Nodup) {ys : List Int} (h : ys.Perm (R.map (·.1))) : (ys.map fun k => (k, rowA R k)).Perm R := by
  have := h.map fun k => (k, rowA R k)
  rw [rowA_self nd] at this
  exact this
theorem paired_len2 {α β : Type} {R : α → β → Prop} {xs : List α} {ys : List β} (h : Paired R xs ys) : xs.length = ys.length := paired_len h
theorem take_fresh {ys : List Int} {i : Nat} {k : Int} (nd : ys.Nodup) (h : ys[i]? = some k) : k ∉ ys.take i := fun z => by
  have n2 : (ys.take (i + 1)).Nodup := nd.sublist (List.take_sublist _ _)
  rw [take_snoc h, List.nodup_append] at n2
  exact n2.2.2 k z k (List.mem_singleton.mpr rfl) rfl
theorem pure_need (vs : List V) (H : Hp) (Q : VK) (E : XK) (h : sp_need K vs H Q E) : t_need K (fun cls d _ H => E cls d H) { nx := fun _ H' => Q .non H', rt := Q } (start N_need vs) H := by
  unfold sp_need at h
  split at h
  · rename_i b
    refine ⟨_, rfl, b, rfl, ?_⟩
    cases b
    · exact iteT (h.2 rfl)
    · exact iteF (h.1 rfl)
  · exact h.elim
theorem kII : kitB "int" "int" = some true := by decide +kernel
theorem kIB : kitB "int" "bool" = some false := by decide +kernel
theorem pure_is_column (vs : List V) (H : Hp) (Q : VK) (E : XK) (h : sp_is_column K vs H Q E) : t_is_column K { nx := fun _ H' => Q .non H', rt := Q } (start N_is_column vs) H := by
  unfold sp_is_column at h
  split at h
  · rename_i c n
    refine ⟨_, rfl, _, _, _, _, _, rfl, .ty "int", .base (.int c), kit_ty kII, true, rfl, iteT ?_⟩
    refine ⟨_, rfl, _, _, _, _, _, rfl, .ty "bool", .base (.int c), kit_ty kIB, false, rfl, true, rfl, iteT ?_⟩
    refine ⟨_, rfl, _, _, rfl, rfl, _, rfl, ?_⟩
    by_cases h0 : 0 ≤ c
    · rw [decide_eq_true h0] at h ⊢
      exact iteT ⟨_, rfl, _, _, rfl, rfl, h⟩
    · rw [decide_eq_false h0] at h ⊢
      exact iteF h
  · exact h.elim
theorem pure_key_of (vs : List V) (H : Hp) (Q : VK) (E : XK) (h : sp_key_of K vs H Q E) : t_key_of K { nx := fun _ H' => Q .non H', rt := Q } (start N_key_of vs) H := by
  unfold sp_key_of at h
  split at h
  · rename_i t v
    obtain ⟨xs, by_, rfl, hs, hb, q⟩ := h
    refine ⟨_, rfl, rfl, _, rfl, ?_⟩
    cases by_ with
    | none => exact iteT q
    | some c =>
      have lt := hb c rfl
      refine iteF ⟨_, rfl, _, rfl, t, _, _, _, rfl, rfl, hs, atI_nat (j := c) (by rw [List.getElem?_map, List.getElem?_eq_getElem lt]; rfl), ?_⟩
      have e : keyR (some c) xs = xs[c] := by
        show xs.getD c 0 = _
        rw [List.getD_eq_getElem?_getD, List.getElem?_eq_getElem lt]
        rfl
      rw [e] at q
      exact q
  · exact h.elim
theorem pure_width_of (vs : List V) (H : Hp) (Q : VK) (E : XK) (h : sp_width_of K vs H Q E) : t_width_of K (fun cls d _ H => E cls d H) { nx := fun _ H' => Q .non H', rt := Q } (start N_width_of vs) H := by
  unfold sp_width_of at h
  split at h
  · rename_i a
    obtain ⟨R, n, rw, wd, k0, k1⟩ := h
    obtain ⟨kvs, hd, hp⟩ := rw.ex
    have hl := paired_len hp
    have few := rw.ok.few
    refine ⟨_, rfl, a, kvs, rfl, hd, _, _, rfl, rfl, fun hb => ?_, fun hb => ?_⟩
    · have h0 : 0 < kvs.length := by
        have := of_decide_eq_true hb
        omega
      have ne : R ≠ [] := fun e => by
        rw [e] at hl
        simp at hl
        rw [hl] at h0
        simp at h0
      refine ⟨a, .dK kvs, hd, trivial, fun od => ?_⟩
      have lens : ∀ kv ∈ kvs, ∃ (t : Addr) (xs : List Int), kv.2 = V.ref t ∧ SqT K H t (xs.map V.int) ∧ xs.length = n := fun kv hkv => by
        obtain ⟨i, hi⟩ := List.mem_iff_getElem?.mp hkv
        obtain ⟨r, hr, _, t, e, ht⟩ := paired_at hp hi
        exact ⟨t, r.2, e, ht, wd r (List.mem_of_getElem? hr)⟩
      refine lcv (o := od) (kvs := kvs) (fun _ => V.int (n : Int)) rfl upd_same (by omega) (fun kv hkv acc D R hD r => ?_) (fun D hD => ?_)
      · obtain ⟨t, xs, e, ht, hn⟩ := lens kv hkv
        rw [e]
        have ht2 : SqT K (upd (upd H a (.frz od (.dK kvs))) D (.lst acc)) t (xs.map V.int) := Same.seqT (same_new hD) (seqT_dict hd ht)
        refine ⟨_, rfl, t, _, rfl, .inr ht2, ?_⟩
        rw [List.length_map, hn]
        exact r
      · have naD : a ≠ D := fun e => by
          rw [← e, upd_same] at hD
          cases hD
        refine ⟨(upd_ne naD).trans upd_same, D, kvs.map fun _ => (n : Int), rfl, SqL.of ?_, by rw [List.length_map]; exact h0, fun m hm _ => ?_⟩
        · rw [upd_ne naD.symm, upd_same, List.map_map]
          rfl
        · obtain ⟨_, _, e⟩ := List.mem_map.mp hm
          rw [← e]
          refine k1 ne _ (thaw2 (od := od) hd fun b x hb e => ?_)
          have : b ≠ D := fun z => by
            rw [← z, upd_ne hb, e] at hD
            cases hD
          rw [upd_ne this, upd_ne hb]
          exact e
    · have h0 : kvs.length = 0 := by
        have := of_decide_eq_false hb
        omega
      exact k0 (List.length_eq_zero_iff.mp (by rw [← hl]; exact h0))
  · exact h.elim
theorem pure_copied (vs : List V) (H : Hp) (Q : VK) (E : XK) (h : sp_copied K vs H Q E) : t_copied K (fun cls d _ H => E cls d H) { nx := fun _ H' => Q .non H', rt := Q } (start N_copied vs) H := by
  unfold sp_copied at h
  split at h
  · rename_i a
    obtain ⟨R, rw, k0, k1⟩ := h
    obtain ⟨kvs, hd, hp⟩ := rw.ex
    have hl := paired_len hp
    have few := rw.ok.few
    refine ⟨_, rfl, a, kvs, rfl, hd, _, _, rfl, rfl, fun hb => ?_, fun hb => ?_⟩
    · have h0 : 0 < kvs.length := by
        have := of_decide_eq_true hb
        omega
      have ne : R ≠ [] := fun e => by
        rw [e] at hl
        simp at hl
        rw [hl] at h0
        simp at h0
      intro d nd
      have s1 := same_new (o := .dK []) nd
      refine ⟨_, rfl, a, kvs, R.map (·.1), rfl, .inl (s1 _ _ hd), da_keys rowEnt_k hp, by rw [List.length_map]; omega, fun ys p py sy np => ?_⟩
      have nodup : ys.Nodup := py.nodup_iff.mpr rw.ok.nd
      have ylen : ys.length = R.length := by rw [py.length_eq, List.length_map]
      have s2 := s1.new (o := .lst (ys.map V.int)) np
      have ndp : d ≠ p := fun e => by
        rw [← e, upd_same] at np
        cases np
      refine ⟨p, rfl, ⟨_, SqL.of upd_same⟩, for_list (K := K) (a := p) (xs := ys.map V.int)
        (fun i σ H' => ∃ v2, σ = [some (.ref a), some (.ref d), v2] ∧ Same H H' ∧ H' p = some (.lst (ys.map V.int)) ∧ Bld K H' d ((ys.take i).map fun k => (k, rowA R k)))
        ⟨_, rfl, s2, upd_same, _, (upd_ne ndp).trans upd_same, .nil⟩ (fun i σ H' _ ⟨_, _, _, e, _⟩ => SqL.of e) ?_ ?_⟩
      · rintro i y σ H' hi ⟨v2, rfl, sH, hpp, fk, hfk, pf⟩
        rw [List.getElem?_map] at hi
        cases hy : ys[i]? with
        | none => rw [hy] at hi; cases hi
        | some k =>
          rw [hy] at hi
          cases hi
          have km : k ∈ R.map (·.1) := py.mem_iff.mp (List.mem_of_getElem? hy)
          obtain ⟨t, x, hv, hx, ht⟩ := row_at (L2.Paired.mapP hp (rowEnt_same sH)) km
          have ex : rowA R k = x := by
            unfold rowA
            rw [hx]
            rfl
          have fl := paired_len pf
          rw [List.length_map, List.length_take] at fl
          have hnew : k ∉ ((ys.take i).map fun k => (k, rowA R k)).map (·.1) := by
            rw [List.map_map]
            intro z
            obtain ⟨k', hk', e⟩ := List.mem_map.mp z
            have e : k' = k := e
            subst e
            exact take_fresh nodup hy hk'
          refine ⟨_, rfl, _, rfl, a, .ref t, rfl, .inl ⟨kvs, Sum.inl k, .inl (sH _ _ hd), rfl, hv.symm⟩, _, rfl, _, rfl, d, _, rfl, DPut.k (k := Sum.inl k) hfk (by rw [fl, sizeLine_eq]; omega), ?_⟩
          refine ⟨_, rfl, U.Same.mut sH nd, (upd_ne (Ne.symm ndp)).trans hpp, ?_⟩
          have b := Bld.put (k := k) (v := .ref t) (x := x) hfk pf ⟨rfl, t, rfl, ht⟩
          rw [putA_new hnew] at b
          rw [take_snoc hy, List.map_append]
          show Bld K _ d (_ ++ [(k, rowA R k)])
          rw [ex]
          exact b
      · rintro σ H' ⟨v2, rfl, sH, hpp, b⟩
        rw [List.length_map, List.take_length] at b
        have pr := perm_rows rw.ok.nd py
        obtain ⟨fk, hfk, pf⟩ := b
        exact ⟨_, rfl, k1 ne d _ H' pr ⟨⟨fk, hfk, pf⟩, rw.ok.perm pr⟩ nd sH⟩
    · have h0 : kvs.length = 0 := by
        have := of_decide_eq_false hb
        omega
      exact k0 (List.length_eq_zero_iff.mp (by rw [← hl]; exact h0))
  · exact h.elim
/-! ### cut -/
theorem kLL : kitB "list" "list" = some true := by decide +kernel
theorem tyL {H : Hp} {a : Addr} {xs : List V} (h : SqL K H a xs) : TyX K H (.ref a) (.type "list") := by
  rcases h with (h | ⟨o, h⟩) | h
  · exact .base (.lst h)
  · exact .base (.frz h)
  · obtain ⟨o, its, n, hk, hc, _⟩ := h
    exact .kList hk hc
theorem kitLT : PySem.W.kitAny K (.type "list") [.type "list", .type "tuple"] = some true := kitAny_cons (b := true) (kit_ty kLL) (fun e => by cases e) (fun _ => rfl)
/-- isinstance(x, (list, tuple)) and 1 <= len(x) <= most, of a list -/
theorem need_seq {H : Hp} {Q : VK} {W : WX} {σ : L2.St} {i : Nat} {c : Addr} {xs : List V} {most : Int} (hi : σ[i]? = some (some (.ref c))) (hc : SqL K H c xs) (h1 : 1 ≤ xs.length) (hm : (xs.length : Int) ≤ most) (k : ∀ H', Same H H' → Q .non H') :
    (tCl (sp_need K) [] (WE W) (tCons (tAndV (tCB (rIsiT K) (tCons (tVar i) (tCons (tTup (tCons (tC (.ty "list")) (tCons (tC (.ty "tuple")) tNil))) tNil))) (tChain rLeI rLeI (tC (.int 1)) (tCB (rLenSeq K) (tCons (tVar i) tNil)) (tC (.int most)))) tNil)) σ H Q := by
  refine ⟨_, hi, (by show 2 ≤ sizeLine; decide), fun t nt => ?_⟩
  have s1 := same_new (o := .tup [V.ty "list", V.ty "tuple"]) nt
  refine ⟨_, t, _, _, _, true, rfl, upd_same, .cons (.ty _) (.cons (.ty _) .nil), tyL (s1.seq hc), kitLT, true, rfl, iteT ?_⟩
  refine ⟨_, hi, c, _, rfl, .inl (s1.seq hc), _, _, rfl, rfl, _, rfl, ?_⟩
  rw [decide_eq_true (show (1 : Int) ≤ xs.length by omega)]
  exact iteT ⟨_, _, rfl, rfl, fun _ => k _ s1, fun z => absurd hm (of_decide_eq_false z)⟩
def colB (n : Nat) : V → V
  | .int c => .bl (decide (0 ≤ c) && decide (c < (n : Int)))
  | _ => .bl false
theorem getI {xs : List Int} {c : Nat} (h : c < xs.length) : atI (xs.map V.int) (c : Int) = some (V.int (xs.getD c 0)) := by
  refine atI_nat ?_
  rw [List.getElem?_map, List.getD_eq_getElem?_getD, List.getElem?_eq_getElem h]
  rfl
def cutV' (x : List Int) : V → V
  | .int c => .int (x.getD c.toNat 0)
  | _ => .non
theorem pure_cut (vs : List V) (H : Hp) (Q : VK) (E : XK) (h : sp_cut K vs H Q E) : t_cut K (fun cls d _ H => E cls d H) { nx := fun _ H' => Q .non H', rt := Q } (start N_cut vs) H := by
  unfold sp_cut at h
  split at h
  · rename_i a c
    obtain ⟨R, n, cs, rw, wd, ne, hc, c1, c12, cn, q⟩ := h
    have lenC : (cs.map fun (i : Nat) => V.int (i : Int)).length = cs.length := List.length_map _
    refine ⟨_, rfl, R, n, rw, wd, fun e => absurd e ne, fun _ H1 s1 => ?_⟩
    refine need_seq rfl (s1.seq hc) (by rw [lenC]; exact c1) (by rw [lenC]; omega) fun H2 s2 => ?_
    have s02 := s1.trans s2
    have hc2 := s02.seq hc
    refine ⟨_, rfl, c, rfl, ⟨_, hc2⟩, fun D hD => ?_⟩
    refine lcl_m (colB n) hc2 hD (by rw [lenC]; omega) (fun v acc R' hv r => ?_) ?_
    · obtain ⟨i, hi, rfl⟩ := List.mem_map.mp hv
      exact ⟨_, rfl, _, rfl, r⟩
    have allT : ((cs.map fun (i : Nat) => V.int (i : Int)).map (colB n)) = (cs.map fun _ => true).map V.bl := by
      rw [List.map_map, List.map_map]
      refine List.map_congr_left fun i hi => ?_
      show V.bl (decide (0 ≤ (i : Int)) && decide ((i : Int) < (n : Int))) = V.bl true
      have := cn i hi
      rw [decide_eq_true (by omega), decide_eq_true (by omega)]
      rfl
    refine ⟨D, cs.map fun _ => true, rfl, SqL.of (by rw [upd_same, allT]), ?_⟩
    have e1 : (cs.map fun _ => true).all id = true := by
      rw [List.all_map]
      exact List.all_eq_true.mpr fun _ _ => rfl
    rw [e1]
    refine ⟨fun _ => ?_, fun z => by cases z⟩
    have s3 := s02.new (o := .lst ((cs.map fun (i : Nat) => V.int (i : Int)).map (colB n))) hD
    generalize upd H2 D (.lst ((cs.map fun (i : Nat) => V.int (i : Int)).map (colB n))) = H3 at s3 ⊢
    obtain ⟨kvs, hd, hp⟩ := (rw.keep s3).ex
    have hc3 := s3.seq hc
    have few := rw.ok.few
    intro d nd
    have s4 := same_new (o := .dK []) nd
    refine ⟨_, rfl, a, kvs, R.map (·.1), rfl, .inl (s4 _ _ hd), da_keys rowEnt_k hp, by rw [List.length_map]; omega, fun ys p py sy np => ?_⟩
    have nodup : ys.Nodup := py.nodup_iff.mpr rw.ok.nd
    have ylen : ys.length = R.length := by rw [py.length_eq, List.length_map]
    have s5 := s4.new (o := .lst (ys.map V.int)) np
    have ndp : d ≠ p := fun e => by
      rw [← e, upd_same] at np
      cases np
    let F : Int → Int × List Int := fun k => (k, cs.map fun i => (rowA R k).getD i 0)
    refine ⟨p, rfl, ⟨_, SqL.of upd_same⟩, for_list (K := K) (a := p) (xs := ys.map V.int)
      (fun i σ H' => ∃ v4, σ = [some (.ref a), some (.ref c), some (.int (n : Int)), some (.ref d), v4, none] ∧ Same H3 H' ∧ H' p = some (.lst (ys.map V.int)) ∧ Bld K H' d ((ys.take i).map F))
      ⟨_, rfl, s5, upd_same, _, (upd_ne ndp).trans upd_same, .nil⟩ (fun i σ H' _ ⟨_, _, _, e, _⟩ => SqL.of e) ?_ ?_⟩
    · rintro i y σ H' hi ⟨v4, rfl, sH, hpp, b⟩
      rw [List.getElem?_map] at hi
      cases hy : ys[i]? with
      | none => rw [hy] at hi; cases hi
      | some k =>
        rw [hy] at hi
        cases hi
        have km : k ∈ R.map (·.1) := py.mem_iff.mp (List.mem_of_getElem? hy)
        obtain ⟨t, x, hv, hx, ht⟩ := row_at (L2.Paired.mapP hp (rowEnt_same sH)) km
        have ex : rowA R k = x := by
          unfold rowA
          rw [hx]
          rfl
        have xl : x.length = n := wd (k, x) (lookA_mem hx)
        refine ⟨_, rfl, c, rfl, ⟨_, sH.seq hc3⟩, fun D2 hD2 => ?_⟩
        refine lcl_m (cutV' x) (sH.seq hc3) hD2 (by rw [lenC]; omega) (fun v acc R' hv' r => ?_) ?_
        · obtain ⟨j, hj, rfl⟩ := List.mem_map.mp hv'
          have sD := same_new (o := .lst acc) hD2
          exact ⟨_, rfl, _, rfl, a, .ref t, rfl, .inl ⟨kvs, Sum.inl k, .inl (sD _ _ (sH _ _ hd)), rfl, hv.symm⟩, _, rfl, t, _, _, _, rfl, rfl, Same.seqT sD ht, getI (by rw [xl]; exact cn j hj), r⟩
        have eL : (cs.map fun (i : Nat) => V.int (i : Int)).map (cutV' x) = (cs.map fun i => x.getD i 0).map V.int := by
          rw [List.map_map, List.map_map]
          rfl
        rw [eL]
        have sD := same_new (o := .lst ((cs.map fun i => x.getD i 0).map V.int)) hD2
        refine ⟨D2, _, rfl, .inl ⟨SqL.of upd_same, fun l nl => ?_⟩⟩
        have sl := sD.new (o := .tup ((cs.map fun i => x.getD i 0).map V.int)) nl
        obtain ⟨fk, hfk, pf⟩ := b.keep sl
        have fl := paired_len pf
        rw [List.length_map, List.length_take] at fl
        have hnew : k ∉ ((ys.take i).map F).map (·.1) := by
          rw [List.map_map]
          intro z
          obtain ⟨k', hk', e⟩ := List.mem_map.mp z
          have e : k' = k := e
          subst e
          exact take_fresh nodup hy hk'
        have hd0 : (upd (upd H' D2 (.lst ((cs.map fun i => x.getD i 0).map V.int))) l (.tup ((cs.map fun i => x.getD i 0).map V.int))) d = some (.dK fk) := hfk
        refine ⟨_, rfl, _, rfl, d, _, rfl, DPut.k (k := Sum.inl k) hfk (by rw [fl, sizeLine_eq]; omega), ?_⟩
        refine ⟨_, rfl, U.Same.mut (sH.trans sl) nd, (upd_ne (Ne.symm ndp)).trans (sl _ _ hpp), ?_⟩
        have b := Bld.put (k := k) (v := .ref l) (x := cs.map fun i => x.getD i 0) hfk pf ⟨rfl, l, rfl, .inl (.inl upd_same)⟩
        rw [putA_new hnew] at b
        rw [take_snoc hy, List.map_append]
        show Bld K _ d (_ ++ [F k])
        have eF : F k = (k, cs.map fun i => x.getD i 0) := by
          show (k, cs.map fun i => (rowA R k).getD i 0) = _
          rw [ex]
        rw [eF]
        exact b
    · rintro σ H' ⟨v4, rfl, sH, hpp, b⟩
      rw [List.length_map, List.take_length] at b
      have pr : (ys.map F).Perm (cutR cs R) := by
        have := (perm_rows rw.ok.nd py).map fun r : Int × List Int => (r.1, cs.map fun i => r.2.getD i 0)
        rw [List.map_map] at this
        exact this
      have gd : Good (cutR cs R) := .of (by
        unfold cutR
        rw [List.map_map]
        exact rw.ok.nd) fun r hr => by
          obtain ⟨r', hr', rfl⟩ := List.mem_map.mp hr
          exact rw.ok.rng r' hr'
      obtain ⟨fk, hfk, pf⟩ := b
      exact ⟨_, rfl, q d _ H' pr ⟨⟨fk, hfk, pf⟩, gd.perm pr⟩ (s3.free nd) (s3.trans sH)⟩
  · exact h.elim
/-! ### joined -/
theorem joinR_good {A B : Rw} (g : Good A) : Good (joinR A B) := by
  have sub : (joinR A B).map (·.1) = (A.filter fun r => (lookA B r.1).isSome).map (·.1) := by
    unfold joinR
    induction A with
    | nil => rfl
    | cons r A ih =>
      have ih := ih (g.sub (List.sublist_cons_self ..))
      unfold joinRow at ih ⊢
      cases hb : lookA B r.1 with
      | none => simp only [List.filterMap_cons, List.filter_cons, hb, Option.map_none, Option.isSome_none, Bool.false_eq_true, if_false]; exact ih
      | some b => simp only [List.filterMap_cons, List.filter_cons, hb, Option.map_some, Option.isSome_some, if_true, List.map_cons, ih]
  refine .of ?_ fun r hr => ?_
  · rw [sub]
    exact g.nd.sublist ((List.filter_sublist).map _)
  · obtain ⟨r', hr', e⟩ := List.mem_filterMap.mp hr
    unfold joinRow at e
    cases hb : lookA B r'.1 with
    | none => rw [hb] at e; cases e
    | some b =>
      rw [hb] at e
      cases e
      exact g.rng r' hr'
theorem pure_joined (vs : List V) (H : Hp) (Q : VK) (E : XK) (h : sp_joined K vs H Q E) : t_joined K (fun cls d _ H => E cls d H) { nx := fun _ H' => Q .non H', rt := Q } (start N_joined vs) H := by
  unfold sp_joined at h
  split at h
  · rename_i a b
    obtain ⟨A, B, n, m, rA, rB, wA, wB, neA, neB, n1, n12, q⟩ := h
    refine ⟨_, rfl, A, n, rA, wA, fun e => absurd e neA, fun _ H1 s1 => ?_⟩
    refine ⟨_, rfl, B, m, rB.keep s1, wB, fun e => absurd e neB, fun _ H2 s2 => ?_⟩
    refine ⟨_, _, rfl, rfl, _, _, rfl, rfl, fun _ => ?_, fun z => absurd (show (n : Int) + (m : Int) ≤ 12 by omega) (of_decide_eq_false z)⟩
    have s3 := s1.trans s2
    obtain ⟨kvs, hd, hp⟩ := (rA.keep s3).ex
    obtain ⟨kvb, hdb, hpb⟩ := (rB.keep s3).ex
    have few := rA.ok.few
    intro d nd
    have s4 := same_new (o := .dK []) nd
    refine ⟨_, rfl, a, kvs, A.map (·.1), rfl, .inl (s4 _ _ hd), da_keys rowEnt_k hp, by rw [List.length_map]; omega, fun ys p py sy np => ?_⟩
    have nodup : ys.Nodup := py.nodup_iff.mpr rA.ok.nd
    have ylen : ys.length = A.length := by rw [py.length_eq, List.length_map]
    have s5 := s4.new (o := .lst (ys.map V.int)) np
    have ndp : d ≠ p := fun e => by
      rw [← e, upd_same] at np
      cases np
    let F : Int → Option (Int × List Int) := fun k => joinRow B (k, rowA A k)
    have Fkey : ∀ k r, F k = some r → r.1 = k := fun k r e => by
      have e : (lookA B k).map (fun b => (k, rowA A k ++ b)) = some r := e
      cases hb : lookA B k with
      | none => rw [hb] at e; cases e
      | some b => rw [hb] at e; cases e; rfl
    refine ⟨p, rfl, ⟨_, SqL.of upd_same⟩, for_list (K := K) (a := p) (xs := ys.map V.int)
      (fun i σ H' => ∃ v3, σ = [some (.ref a), some (.ref b), some (.ref d), v3] ∧ Same H2 H' ∧ H' p = some (.lst (ys.map V.int)) ∧ Bld K H' d ((ys.take i).filterMap F))
      ⟨_, rfl, s5, upd_same, _, (upd_ne ndp).trans upd_same, .nil⟩ (fun i σ H' _ ⟨_, _, _, e, _⟩ => SqL.of e) ?_ ?_⟩
    · rintro i y σ H' hi ⟨v3, rfl, sH, hpp, bl⟩
      rw [List.getElem?_map] at hi
      cases hy : ys[i]? with
      | none => rw [hy] at hi; cases hi
      | some k =>
        rw [hy] at hi
        cases hi
        have km : k ∈ A.map (·.1) := py.mem_iff.mp (List.mem_of_getElem? hy)
        obtain ⟨t, x, hv, hx, ht⟩ := row_at (L2.Paired.mapP hp (rowEnt_same sH)) km
        have ex : rowA A k = x := by
          unfold rowA
          rw [hx]
          rfl
        have xl : x.length = n := wA (k, x) (lookA_mem hx)
        refine ⟨_, rfl, _, rfl, b, _, rfl, DGet.k (k := Sum.inl k) (sH _ _ hdb), _, rfl, ?_⟩
        rcases da_val rowEnt_k (L2.Paired.mapP hpb (rowEnt_same sH)) k with ⟨h1, h2⟩ | ⟨vb, xb, h1, h2, _, tb, e2, htb⟩
        · rw [h1]
          refine iteF ⟨_, rfl, sH, hpp, ?_⟩
          have : F k = none := by
            show (lookA B k).map _ = none
            rw [h2]
            rfl
          rw [take_snoc hy, List.filterMap_append]
          simp only [List.filterMap_cons, List.filterMap_nil, this, List.append_nil]
          exact bl
        · have e2 : vb = .ref tb := e2
          subst e2
          rw [h1]
          have xbl : xb.length = m := wB (k, xb) (lookA_mem h2)
          have eF : F k = some (k, x ++ xb) := by
            show (lookA B k).map (fun b => (k, rowA A k ++ b)) = _
            rw [h2, ex]
            rfl
          have hnew : k ∉ ((ys.take i).filterMap F).map (·.1) := by
            intro z
            obtain ⟨r, hr, e⟩ := List.mem_map.mp z
            obtain ⟨k', hk', e'⟩ := List.mem_filterMap.mp hr
            have := Fkey k' r e'
            rw [e] at this
            rw [← this] at hk'
            exact take_fresh nodup hy hk'
          have fin : ∀ (l : Addr) (H4 : Hp), Same H' H4 → SqT K H4 l ((x ++ xb).map V.int) → ∃ a_1 H4_1, V.ref d = V.ref a_1 ∧ DPut H4 a_1 (.int k) (.ref l) H4_1 ∧ ∃ v3, [some (V.ref a), some (V.ref b), some (V.ref d), some (V.int k)] = [some (V.ref a), some (V.ref b), some (V.ref d), v3] ∧ Same H2 H4_1 ∧ H4_1 p = some (.lst (ys.map V.int)) ∧ Bld K H4_1 d ((ys.take (i + 1)).filterMap F) := fun l H4 sl hl => by
            obtain ⟨fk, hfk, pf⟩ := bl.keep sl
            have fl := paired_len pf
            have fle : ((ys.take i).filterMap F).length ≤ ys.length := Nat.le_trans (List.length_filterMap_le _ _) (by rw [List.length_take]; omega)
            refine ⟨d, _, rfl, DPut.k (k := Sum.inl k) hfk (by rw [fl, sizeLine_eq]; omega), _, rfl, U.Same.mut (sH.trans sl) nd, (upd_ne (Ne.symm ndp)).trans (sl _ _ hpp), ?_⟩
            have b2 := Bld.put (k := k) (v := .ref l) (x := x ++ xb) hfk pf ⟨rfl, l, rfl, hl⟩
            rw [putA_new hnew] at b2
            rw [take_snoc hy, List.filterMap_append]
            simp only [List.filterMap_cons, List.filterMap_nil, eF]
            exact b2
          refine iteT ⟨_, rfl, _, rfl, a, .ref t, rfl, .inl ⟨kvs, Sum.inl k, .inl (sH _ _ hd), rfl, hv.symm⟩, _, rfl, _, rfl, b, .ref tb, rfl, .inl ⟨kvb, Sum.inl k, .inl (sH _ _ hdb), rfl, h1.symm⟩, t, tb, _, _, rfl, rfl, ht, htb, ?_, ?_, fun e => ?_, fun e l nl => ?_⟩
          · intro z
            have := congrArg List.length z
            rw [List.length_map] at this
            simp at this
            rw [this] at xl
            simp at xl
            omega
          · rw [List.length_map, List.length_map, xl, xbl, sizeLine_eq]
            omega
          · have xb0 : xb = [] := List.map_eq_nil_iff.mp e
            exact ⟨_, rfl, _, rfl, fin t H' (Same.refl H') (by rw [xb0, List.append_nil]; exact ht)⟩
          · exact ⟨_, rfl, _, rfl, fin l _ (same_new nl) (.inl (.inl (by rw [upd_same, List.map_append])))⟩
    · rintro σ H' ⟨v3, rfl, sH, hpp, bl⟩
      rw [List.length_map, List.take_length] at bl
      have pr : (ys.filterMap F).Perm (joinR A B) := by
        have := (perm_rows rA.ok.nd py).filterMap (joinRow B)
        rw [List.filterMap_map] at this
        exact this
      obtain ⟨fk, hfk, pf⟩ := bl
      exact ⟨_, rfl, q d _ H' pr ⟨⟨fk, hfk, pf⟩, (joinR_good rA.ok).perm pr⟩ (s3.free nd) (s3.trans sH)⟩
  · exact h.elim
end G

set_option Elab.async false
set_option linter.all false
set_option maxRecDepth 100000
set_option maxHeartbeats 4000000
/-! summed keeps its promise. -/
namespace G
open PySem PySem.Spec PyProof.Rows L2 U
variable {K : PySem.W.Frag}
/-! ### one entry more -/
theorem putA_keys {α : Type} (l : List (Int × α)) (k : Int) (x : α) : (putA l k x).map (·.1) = if k ∈ l.map (·.1) then l.map (·.1) else l.map (·.1) ++ [k] := by
  unfold putA
  have hany : (l.any fun q => decide (q.1 = k)) = true ↔ k ∈ l.map (·.1) := by
    rw [List.any_eq_true, List.mem_map]
    exact ⟨fun ⟨q, hq, e⟩ => ⟨q, hq, of_decide_eq_true e⟩, fun ⟨q, hq, e⟩ => ⟨q, hq, decide_eq_true e⟩⟩
  by_cases c : k ∈ l.map (·.1)
  · rw [if_pos (hany.mpr c), if_pos c, List.map_map]
    refine List.map_congr_left fun q _ => ?_
    show (if q.1 = k then (q.1, x) else q).1 = q.1
    split <;> rfl
  · rw [if_neg (fun z => c (hany.mp z)), if_neg c, List.map_append]
    rfl
theorem putA_mem {α : Type} {l : List (Int × α)} {k : Int} {x : α} {g : Int × α} (h : g ∈ putA l k x) : g = (k, x) ∨ (g ∈ l ∧ g.1 ≠ k) := by
  unfold putA at h
  by_cases c : (l.any fun q => decide (q.1 = k)) = true
  · rw [if_pos c] at h
    obtain ⟨q, hq, e⟩ := List.mem_map.mp h
    by_cases ck : q.1 = k
    · rw [if_pos ck] at e
      rw [ck] at e
      exact .inl e.symm
    · rw [if_neg ck] at e
      subst e
      exact .inr ⟨hq, ck⟩
  · rw [if_neg c] at h
    rcases List.mem_append.mp h with h | h
    · refine .inr ⟨h, fun e => c (List.any_eq_true.mpr ⟨g, h, decide_eq_true e⟩)⟩
    · exact .inl (List.mem_singleton.mp h)
theorem sumOf_app (es : List Ent) (e : Ent) (k : Int) : sumOf (es ++ [e]) k = sumOf es k + if e.2.1 = k then e.2.2 else 0 := by
  unfold sumOf
  rw [List.filter_append, List.map_append, List.sum_append]
  congr 1
  by_cases c : e.2.1 = k
  · rw [if_pos c]
    simp [c]
  · rw [if_neg c]
    simp [c]
theorem sumOf_none {es : List Ent} {k : Int} (h : ∀ e ∈ es, e.2.1 ≠ k) : sumOf es k = 0 := by
  unfold sumOf
  have : (es.filter fun e => decide (e.2.1 = k)) = [] := List.filter_eq_nil_iff.mpr fun e he => by simp [h e he]
  rw [this]
  rfl
theorem Sm.nil : Sm [] [] := ⟨List.nodup_nil, by simp, by simp, by simp, by simp, by simp⟩
theorem Sm.step {es : List Ent} {G : Gs} {p k v n : Int} {ps ns : List Int} (S : Sm es G) (h : lookA G k = some (ps, n) ∨ (lookA G k = none ∧ ps = [] ∧ n = 0)) (srt : ns.Pairwise (· < ·)) (mem : ∀ x, x ∈ ns ↔ x ∈ ps ∨ x = p) :
    Sm (es ++ [(p, k, v)]) (putA G k (ns, n + v)) := by
  have isn : n = sumOf es k ∧ ∀ x, x ∈ ps ↔ ∃ e ∈ es, e.2.1 = k ∧ e.1 = x := by
    rcases h with h | ⟨h, rfl, rfl⟩
    · have hm := lookA_mem h
      exact ⟨S.num _ hm, S.mem _ hm⟩
    · have no : ∀ e ∈ es, e.2.1 ≠ k := fun e he c => lookA_none.mp h (by rw [← c]; exact S.cov e he)
      refine ⟨(sumOf_none no).symm, fun x => ⟨fun z => (List.not_mem_nil z).elim, fun ⟨e, he, c, _⟩ => absurd c (no e he)⟩⟩
  have keys := putA_keys G k (ns, n + v)
  refine ⟨?_, fun e he => ?_, fun g hg => ?_, fun g hg => ?_, fun g hg x => ?_, fun g hg => ?_⟩
  · rw [keys]
    split
    · exact S.nd
    · rename_i c
      rw [List.nodup_append]
      exact ⟨S.nd, by simp, fun a ha b hb e => c (by rw [← List.mem_singleton.mp hb, ← e]; exact ha)⟩
  · rw [keys]
    rcases List.mem_append.mp he with he | he
    · have := S.cov e he
      split
      · exact this
      · exact List.mem_append_left _ this
    · rw [List.mem_singleton.mp he]
      split
      · assumption
      · exact List.mem_append_right _ (List.mem_singleton.mpr rfl)
  · rcases putA_mem hg with rfl | ⟨hg, _⟩
    · exact ⟨_, List.mem_append_right _ (List.mem_singleton.mpr rfl), rfl⟩
    · obtain ⟨e, he, c⟩ := S.hit g hg
      exact ⟨e, List.mem_append_left _ he, c⟩
  · rcases putA_mem hg with rfl | ⟨hg, _⟩
    · exact srt
    · exact S.srt g hg
  · rcases putA_mem hg with rfl | ⟨hg, nk⟩
    · show x ∈ ns ↔ _
      rw [mem, isn.2]
      constructor
      · rintro (⟨e, he, c⟩ | rfl)
        · exact ⟨e, List.mem_append_left _ he, c⟩
        · exact ⟨_, List.mem_append_right _ (List.mem_singleton.mpr rfl), rfl, rfl⟩
      · rintro ⟨e, he, c1, c2⟩
        rcases List.mem_append.mp he with he | he
        · exact .inl ⟨e, he, c1, c2⟩
        · rw [List.mem_singleton.mp he] at c2
          exact .inr c2.symm
    · rw [S.mem g hg]
      constructor
      · rintro ⟨e, he, c⟩
        exact ⟨e, List.mem_append_left _ he, c⟩
      · rintro ⟨e, he, c1, c2⟩
        rcases List.mem_append.mp he with he | he
        · exact ⟨e, he, c1, c2⟩
        · rw [List.mem_singleton.mp he] at c1
          exact absurd c1.symm nk
  · rcases putA_mem hg with rfl | ⟨hg, nk⟩
    · show n + v = sumOf _ k
      rw [sumOf_app, if_pos rfl, isn.1]
    · rw [sumOf_app, if_neg (fun c => nk c.symm), S.num g hg]
      omega
/-! ### the dict that is made -/
theorem lst_dict {H : Hp} {d l : Addr} {kvs : List (Key × V)} {o : HO} {xs : List V} (hd : H d = some (.dK kvs)) (h : H l = some (.lst xs)) : (upd H d o) l = some (.lst xs) := (upd_ne (ne_of h hd (by intro z; cases z))).trans h
theorem SumsAt.put {H : Hp} {d : Addr} {G : Gs} {kvs : List (Key × V)} {k : Int} {v : V} {x : List Int × Int} (hd : H d = some (.dK kvs)) (hp : Paired (sumEnt K H) kvs G) (he : sumEnt K H (Sum.inl k, v) (k, x)) :
    SumsAt K (upd H d (.dK (putK kvs (Sum.inl k) v))) d (putA G k x) := by
  refine ⟨_, upd_same, L2.Paired.mapP (da_put sumEnt_k hp he) fun kv r h => ?_⟩
  obtain ⟨e, t, l, e2, h, h2⟩ := h
  exact ⟨e, t, l, e2, seqT_dict hd h, lst_dict hd h2⟩
/-- all but a stands as before -/
def But (a : Addr) (H H' : Hp) : Prop := ∀ b x, b ≠ a → H b = some x → H' b = some x
theorem But.seqT {a t : Addr} {H H' : Hp} {kvs : List (Key × V)} {xs : List V} (hd : H a = some (.dK kvs)) (s : But a H H') (h : SqT K H t xs) : SqT K H' t xs := by
  rcases h with (h | ⟨q, h⟩) | h
  · exact .inl (.inl (s _ _ (ne_of h hd (by intro z; cases z)) h))
  · exact .inl (.inr ⟨q, s _ _ (ne_of h hd (by intro z; cases z)) h⟩)
  · exact .inr h
theorem seqT_frz {H : Hp} {a t : Addr} {od : Obj} {kvs : List (Key × V)} {o : HO} {xs : List V} (hd : H a = some (.frz od (.dK kvs))) (h : SqT K H t xs) : SqT K (upd H a o) t xs := by
  rcases h with (h | ⟨q, h⟩) | h
  · exact .inl (.inl ((upd_ne (ne_of h hd (by intro z; cases z))).trans h))
  · exact .inl (.inr ⟨q, (upd_ne (ne_of h hd (by intro z; cases z))).trans h⟩)
  · exact .inr h
theorem SumsAt.thaw {H : Hp} {a d : Addr} {od : Obj} {kvs : List (Key × V)} {o : HO} {G : Gs} (hd : H a = some (.frz od (.dK kvs))) (h : SumsAt K H d G) : SumsAt K (upd H a o) d G := by
  obtain ⟨fk, e, p⟩ := h
  refine ⟨fk, (upd_ne (ne_of e hd (by intro z; cases z))).trans e, L2.Paired.mapP p fun kv r h => ?_⟩
  obtain ⟨e1, t, l, e2, h, h2⟩ := h
  exact ⟨e1, t, l, e2, seqT_frz hd h, (upd_ne (ne_of h2 hd (by intro z; cases z))).trans h2⟩
theorem rise_nodup {l : List Int} (h : l.Pairwise (· < ·)) : l.Nodup := h.imp fun a b => Int.ne_of_lt a b
theorem colT {c : Nat} {n : Nat} (h : c < n) : V.bl (decide (0 ≤ (c : Int)) && decide ((c : Int) < (n : Int))) = V.bl true := by
  rw [decide_eq_true (by omega), decide_eq_true (by omega)]
  rfl
theorem SumsZ.put {Z : Addr → Prop} {H : Hp} {d : Addr} {G : Gs} {kvs : List (Key × V)} {k : Int} {v : V} {x : List Int × Int} (hd : H d = some (.dK kvs)) (hp : Paired (sumEntZ Z K H) kvs G) (he : sumEntZ Z K H (Sum.inl k, v) (k, x)) :
    SumsZ Z K (upd H d (.dK (putK kvs (Sum.inl k) v))) d (putA G k x) := by
  refine ⟨_, upd_same, L2.Paired.mapP (da_put sumEntZ_k hp he) fun kv r h => ?_⟩
  obtain ⟨e, t, l, e2, h, h2, z⟩ := h
  exact ⟨e, t, l, e2, seqT_dict hd h, lst_dict hd h2, z⟩
theorem SumsZ.thaw {Z : Addr → Prop} {H : Hp} {a d : Addr} {od : Obj} {kvs : List (Key × V)} {o : HO} {G : Gs} (hd : H a = some (.frz od (.dK kvs))) (h : SumsZ Z K H d G) : SumsZ Z K (upd H a o) d G := by
  obtain ⟨fk, e, p⟩ := h
  refine ⟨fk, (upd_ne (ne_of e hd (by intro z; cases z))).trans e, L2.Paired.mapP p fun kv r h => ?_⟩
  obtain ⟨e1, t, l, e2, h, h2, z⟩ := h
  exact ⟨e1, t, l, e2, seqT_frz hd h, (upd_ne (ne_of h2 hd (by intro z; cases z))).trans h2, z⟩
abbrev tStep (K : PySem.W.Frag) (w : World) : TS := (tSeq (tAsg (tCl (sp_key_of K) [] ES0 (tCons (tDGet (tVar 3) (tVar 5)) (tCons (tVar 2) tNil))) (gName 6))
  (tSeq (tAsg (tDGet2 (tVar 4) (tVar 6) (tTup (tCons (tLst tNil) (tCons (tC (.int 0)) tNil)))) (gTup K 2 (gCons (gName 7) (gCons (gName 8) gNil))))
  (sDPut (tVar 4) (tVar 6) (tTup (tCons (tCB (rSortedSet w) (tCons (tCB (rSetL K w) (tCons (tOp rCat (tVar 7) (tLst (tCons (tVar 5) tNil))) tNil)) tNil)) (tCons (tOp rAddI (tVar 8) (tOp (rIxT K) (tDGet (tVar 3) (tVar 5)) (tVar 1))) tNil))))))
/-- one person's row -/
theorem sum_step {w : World} {D : Ends} {l a d t : Addr} {od : Obj} {kvs : List (Key × V)} {H1 H : Hp} {k : Int} {x : List Int} {col n : Nat} {by_ : Option Nat} {G : Gs} {es : List Ent} {v6 v7 v8 : Option V}
    (nd : H1 d = none) (fz : H a = some (.frz od (.dK kvs))) (bt : But a H1 H) (hv : valV kvs (Sum.inl k) = some (.ref t)) (ht : SqT K H t (x.map V.int)) (xl : x.length = n) (hc : col < n) (hb : ∀ b, by_ = some b → b < n)
    (sa : SumsZ (fun l => H1 l = none) K H d G) (sm : Sm es G) (rg : ∀ e ∈ es, 0 < e.1 ∧ e.1 ≤ 60) (kr : 0 < k ∧ k ≤ 60) (gl : G.length ≤ 1000)
    (q : ∀ σ H' G', (∃ v6 v7 v8, σ = [some (.ref l), some (.int (col : Int)), some (byV by_), some (.ref a), some (.ref d), some (.int k), v6, v7, v8]) → H' a = some (.frz od (.dK kvs)) → But a H1 H' → SumsZ (fun l => H1 l = none) K H' d G' → Sm (es ++ [(k, keyR by_ x, x.getD col 0)]) G' → G'.length ≤ G.length + 1 → D.nx σ H') :
    tStep K w D [some (.ref l), some (.int (col : Int)), some (byV by_), some (.ref a), some (.ref d), some (.int k), v6, v7, v8] H := by
  have nda : d ≠ a := fun e => by
    obtain ⟨fk, e1, _⟩ := sa
    rw [e, fz] at e1
    cases e1
  refine ⟨_, rfl, _, rfl, a, .ref t, rfl, .inl ⟨kvs, Sum.inl k, .inr ⟨od, fz⟩, rfl, hv.symm⟩, _, rfl, x, by_, rfl, ht, (fun c e => by rw [xl]; exact hb c e), ?_⟩
  obtain ⟨fk, hfk, pf⟩ := sa
  refine ⟨_, rfl, d, rfl, .inl ⟨_, .inl hfk⟩, _, rfl, Nat.zero_le _, fun l0 n0 => ⟨(by show 2 ≤ sizeLine; decide), fun t0 nt0 => ?_⟩⟩
  have s1 := (same_new (o := .lst []) n0).new (o := .tup [V.ref l0, V.int 0]) nt0
  have gl0 := (same_new (o := .tup [V.ref l0, V.int 0]) nt0) _ _ (upd_same (H := H) (a := l0) (o := .lst []))
  have gt0 : (upd (upd H l0 (.lst [])) t0 (.tup [V.ref l0, V.int 0])) t0 = _ := upd_same
  generalize upd (upd H l0 (.lst [])) t0 (.tup [V.ref l0, V.int 0]) = H2 at s1 gl0 gt0 ⊢
  refine ⟨valV fk (Sum.inl (keyR by_ x)), DGet.k (k := Sum.inl (keyR by_ x)) (s1 _ _ hfk), ?_⟩
  -- whatever was there
  have go : ∀ (u lp : Addr) (ps : List Int) (m : Int), SqT K H2 u [.ref lp, .int m] → H2 lp = some (.lst (ps.map V.int)) → (lookA G (keyR by_ x) = some (ps, m) ∨ (lookA G (keyR by_ x) = none ∧ ps = [] ∧ m = 0)) →
      gTup K 2 (gCons (gName 7) (gCons (gName 8) gNil)) (.ref u) [some (.ref l), some (.int (col : Int)), some (byV by_), some (.ref a), some (.ref d), some (.int k), some (.int (keyR by_ x)), v7, v8] H2 ((sDPut (tVar 4) (tVar 6) (tTup (tCons (tCB (rSortedSet w) (tCons (tCB (rSetL K w) (tCons (tOp rCat (tVar 7) (tLst (tCons (tVar 5) tNil))) tNil)) tNil)) (tCons (tOp rAddI (tVar 8) (tOp (rIxT K) (tDGet (tVar 3) (tVar 5)) (tVar 1))) tNil)))) D) := by
    intro u lp ps m hu hlp hlook
    have psr : ps.Nodup ∧ ∀ y ∈ ps, 0 < y ∧ y ≤ 60 := by
      rcases hlook with h | ⟨_, rfl, _⟩
      · have hm := lookA_mem h
        refine ⟨rise_nodup (sm.srt _ hm), fun y hy => ?_⟩
        obtain ⟨e, he, _, c⟩ := (sm.mem _ hm y).mp hy
        rw [← c]
        exact rg e he
      · exact ⟨List.nodup_nil, by simp⟩
    have pl : ps.length ≤ 60 := nodup_len (n := 60) psr.1 psr.2
    refine ⟨u, _, rfl, hu, rfl, _, _, rfl, _, _, rfl, rfl, ?_⟩
    refine ⟨_, rfl, _, rfl, (by show 1 ≤ sizeLine; decide), fun l1 n1 => ⟨lp, l1, _, _, rfl, rfl, (same_new n1) _ _ hlp, upd_same, by rw [List.length_map, sizeLine_eq]; show ps.length + 1 ≤ _; omega, fun l2 n2 => ?_⟩⟩
    have ecat : ps.map V.int ++ [V.int k] = (ps ++ [k]).map V.int := by
      rw [List.map_append]
      rfl
    refine ⟨l2, ps ++ [k], rfl, SqL.of (by rw [upd_same, ecat]), by rw [List.length_append]; simp; omega, fun q0 c nq hcn _ => ?_⟩
    have lc : (ps ++ [k]).length = ps.length + 1 := by simp
    refine ⟨q0, _, c, rfl, upd_same, by omega, fun ns lr srt mem hlen nr => ?_⟩
    have s3 := ((s1.new (o := .lst [V.int k]) n1).new (o := .lst (ps.map V.int ++ [V.int k])) n2).new (o := SetO w q0 (fun j => decide (j ∈ ps ++ [k])) c) nq
    have newL : H1 lr = none := by
      cases e : H1 lr with
      | none => rfl
      | some y =>
        have hH : ∃ y, H lr = some y := by
          by_cases c : lr = a
          · rw [c]
            exact ⟨_, fz⟩
          · exact ⟨y, bt lr y c e⟩
        obtain ⟨y', hy⟩ := hH
        rw [s3 _ _ hy] at nr
        cases nr
    have s4 := s3.new (o := .lst (ns.map V.int)) nr
    have glr : (upd (upd (upd (upd H2 l1 (.lst [V.int k])) l2 (.lst (ps.map V.int ++ [V.int k]))) q0 (SetO w q0 (fun j => decide (j ∈ ps ++ [k])) c)) lr (.lst (ns.map V.int))) lr = _ := upd_same
    generalize upd (upd (upd (upd H2 l1 (.lst [V.int k])) l2 (.lst (ps.map V.int ++ [V.int k]))) q0 (SetO w q0 (fun j => decide (j ∈ ps ++ [k])) c)) lr (.lst (ns.map V.int)) = H4 at s4 glr ⊢
    refine ⟨_, rfl, _, rfl, _, rfl, a, .ref t, rfl, .inl ⟨kvs, Sum.inl k, .inr ⟨od, s4 _ _ fz⟩, rfl, hv.symm⟩, _, rfl, t, _, _, _, rfl, rfl, Same.seqT s4 ht, getI (by rw [xl]; exact hc), _, _, rfl, rfl, (by show 2 ≤ sizeLine; decide), fun tt ntt => ?_⟩
    have s5 := s4.new (o := .tup [V.ref lr, V.int (m + x.getD col 0)]) ntt
    have gtt : (upd H4 tt (.tup [V.ref lr, V.int (m + x.getD col 0)])) tt = _ := upd_same
    have glr5 := (same_new (o := .tup [V.ref lr, V.int (m + x.getD col 0)]) ntt) _ _ glr
    generalize upd H4 tt (.tup [V.ref lr, V.int (m + x.getD col 0)]) = H5 at s5 gtt glr5 ⊢
    have hfk5 := s5 _ _ hfk
    have fl := paired_len pf
    refine ⟨_, rfl, _, rfl, d, _, rfl, DPut.k (k := Sum.inl (keyR by_ x)) hfk5 (by rw [fl, sizeLine_eq]; omega), ?_⟩
    refine q _ _ (putA G (keyR by_ x) (ns, m + x.getD col 0)) ⟨_, _, _, rfl⟩ ((upd_ne (Ne.symm nda)).trans (s5 _ _ fz)) (fun b y nb e => ?_) (SumsZ.put hfk5 (L2.Paired.mapP pf (sumEntZ_same s5)) ⟨rfl, tt, lr, rfl, .inl (.inl gtt), glr5, newL⟩) (sm.step hlook srt fun y => ?_) ?_
    · rw [upd_ne (ne_of_none e nd)]
      exact s5 _ _ (bt b y nb e)
    · rw [mem y, decide_eq_true_eq, List.mem_append, List.mem_singleton]
    · have := congrArg List.length (putA_keys G (keyR by_ x) (ns, m + x.getD col 0))
      rw [List.length_map] at this
      rw [this]
      split
      · rw [List.length_map]
        omega
      · rw [List.length_append, List.length_map]
        simp
  rcases da_val sumEntZ_k pf (keyR by_ x) with ⟨h1, h2⟩ | ⟨v, y, h1, h2, _, u, lp, e2, hu, hlp, _⟩
  · rw [h1]
    exact go t0 l0 [] 0 (.inl (.inl gt0)) gl0 (.inr ⟨h2, rfl, rfl⟩)
  · have e2 : v = .ref u := e2
    subst e2
    rw [h1]
    exact go u lp y.1 y.2 (Same.seqT s1 hu) (s1 _ _ hlp) (.inl h2)
theorem valV_mem {kvs : List (Key × V)} {kv : Key × V} (nd : (kvs.map (·.1)).Nodup) (h : kv ∈ kvs) : valV kvs kv.1 = some kv.2 := by
  induction kvs with
  | nil => cases h
  | cons p r ih =>
    rw [List.map_cons, List.nodup_cons] at nd
    rcases List.mem_cons.mp h with rfl | h
    · exact valV_pos rfl
    · rw [valV_neg fun e => nd.1 (by rw [e]; exact List.mem_map.mpr ⟨_, h, rfl⟩)]
      exact ih nd.2 h
theorem ents_take (col : Nat) (by_ : Option Nat) {Rs : List Rw} {i : Nat} {R : Rw} (h : Rs[i]? = some R) : ents col by_ (Rs.take (i + 1)) = ents col by_ (Rs.take i) ++ entR col by_ R := by
  unfold ents
  rw [take_snoc h, List.flatMap_append]
  simp
theorem pure_summed (w : World) (vs : List V) (H : Hp) (Q : VK) (E : XK) (h : sp_summed K vs H Q E) : t_summed K (fun cls d _ H => E cls d H) w { nx := fun _ H' => Q .non H', rt := Q } (start N_summed vs) H := by
  unfold sp_summed at h
  split at h
  · rename_i l c v
    obtain ⟨as, Rs, col, by_, rfl, rfl, hl, hp, r1, r8, q⟩ := h
    have len := paired_len hp
    have lenA : (as.map V.ref).length = as.length := List.length_map _
    refine need_seq rfl hl (by rw [lenA]; omega) (by rw [lenA]; omega) fun H0 s0 => ?_
    refine ⟨_, rfl, l, rfl, ⟨_, s0.seq hl⟩, ?_⟩
    refine for_list (K := K) (a := l) (xs := as.map V.ref) (fun i σ H' => ∃ v3, σ = [some (.ref l), some (.int (col : Int)), some (byV by_), v3, none, none, none, none, none] ∧ Same H H') ⟨_, rfl, s0⟩ (fun i σ H' _ ⟨_, _, s⟩ => s.seq hl) ?_ ?_
    · rintro i y σ H' hi ⟨v3, rfl, sH⟩
      rw [List.getElem?_map] at hi
      cases ha : as[i]? with
      | none => rw [ha] at hi; cases hi
      | some a =>
        rw [ha] at hi
        cases hi
        obtain ⟨R, hR, rw, ne, n, wd, cn, bn⟩ := paired_at hp ha
        refine ⟨_, rfl, _, rfl, R, n, rw.keep sH, wd, fun e => absurd e ne, fun _ H1 s1 => ⟨true, colT cn, iteT ?_⟩⟩
        refine ⟨_, rfl, rfl, _, rfl, ?_⟩
        cases by_ with
        | none => exact iteT ⟨fun _ => ⟨_, rfl, sH.trans s1⟩, fun z => by cases z⟩
        | some b =>
          refine iteF ⟨_, rfl, _, rfl, R, n, rw.keep (sH.trans s1), wd, fun e => absurd e ne, fun _ H2 s2 => ⟨fun _ => ⟨_, rfl, (sH.trans s1).trans s2⟩, fun z => ?_⟩⟩
          have := V.bl.inj (colT (bn b rfl))
          rw [this] at z
          cases z
    · rintro σ H1 ⟨v3, rfl, s1⟩
      intro d nd
      have sd := same_new (o := .dK []) nd
      refine ⟨_, rfl, l, rfl, ⟨_, (s1.trans sd).seq hl⟩, ?_⟩
      have hp1 : Paired (fun a R => RowsAt K H1 a R ∧ R ≠ [] ∧ ∃ n, Wd R n ∧ col < n ∧ ∀ b, by_ = some b → b < n) as Rs := L2.Paired.mapP hp fun a R z => ⟨z.1.keep s1, z.2⟩
      refine for_list (K := K) (a := l) (xs := as.map V.ref) (fun i σ H' => ∃ v3 v5 v6 v7 v8 G, σ = [some (.ref l), some (.int (col : Int)), some (byV by_), v3, some (.ref d), v5, v6, v7, v8] ∧ Same H1 H' ∧ SumsZ (fun l => H1 l = none) K H' d G ∧ Sm (ents col by_ (Rs.take i)) G ∧ G.length ≤ 62 * i)
        ⟨_, _, _, _, _, [], rfl, sd, ⟨[], upd_same, .nil⟩, Sm.nil, Nat.zero_le _⟩ (fun i σ H' _ ⟨_, _, _, _, _, _, _, s, _⟩ => (s1.trans s).seq hl) ?_ ?_
      · rintro i y σ H2 hi ⟨v3, v5, v6, v7, v8, G, rfl, s2, sa, sm, gl⟩
        rw [List.getElem?_map] at hi
        cases ha : as[i]? with
        | none => rw [ha] at hi; cases hi
        | some a =>
          rw [ha] at hi
          cases hi
          have il : i < as.length := (List.getElem?_eq_some_iff.mp ha).1
          obtain ⟨R, hR, rw, ne, n, wd, cn, bn⟩ := paired_at hp1 ha
          obtain ⟨kvs, hd, pr⟩ := rw.ex
          have hd2 := s2 _ _ hd
          have kl := paired_len pr
          have few := rw.ok.few
          have rgAll : ∀ e ∈ ents col by_ (Rs.take (i + 1)), 0 < e.1 ∧ e.1 ≤ 60 := fun e he => by
            obtain ⟨R', hR', he⟩ := List.mem_flatMap.mp he
            obtain ⟨r, hr, rfl⟩ := List.mem_map.mp he
            obtain ⟨j, hj⟩ := List.mem_iff_getElem?.mp (List.mem_of_mem_take hR')
            have hja : j < as.length := by
              rw [len]
              exact (List.getElem?_eq_some_iff.mp hj).1
            obtain ⟨R2, hR2, rw2, _⟩ := paired_at hp1 (List.getElem?_eq_getElem hja)
            rw [hj] at hR2
            cases hR2
            exact rw2.ok.rng r hr
          refine ⟨a, .dK kvs, hd2, trivial, fun od => ⟨_, rfl, a, od, rfl, .inl ⟨kvs, upd_same, ?_⟩⟩⟩
          have dna : d ≠ a := ne_of_none hd nd |>.symm
          refine for_keys (d := a) (o := od) (kvs := kvs) (fun j σ H' => H' a = some (.frz od (.dK kvs)) ∧ ∃ v5 v6 v7 v8 G', σ = [some (.ref l), some (.int (col : Int)), some (byV by_), some (.ref a), some (.ref d), v5, v6, v7, v8] ∧ But a H1 H' ∧ SumsZ (fun l => H1 l = none) K H' d G' ∧ Sm (ents col by_ (Rs.take i) ++ (entR col by_ R).take j) G' ∧ G'.length ≤ 62 * i + j)
            ⟨upd_same, _, _, _, _, G, rfl, (fun b x nb e => (upd_ne nb).trans (s2 _ _ e)), ?_, by rw [List.take_zero, List.append_nil]; exact sm, gl⟩ (fun j σ H' h => h.1) ?_ ?_
          · obtain ⟨fk, e, p⟩ := sa
            refine ⟨fk, (upd_ne dna).trans e, L2.Paired.mapP p fun kv r h => ?_⟩
            obtain ⟨e1, t, l', e2, h, h2, z⟩ := h
            exact ⟨e1, t, l', e2, seqT_dict hd2 h, lst_dict hd2 h2, z⟩
          · rintro j kv σ H3 hj ⟨fz, w5, w6, w7, w8, G3, rfl, bt, sa3, sm3, gl3⟩
            obtain ⟨r, hr, ek, t, et, ht⟩ := paired_at pr hj
            obtain ⟨kk, vv⟩ := kv
            have ek : kk = Sum.inl r.1 := ek
            have et : vv = .ref t := et
            subst ek
            subst et
            have rm : r ∈ R := List.mem_of_getElem? hr
            have hval : valV kvs (Sum.inl r.1) = some (.ref t) := valV_mem (by
              rw [da_keys rowEnt_k pr]
              exact List.Pairwise.map Sum.inl (fun a b h e => h (Sum.inl.inj e)) rw.ok.nd) (List.mem_of_getElem? hj)
            have jl : j < R.length := (List.getElem?_eq_some_iff.mp hr).1
            have hje : (entR col by_ R)[j]? = some (r.1, keyR by_ r.2, r.2.getD col 0) := by
              unfold entR
              rw [List.getElem?_map, hr]
              rfl
            show tStep K w _ _ H3
            refine sum_step (n := n) nd fz bt hval (But.seqT hd bt ht) (wd r rm) cn bn sa3 sm3 (fun e he => ?_) (rw.ok.rng r rm) (by omega) fun σ' H4 G4 ⟨u6, u7, u8, eσ⟩ fz4 bt4 sa4 sm4 gl4 => ?_
            · refine rgAll e ?_
              rw [ents_take col by_ hR]
              rcases List.mem_append.mp he with he | he
              · exact List.mem_append_left _ he
              · exact List.mem_append_right _ (List.mem_of_mem_take he)
            · subst eσ
              refine ⟨fz4, _, _, _, _, G4, rfl, bt4, sa4, ?_, by omega⟩
              rw [take_snoc hje, ← List.append_assoc]
              exact sm4
          · rintro σ H3 ⟨fz, w5, w6, w7, w8, G3, rfl, bt, sa3, sm3, gl3⟩
            refine ⟨fz, _, _, _, _, _, G3, rfl, ?_, SumsZ.thaw fz sa3, ?_, by rw [kl] at gl3; omega⟩
            · exact thaw2 (od := od) hd fun b x nb e => bt b x nb e
            · rw [ents_take col by_ hR]
              have e1 : (entR col by_ R).take kvs.length = entR col by_ R := List.take_of_length_le (by
                unfold entR
                rw [List.length_map, kl]
                exact Nat.le_refl _)
              rw [e1] at sm3
              exact sm3
      · rintro σ H2 ⟨v3, v5, v6, v7, v8, G, rfl, s2, sa, sm, gl⟩
        rw [lenA, len, List.take_length] at sm
        exact ⟨_, rfl, q d G H2 sm (sa.imp fun l h => s1.free h) (s1.free nd) (s1.trans s2)⟩
  · exact h.elim
end G

set_option Elab.async false
set_option linter.all false
set_option maxRecDepth 100000
set_option maxHeartbeats 4000000
/-! Promises of the ways for any arguments: told, or refused with NoWay. -/
namespace G
open PySem PySem.Spec PyProof.Rows L2 U
/-- a value of a built-in type -/
def Tk (K : PySem.W.Frag) (H : Hp) (v : V) : Prop := ∃ T : String, TyX K H v (.type T) ∧ T ∈ tyNames
theorem Tk.same {K : PySem.W.Frag} {H H' : Hp} {v : V} (s : Same H H') (h : Tk K H v) : Tk K H' v := by
  obtain ⟨T, h, m⟩ := h
  exact ⟨T, TyX.same s h, m⟩
def isCol (v : V) (n : Int) : Bool := match v with
  | .int c => decide (0 ≤ c) && decide (c < n)
  | _ => false
def colN : V → Nat
  | .int c => c.toNat
  | _ => 0
def byN : V → Option Nat
  | .int c => some c.toNat
  | _ => none
theorem isCol_nat {v : V} {n : Nat} (h : isCol v n = true) : v = .int ((colN v : Nat) : Int) ∧ colN v < n := by
  unfold isCol at h
  split at h
  · rename_i c
    rw [Bool.and_eq_true, decide_eq_true_eq, decide_eq_true_eq] at h
    have e : colN (.int c) = c.toNat := rfl
    rw [e]
    exact ⟨by congr 1; omega, by omega⟩
  · cases h
structure OkCut (R : Rw) (n : Nat) (xs : List V) : Prop where
  ne : R ≠ []
  lo : 1 ≤ xs.length
  hi : xs.length ≤ 12
  all : ∀ v ∈ xs, isCol v n = true
/-- rows that can be summed so -/
structure OkRow (c v : V) (R : Rw) (n : Nat) : Prop where
  ne : R ≠ []
  col : isCol c n = true
  by_ : v = .non ∨ isCol v n = true
structure OkSum (c v : V) (Rs : List Rw) (ns : List Nat) : Prop where
  lo : 1 ≤ Rs.length
  hi : Rs.length ≤ 8
  all : Paired (OkRow c v) Rs ns
def sp_is_columnW (K : PySem.W.Frag) : Sp := fun vs H Q _ => match vs with
  | [v, .int n] => Tk K H v ∧ Q (.bl (isCol v n)) H
  | _ => False
def sp_cutW (K : PySem.W.Frag) : Sp := fun vs H Q E => match vs with
  | [.ref a, .ref c] => ∃ R n xs, RowsAt K H a R ∧ Wd R n ∧ SqL K H c xs ∧ (∀ v ∈ xs, Tk K H v) ∧ (¬ OkCut R n xs → ∀ H', Same H H' → E (.ref (He.ga K "NoWay")) none H') ∧
    (OkCut R n xs → ∀ p R' H', R'.Perm (cutR (xs.map colN) R) → RowsAt K H' p R' → H p = none → Same H H' → Q (.ref p) H')
  | _ => False
structure OkJoin (A B : Rw) (n m : Nat) : Prop where
  a : A ≠ []
  b : B ≠ []
  most : n + m ≤ 12
def sp_joinedW (K : PySem.W.Frag) : Sp := fun vs H Q E => match vs with
  | [.ref a, .ref b] => ∃ A B n m, RowsAt K H a A ∧ RowsAt K H b B ∧ Wd A n ∧ Wd B m ∧ 1 ≤ n ∧ (¬ OkJoin A B n m → ∀ H', Same H H' → E (.ref (He.ga K "NoWay")) none H') ∧
    (OkJoin A B n m → ∀ p R' H', R'.Perm (joinR A B) → RowsAt K H' p R' → H p = none → Same H H' → Q (.ref p) H')
  | _ => False
def sp_summedW (K : PySem.W.Frag) : Sp := fun vs H Q E => match vs with
  | [.ref l, c, v] => ∃ (as : List Addr) (Rs : List Rw) (ns : List Nat), SqL K H l (as.map V.ref) ∧ Paired (RowsAt K H) as Rs ∧ Paired Wd Rs ns ∧ Tk K H c ∧ Tk K H v ∧ (¬ OkSum c v Rs ns → ∀ H', Same H H' → E (.ref (He.ga K "NoWay")) none H') ∧
    (OkSum c v Rs ns → ∀ p G H', Sm (ents (colN c) (byN v) Rs) G → SumsZ (fun l => H l = none) K H' p G → H p = none → Same H H' → Q (.ref p) H')
  | _ => False
end G

set_option Elab.async false
set_option linter.all false
set_option maxRecDepth 100000
set_option maxHeartbeats 4000000

/-! Readings, printed by gen.py. -/
namespace G
open PySem PySem.Spec PyProof.Rows L2 U
abbrev N_is_columnW : List Str := ["thing", "width"]
def t_is_columnW (K : PySem.W.Frag) : TS :=
  (tRet (tAndV (tCB (rIsi K) (tCons (tVar 0) (tCons (tC (.ty "int")) tNil))) (tAndV (tNotV (tCB (rIsi K) (tCons (tVar 0) (tCons (tC (.ty "bool")) tNil)))) (tChain rLeI rLtI (tC (.int 0)) (tVar 0) (tVar 1)))))
abbrev N_cutW : List Str := ["rows", "columns", "width", "found", "person", "column"]
def t_cutW (K : PySem.W.Frag) (W : WX) : TS :=
  (tSeq (tAsg (tCl (sp_width_of K) [] (WE W) (tCons (tVar 0) tNil)) (gName 2))
  (tSeq (tDrop (tCl (sp_need K) [] (WE W) (tCons (tAndV (tCB (rIsiT K) (tCons (tVar 1) (tCons (tTup (tCons (tC (.ty "list")) (tCons (tC (.ty "tuple")) tNil))) tNil))) (tChain rLeI rLeI (tC (.int 1)) (tCB (rLenSeq K) (tCons (tVar 1) tNil)) (tC (.int 12)))) tNil)))
  (tSeq (tDrop (tCl (sp_need K) [] (WE W) (tCons (tCB (rAll K) (tCons (tLc (iList K (tVar 1)) (gName 5) tYes (tCl (sp_is_columnW K) [] ES0 (tCons (tVar 5) (tCons (tVar 2) tNil))) [5]) tNil)) tNil)))
  (tSeq (tAsg tDNewK (gName 3))
  (tSeq (tFor (iList K (tCB rSortedDI (tCons (tVar 0) tNil))) (gName 4) (sDPut (tVar 3) (tVar 4) (tCB (rTupleOf K) (tCons (tLc (iList K (tVar 1)) (gName 5) tYes (tOp (rIxT K) (tDGet (tVar 0) (tVar 4)) (tVar 5)) [5]) tNil))))
  (tRet (tVar 3)))))))
abbrev N_joinedW : List Str := ["one", "other", "found", "person"]
def t_joinedW (K : PySem.W.Frag) (W : WX) : TS :=
  (tSeq (tDrop (tCl (sp_need K) [] (WE W) (tCons (tOp rLeI (tOp rAddI (tCl (sp_width_of K) [] (WE W) (tCons (tVar 0) tNil)) (tCl (sp_width_of K) [] (WE W) (tCons (tVar 1) tNil))) (tC (.int 12))) tNil)))
  (tSeq (tAsg tDNewK (gName 2))
  (tSeq (tFor (iList K (tCB rSortedDI (tCons (tVar 0) tNil))) (gName 3) (tIfS (tB (tDIn (tVar 3) (tVar 1))) (sDPut (tVar 2) (tVar 3) (tOp (rCatT K) (tDGet (tVar 0) (tVar 3)) (tDGet (tVar 1) (tVar 3)))) tNext))
  (tRet (tVar 2)))))
abbrev N_summedW : List Str := ["some", "column", "by", "rows", "found", "person", "key", "people", "number"]
def t_summedW (K : PySem.W.Frag) (W : WX) (w : World) : TS :=
  (tSeq (tDrop (tCl (sp_need K) [] (WE W) (tCons (tAndV (tCB (rIsiT K) (tCons (tVar 0) (tCons (tTup (tCons (tC (.ty "list")) (tCons (tC (.ty "tuple")) tNil))) tNil))) (tChain rLeI rLeI (tC (.int 1)) (tCB (rLenSeq K) (tCons (tVar 0) tNil)) (tC (.int 8)))) tNil)))
  (tSeq (tFor (iList K (tVar 0)) (gName 3) (tDrop (tCl (sp_need K) [] (WE W) (tCons (tAndV (tCl (sp_is_columnW K) [] ES0 (tCons (tVar 1) (tCons (tCl (sp_width_of K) [] (WE W) (tCons (tVar 3) tNil)) tNil))) (tOrV (tOp rIsNn (tVar 2) (tC .non)) (tCl (sp_is_columnW K) [] ES0 (tCons (tVar 2) (tCons (tCl (sp_width_of K) [] (WE W) (tCons (tVar 3) tNil)) tNil))))) tNil))))
  (tSeq (tAsg tDNewK (gName 4))
  (tSeq (tFor (iList K (tVar 0)) (gName 3) (tLock (tFor (iKeys (tVar 3)) (gName 5) (tSeq (tAsg (tCl (sp_key_of K) [] ES0 (tCons (tDGet (tVar 3) (tVar 5)) (tCons (tVar 2) tNil))) (gName 6))
  (tSeq (tAsg (tDGet2 (tVar 4) (tVar 6) (tTup (tCons (tLst tNil) (tCons (tC (.int 0)) tNil)))) (gTup K 2 (gCons (gName 7) (gCons (gName 8) gNil))))
  (sDPut (tVar 4) (tVar 6) (tTup (tCons (tCB (rSortedSet w) (tCons (tCB (rSetL K w) (tCons (tOp rCat (tVar 7) (tLst (tCons (tVar 5) tNil))) tNil)) tNil)) (tCons (tOp rAddI (tVar 8) (tOp (rIxT K) (tDGet (tVar 3) (tVar 5)) (tVar 1))) tNil)))))))))
  (tRet (tVar 4))))))
end G

set_option Elab.async false
set_option linter.all false
set_option maxRecDepth 100000
set_option maxHeartbeats 4000000
/-! The ways keep their promises for any arguments. -/
namespace G
open PySem PySem.Spec PyProof.Rows L2 U
variable {K : PySem.W.Frag}
abbrev endsOf (Q : VK) : Ends := { nx := fun _ H' => Q .non H', rt := Q }
/-! ### what is done when nothing is refused (as in PWay and PSum) -/
theorem cut_tail {Q : VK} {H H3 : Hp} {a c : Addr} {R : Rw} {n : Nat} {cs : List Nat} (rw : RowsAt K H a R) (wd : Wd R n) (hc : SqL K H c (cs.map fun (i : Nat) => V.int (i : Int))) (c12 : cs.length ≤ 12) (cn : ∀ i ∈ cs, i < n) (s3 : Same H H3)
    (q : ∀ p R' H', R'.Perm (cutR cs R) → RowsAt K H' p R' → H p = none → Same H H' → Q (.ref p) H') :
    (tSeq (tAsg tDNewK (gName 3))
  (tSeq (tFor (iList K (tCB rSortedDI (tCons (tVar 0) tNil))) (gName 4) (sDPut (tVar 3) (tVar 4) (tCB (rTupleOf K) (tCons (tLc (iList K (tVar 1)) (gName 5) tYes (tOp (rIxT K) (tDGet (tVar 0) (tVar 4)) (tVar 5)) [5]) tNil))))
  (tRet (tVar 3)))) (endsOf Q) [some (.ref a), some (.ref c), some (.int (n : Int)), none, none, none] H3 := by
  have lenC : (cs.map fun (i : Nat) => V.int (i : Int)).length = cs.length := List.length_map _
  obtain ⟨kvs, hd, hp⟩ := (rw.keep s3).ex
  have hc3 := s3.seq hc
  have few := rw.ok.few
  intro d nd
  have s4 := same_new (o := .dK []) nd
  refine ⟨_, rfl, a, kvs, R.map (·.1), rfl, .inl (s4 _ _ hd), da_keys rowEnt_k hp, by rw [List.length_map]; omega, fun ys p py sy np => ?_⟩
  have nodup : ys.Nodup := py.nodup_iff.mpr rw.ok.nd
  have ylen : ys.length = R.length := by rw [py.length_eq, List.length_map]
  have s5 := s4.new (o := .lst (ys.map V.int)) np
  have ndp : d ≠ p := fun e => by
    rw [← e, upd_same] at np
    cases np
  let F : Int → Int × List Int := fun k => (k, cs.map fun i => (rowA R k).getD i 0)
  refine ⟨p, rfl, ⟨_, SqL.of upd_same⟩, for_list (K := K) (a := p) (xs := ys.map V.int)
    (fun i σ H' => ∃ v4, σ = [some (.ref a), some (.ref c), some (.int (n : Int)), some (.ref d), v4, none] ∧ Same H3 H' ∧ H' p = some (.lst (ys.map V.int)) ∧ Bld K H' d ((ys.take i).map F))
    ⟨_, rfl, s5, upd_same, _, (upd_ne ndp).trans upd_same, .nil⟩ (fun i σ H' _ ⟨_, _, _, e, _⟩ => SqL.of e) ?_ ?_⟩
  · rintro i y σ H' hi ⟨v4, rfl, sH, hpp, b⟩
    rw [List.getElem?_map] at hi
    cases hy : ys[i]? with
    | none => rw [hy] at hi; cases hi
    | some k =>
      rw [hy] at hi
      cases hi
      have km : k ∈ R.map (·.1) := py.mem_iff.mp (List.mem_of_getElem? hy)
      obtain ⟨t, x, hv, hx, ht⟩ := row_at (L2.Paired.mapP hp (rowEnt_same sH)) km
      have ex : rowA R k = x := by
        unfold rowA
        rw [hx]
        rfl
      have xl : x.length = n := wd (k, x) (lookA_mem hx)
      refine ⟨_, rfl, c, rfl, ⟨_, sH.seq hc3⟩, fun D2 hD2 => ?_⟩
      refine lcl_m (cutV' x) (sH.seq hc3) hD2 (by rw [lenC]; omega) (fun v acc R' hv' r => ?_) ?_
      · obtain ⟨j, hj, rfl⟩ := List.mem_map.mp hv'
        have sD := same_new (o := .lst acc) hD2
        exact ⟨_, rfl, _, rfl, a, .ref t, rfl, .inl ⟨kvs, Sum.inl k, .inl (sD _ _ (sH _ _ hd)), rfl, hv.symm⟩, _, rfl, t, _, _, _, rfl, rfl, Same.seqT sD ht, getI (by rw [xl]; exact cn j hj), r⟩
      have eL : (cs.map fun (i : Nat) => V.int (i : Int)).map (cutV' x) = (cs.map fun i => x.getD i 0).map V.int := by
        rw [List.map_map, List.map_map]
        rfl
      rw [eL]
      have sD := same_new (o := .lst ((cs.map fun i => x.getD i 0).map V.int)) hD2
      refine ⟨D2, _, rfl, .inl ⟨SqL.of upd_same, fun l nl => ?_⟩⟩
      have sl := sD.new (o := .tup ((cs.map fun i => x.getD i 0).map V.int)) nl
      obtain ⟨fk, hfk, pf⟩ := b.keep sl
      have fl := paired_len pf
      rw [List.length_map, List.length_take] at fl
      have hnew : k ∉ ((ys.take i).map F).map (·.1) := by
        rw [List.map_map]
        intro z
        obtain ⟨k', hk', e⟩ := List.mem_map.mp z
        have e : k' = k := e
        subst e
        exact take_fresh nodup hy hk'
      have hd0 : (upd (upd H' D2 (.lst ((cs.map fun i => x.getD i 0).map V.int))) l (.tup ((cs.map fun i => x.getD i 0).map V.int))) d = some (.dK fk) := hfk
      refine ⟨_, rfl, _, rfl, d, _, rfl, DPut.k (k := Sum.inl k) hfk (by rw [fl, sizeLine_eq]; omega), ?_⟩
      refine ⟨_, rfl, U.Same.mut (sH.trans sl) nd, (upd_ne (Ne.symm ndp)).trans (sl _ _ hpp), ?_⟩
      have b := Bld.put (k := k) (v := .ref l) (x := cs.map fun i => x.getD i 0) hfk pf ⟨rfl, l, rfl, .inl (.inl upd_same)⟩
      rw [putA_new hnew] at b
      rw [take_snoc hy, List.map_append]
      show Bld K _ d (_ ++ [F k])
      have eF : F k = (k, cs.map fun i => x.getD i 0) := by
        show (k, cs.map fun i => (rowA R k).getD i 0) = _
        rw [ex]
      rw [eF]
      exact b
  · rintro σ H' ⟨v4, rfl, sH, hpp, b⟩
    rw [List.length_map, List.take_length] at b
    have pr : (ys.map F).Perm (cutR cs R) := by
      have := (perm_rows rw.ok.nd py).map fun r : Int × List Int => (r.1, cs.map fun i => r.2.getD i 0)
      rw [List.map_map] at this
      exact this
    have gd : Good (cutR cs R) := .of (by
      unfold cutR
      rw [List.map_map]
      exact rw.ok.nd) fun r hr => by
        obtain ⟨r', hr', rfl⟩ := List.mem_map.mp hr
        exact rw.ok.rng r' hr'
    obtain ⟨fk, hfk, pf⟩ := b
    exact ⟨_, rfl, q d _ H' pr ⟨⟨fk, hfk, pf⟩, gd.perm pr⟩ (s3.free nd) (s3.trans sH)⟩
theorem join_tail {Q : VK} {H H2 : Hp} {a b : Addr} {A B : Rw} {n m : Nat} (rA : RowsAt K H a A) (rB : RowsAt K H b B) (wA : Wd A n) (wB : Wd B m) (n1 : 1 ≤ n) (n12 : n + m ≤ 12) (s3 : Same H H2)
    (q : ∀ p R' H', R'.Perm (joinR A B) → RowsAt K H' p R' → H p = none → Same H H' → Q (.ref p) H') :
    (tSeq (tAsg tDNewK (gName 2))
  (tSeq (tFor (iList K (tCB rSortedDI (tCons (tVar 0) tNil))) (gName 3) (tIfS (tB (tDIn (tVar 3) (tVar 1))) (sDPut (tVar 2) (tVar 3) (tOp (rCatT K) (tDGet (tVar 0) (tVar 3)) (tDGet (tVar 1) (tVar 3)))) tNext))
  (tRet (tVar 2)))) (endsOf Q) [some (.ref a), some (.ref b), none, none] H2 := by
  obtain ⟨kvs, hd, hp⟩ := (rA.keep s3).ex
  obtain ⟨kvb, hdb, hpb⟩ := (rB.keep s3).ex
  have few := rA.ok.few
  intro d nd
  have s4 := same_new (o := .dK []) nd
  refine ⟨_, rfl, a, kvs, A.map (·.1), rfl, .inl (s4 _ _ hd), da_keys rowEnt_k hp, by rw [List.length_map]; omega, fun ys p py sy np => ?_⟩
  have nodup : ys.Nodup := py.nodup_iff.mpr rA.ok.nd
  have ylen : ys.length = A.length := by rw [py.length_eq, List.length_map]
  have s5 := s4.new (o := .lst (ys.map V.int)) np
  have ndp : d ≠ p := fun e => by
    rw [← e, upd_same] at np
    cases np
  let F : Int → Option (Int × List Int) := fun k => joinRow B (k, rowA A k)
  have Fkey : ∀ k r, F k = some r → r.1 = k := fun k r e => by
    have e : (lookA B k).map (fun b => (k, rowA A k ++ b)) = some r := e
    cases hb : lookA B k with
    | none => rw [hb] at e; cases e
    | some b => rw [hb] at e; cases e; rfl
  refine ⟨p, rfl, ⟨_, SqL.of upd_same⟩, for_list (K := K) (a := p) (xs := ys.map V.int)
    (fun i σ H' => ∃ v3, σ = [some (.ref a), some (.ref b), some (.ref d), v3] ∧ Same H2 H' ∧ H' p = some (.lst (ys.map V.int)) ∧ Bld K H' d ((ys.take i).filterMap F))
    ⟨_, rfl, s5, upd_same, _, (upd_ne ndp).trans upd_same, .nil⟩ (fun i σ H' _ ⟨_, _, _, e, _⟩ => SqL.of e) ?_ ?_⟩
  · rintro i y σ H' hi ⟨v3, rfl, sH, hpp, bl⟩
    rw [List.getElem?_map] at hi
    cases hy : ys[i]? with
    | none => rw [hy] at hi; cases hi
    | some k =>
      rw [hy] at hi
      cases hi
      have km : k ∈ A.map (·.1) := py.mem_iff.mp (List.mem_of_getElem? hy)
      obtain ⟨t, x, hv, hx, ht⟩ := row_at (L2.Paired.mapP hp (rowEnt_same sH)) km
      have ex : rowA A k = x := by
        unfold rowA
        rw [hx]
        rfl
      have xl : x.length = n := wA (k, x) (lookA_mem hx)
      refine ⟨_, rfl, _, rfl, b, _, rfl, DGet.k (k := Sum.inl k) (sH _ _ hdb), _, rfl, ?_⟩
      rcases da_val rowEnt_k (L2.Paired.mapP hpb (rowEnt_same sH)) k with ⟨h1, h2⟩ | ⟨vb, xb, h1, h2, _, tb, e2, htb⟩
      · rw [h1]
        refine iteF ⟨_, rfl, sH, hpp, ?_⟩
        have : F k = none := by
          show (lookA B k).map _ = none
          rw [h2]
          rfl
        rw [take_snoc hy, List.filterMap_append]
        simp only [List.filterMap_cons, List.filterMap_nil, this, List.append_nil]
        exact bl
      · have e2 : vb = .ref tb := e2
        subst e2
        rw [h1]
        have xbl : xb.length = m := wB (k, xb) (lookA_mem h2)
        have eF : F k = some (k, x ++ xb) := by
          show (lookA B k).map (fun b => (k, rowA A k ++ b)) = _
          rw [h2, ex]
          rfl
        have hnew : k ∉ ((ys.take i).filterMap F).map (·.1) := by
          intro z
          obtain ⟨r, hr, e⟩ := List.mem_map.mp z
          obtain ⟨k', hk', e'⟩ := List.mem_filterMap.mp hr
          have := Fkey k' r e'
          rw [e] at this
          rw [← this] at hk'
          exact take_fresh nodup hy hk'
        have fin : ∀ (l : Addr) (H4 : Hp), Same H' H4 → SqT K H4 l ((x ++ xb).map V.int) → ∃ a_1 H4_1, V.ref d = V.ref a_1 ∧ DPut H4 a_1 (.int k) (.ref l) H4_1 ∧ ∃ v3, [some (V.ref a), some (V.ref b), some (V.ref d), some (V.int k)] = [some (V.ref a), some (V.ref b), some (V.ref d), v3] ∧ Same H2 H4_1 ∧ H4_1 p = some (.lst (ys.map V.int)) ∧ Bld K H4_1 d ((ys.take (i + 1)).filterMap F) := fun l H4 sl hl => by
          obtain ⟨fk, hfk, pf⟩ := bl.keep sl
          have fl := paired_len pf
          have fle : ((ys.take i).filterMap F).length ≤ ys.length := Nat.le_trans (List.length_filterMap_le _ _) (by rw [List.length_take]; omega)
          refine ⟨d, _, rfl, DPut.k (k := Sum.inl k) hfk (by rw [fl, sizeLine_eq]; omega), _, rfl, U.Same.mut (sH.trans sl) nd, (upd_ne (Ne.symm ndp)).trans (sl _ _ hpp), ?_⟩
          have b2 := Bld.put (k := k) (v := .ref l) (x := x ++ xb) hfk pf ⟨rfl, l, rfl, hl⟩
          rw [putA_new hnew] at b2
          rw [take_snoc hy, List.filterMap_append]
          simp only [List.filterMap_cons, List.filterMap_nil, eF]
          exact b2
        refine iteT ⟨_, rfl, _, rfl, a, .ref t, rfl, .inl ⟨kvs, Sum.inl k, .inl (sH _ _ hd), rfl, hv.symm⟩, _, rfl, _, rfl, b, .ref tb, rfl, .inl ⟨kvb, Sum.inl k, .inl (sH _ _ hdb), rfl, h1.symm⟩, t, tb, _, _, rfl, rfl, ht, htb, ?_, ?_, fun e => ?_, fun e l nl => ?_⟩
        · intro z
          have := congrArg List.length z
          rw [List.length_map] at this
          simp at this
          rw [this] at xl
          simp at xl
          omega
        · rw [List.length_map, List.length_map, xl, xbl, sizeLine_eq]
          omega
        · have xb0 : xb = [] := List.map_eq_nil_iff.mp e
          exact ⟨_, rfl, _, rfl, fin t H' (Same.refl H') (by rw [xb0, List.append_nil]; exact ht)⟩
        · exact ⟨_, rfl, _, rfl, fin l _ (same_new nl) (.inl (.inl (by rw [upd_same, List.map_append])))⟩
  · rintro σ H' ⟨v3, rfl, sH, hpp, bl⟩
    rw [List.length_map, List.take_length] at bl
    have pr : (ys.filterMap F).Perm (joinR A B) := by
      have := (perm_rows rA.ok.nd py).filterMap (joinRow B)
      rw [List.filterMap_map] at this
      exact this
    obtain ⟨fk, hfk, pf⟩ := bl
    exact ⟨_, rfl, q d _ H' pr ⟨⟨fk, hfk, pf⟩, (joinR_good rA.ok).perm pr⟩ (s3.free nd) (s3.trans sH)⟩
theorem sum_tail {w : World} {Q : VK} {H H1 : Hp} {l : Addr} {v3 : Option V} {as : List Addr} {Rs : List Rw} {col : Nat} {by_ : Option Nat} (hl : SqL K H l (as.map V.ref)) (hp : Paired (fun a R => RowsAt K H a R ∧ R ≠ [] ∧ ∃ n, Wd R n ∧ col < n ∧ ∀ b, by_ = some b → b < n) as Rs) (r8 : Rs.length ≤ 8) (s1 : Same H H1)
    (q : ∀ p G H', Sm (ents col by_ Rs) G → SumsZ (fun l => H l = none) K H' p G → H p = none → Same H H' → Q (.ref p) H') :
    (tSeq (tAsg tDNewK (gName 4))
  (tSeq (tFor (iList K (tVar 0)) (gName 3) (tLock (tFor (iKeys (tVar 3)) (gName 5) (tStep K w))))
  (tRet (tVar 4)))) (endsOf Q) [some (.ref l), some (.int (col : Int)), some (byV by_), v3, none, none, none, none, none] H1 := by
  have len := paired_len hp
  have lenA : (as.map V.ref).length = as.length := List.length_map _
  intro d nd
  have sd := same_new (o := .dK []) nd
  refine ⟨_, rfl, l, rfl, ⟨_, (s1.trans sd).seq hl⟩, ?_⟩
  have hp1 : Paired (fun a R => RowsAt K H1 a R ∧ R ≠ [] ∧ ∃ n, Wd R n ∧ col < n ∧ ∀ b, by_ = some b → b < n) as Rs := L2.Paired.mapP hp fun a R z => ⟨z.1.keep s1, z.2⟩
  refine for_list (K := K) (a := l) (xs := as.map V.ref) (fun i σ H' => ∃ v3 v5 v6 v7 v8 G, σ = [some (.ref l), some (.int (col : Int)), some (byV by_), v3, some (.ref d), v5, v6, v7, v8] ∧ Same H1 H' ∧ SumsZ (fun l => H1 l = none) K H' d G ∧ Sm (ents col by_ (Rs.take i)) G ∧ G.length ≤ 62 * i)
    ⟨_, _, _, _, _, [], rfl, sd, ⟨[], upd_same, .nil⟩, Sm.nil, Nat.zero_le _⟩ (fun i σ H' _ ⟨_, _, _, _, _, _, _, s, _⟩ => (s1.trans s).seq hl) ?_ ?_
  · rintro i y σ H2 hi ⟨v3, v5, v6, v7, v8, G, rfl, s2, sa, sm, gl⟩
    rw [List.getElem?_map] at hi
    cases ha : as[i]? with
    | none => rw [ha] at hi; cases hi
    | some a =>
      rw [ha] at hi
      cases hi
      have il : i < as.length := (List.getElem?_eq_some_iff.mp ha).1
      obtain ⟨R, hR, rw, ne, n, wd, cn, bn⟩ := paired_at hp1 ha
      obtain ⟨kvs, hd, pr⟩ := rw.ex
      have hd2 := s2 _ _ hd
      have kl := paired_len pr
      have few := rw.ok.few
      have rgAll : ∀ e ∈ ents col by_ (Rs.take (i + 1)), 0 < e.1 ∧ e.1 ≤ 60 := fun e he => by
        obtain ⟨R', hR', he⟩ := List.mem_flatMap.mp he
        obtain ⟨r, hr, rfl⟩ := List.mem_map.mp he
        obtain ⟨j, hj⟩ := List.mem_iff_getElem?.mp (List.mem_of_mem_take hR')
        have hja : j < as.length := by
          rw [len]
          exact (List.getElem?_eq_some_iff.mp hj).1
        obtain ⟨R2, hR2, rw2, _⟩ := paired_at hp1 (List.getElem?_eq_getElem hja)
        rw [hj] at hR2
        cases hR2
        exact rw2.ok.rng r hr
      refine ⟨a, .dK kvs, hd2, trivial, fun od => ⟨_, rfl, a, od, rfl, .inl ⟨kvs, upd_same, ?_⟩⟩⟩
      have dna : d ≠ a := ne_of_none hd nd |>.symm
      refine for_keys (d := a) (o := od) (kvs := kvs) (fun j σ H' => H' a = some (.frz od (.dK kvs)) ∧ ∃ v5 v6 v7 v8 G', σ = [some (.ref l), some (.int (col : Int)), some (byV by_), some (.ref a), some (.ref d), v5, v6, v7, v8] ∧ But a H1 H' ∧ SumsZ (fun l => H1 l = none) K H' d G' ∧ Sm (ents col by_ (Rs.take i) ++ (entR col by_ R).take j) G' ∧ G'.length ≤ 62 * i + j)
        ⟨upd_same, _, _, _, _, G, rfl, (fun b x nb e => (upd_ne nb).trans (s2 _ _ e)), ?_, by rw [List.take_zero, List.append_nil]; exact sm, gl⟩ (fun j σ H' h => h.1) ?_ ?_
      · obtain ⟨fk, e, p⟩ := sa
        refine ⟨fk, (upd_ne dna).trans e, L2.Paired.mapP p fun kv r h => ?_⟩
        obtain ⟨e1, t, l', e2, h, h2, z⟩ := h
        exact ⟨e1, t, l', e2, seqT_dict hd2 h, lst_dict hd2 h2, z⟩
      · rintro j kv σ H3 hj ⟨fz, w5, w6, w7, w8, G3, rfl, bt, sa3, sm3, gl3⟩
        obtain ⟨r, hr, ek, t, et, ht⟩ := paired_at pr hj
        obtain ⟨kk, vv⟩ := kv
        have ek : kk = Sum.inl r.1 := ek
        have et : vv = .ref t := et
        subst ek
        subst et
        have rm : r ∈ R := List.mem_of_getElem? hr
        have hval : valV kvs (Sum.inl r.1) = some (.ref t) := valV_mem (by
          rw [da_keys rowEnt_k pr]
          exact List.Pairwise.map Sum.inl (fun a b h e => h (Sum.inl.inj e)) rw.ok.nd) (List.mem_of_getElem? hj)
        have jl : j < R.length := (List.getElem?_eq_some_iff.mp hr).1
        have hje : (entR col by_ R)[j]? = some (r.1, keyR by_ r.2, r.2.getD col 0) := by
          unfold entR
          rw [List.getElem?_map, hr]
          rfl
        show tStep K w _ _ H3
        refine sum_step (n := n) nd fz bt hval (But.seqT hd bt ht) (wd r rm) cn bn sa3 sm3 (fun e he => ?_) (rw.ok.rng r rm) (by omega) fun σ' H4 G4 ⟨u6, u7, u8, eσ⟩ fz4 bt4 sa4 sm4 gl4 => ?_
        · refine rgAll e ?_
          rw [ents_take col by_ hR]
          rcases List.mem_append.mp he with he | he
          · exact List.mem_append_left _ he
          · exact List.mem_append_right _ (List.mem_of_mem_take he)
        · subst eσ
          refine ⟨fz4, _, _, _, _, G4, rfl, bt4, sa4, ?_, by omega⟩
          rw [take_snoc hje, ← List.append_assoc]
          exact sm4
      · rintro σ H3 ⟨fz, w5, w6, w7, w8, G3, rfl, bt, sa3, sm3, gl3⟩
        refine ⟨fz, _, _, _, _, _, G3, rfl, ?_, SumsZ.thaw fz sa3, ?_, by rw [kl] at gl3; omega⟩
        · exact thaw2 (od := od) hd fun b x nb e => bt b x nb e
        · rw [ents_take col by_ hR]
          have e1 : (entR col by_ R).take kvs.length = entR col by_ R := List.take_of_length_le (by
            unfold entR
            rw [List.length_map, kl]
            exact Nat.le_refl _)
          rw [e1] at sm3
          exact sm3
  · rintro σ H2 ⟨v3, v5, v6, v7, v8, G, rfl, s2, sa, sm, gl⟩
    rw [lenA, len, List.take_length] at sm
    exact ⟨_, rfl, q d G H2 sm (sa.imp fun l h => s1.free h) (s1.free nd) (s1.trans s2)⟩
/-! ### is_column of anything -/
theorem tkInt {H : Hp} {v : V} {T : String} (h : TyX K H v (.type T)) : (T = "int" ∧ ∃ c, v = .int c) ∨ (T = "bool" ∧ ∀ n, isCol v n = false) ∨ (T ≠ "int" ∧ T ≠ "bool" ∧ ∀ n, isCol v n = false) := by
  cases h with
  | base h =>
    cases h with
    | int i => exact .inl ⟨rfl, i, rfl⟩
    | bl x => exact .inr (.inl ⟨rfl, fun n => rfl⟩)
    | _ => exact .inr (.inr ⟨by decide, by decide, fun n => rfl⟩)
  | _ => exact .inr (.inr ⟨by decide, by decide, fun n => rfl⟩)
theorem pure_is_columnW (vs : List V) (H : Hp) (Q : VK) (E : XK) (h : sp_is_columnW K vs H Q E) : t_is_columnW K { nx := fun _ H' => Q .non H', rt := Q } (start N_is_columnW vs) H := by
  unfold sp_is_columnW at h
  split at h
  · rename_i v n
    obtain ⟨⟨T, ty, mem⟩, q⟩ := h
    refine ⟨_, rfl, v, _, _, _, _, rfl, .ty "int", ty, kit_ty (kit7_int T mem), _, rfl, ?_⟩
    rcases tkInt ty with ⟨rfl, c, rfl⟩ | ⟨rfl, no⟩ | ⟨n1, n2, no⟩
    · refine iteT ⟨_, rfl, _, _, _, _, _, rfl, .ty "bool", ty, kit_ty (kit7_bool _ mem), false, rfl, true, rfl, iteT ?_⟩
      refine ⟨_, rfl, _, _, rfl, rfl, _, rfl, ?_⟩
      have q : Q (.bl (decide (0 ≤ c) && decide (c < n))) H := q
      by_cases h0 : 0 ≤ c
      · rw [decide_eq_true h0] at q ⊢
        exact iteT ⟨_, rfl, _, _, rfl, rfl, q⟩
      · rw [decide_eq_false h0] at q ⊢
        exact iteF q
    · refine iteT ⟨_, rfl, _, _, _, _, _, rfl, .ty "bool", ty, kit_ty (kit7_bool _ mem), true, rfl, false, rfl, iteF ?_⟩
      rw [no] at q
      exact q
    · have e : (T == "int" || T == "bool") = false := by
        rw [beq_eq_false_iff_ne.mpr n1, beq_eq_false_iff_ne.mpr n2]
        rfl
      rw [e]
      rw [no] at q
      exact iteF q
  · exact h.elim
/-! ### the refusals -/
theorem need_seqW {H : Hp} {Q : VK} {W : WX} {σ : L2.St} {i : Nat} {c : Addr} {xs : List V} {most : Int} (hi : σ[i]? = some (some (.ref c))) (hc : SqL K H c xs) (k : 1 ≤ xs.length → (xs.length : Int) ≤ most → ∀ H', Same H H' → Q .non H')
    (k0 : ¬ (1 ≤ xs.length ∧ (xs.length : Int) ≤ most) → ∀ H', Same H H' → W (.ref (He.ga K "NoWay")) none σ H') :
    (tCl (sp_need K) [] (WE W) (tCons (tAndV (tCB (rIsiT K) (tCons (tVar i) (tCons (tTup (tCons (tC (.ty "list")) (tCons (tC (.ty "tuple")) tNil))) tNil))) (tChain rLeI rLeI (tC (.int 1)) (tCB (rLenSeq K) (tCons (tVar i) tNil)) (tC (.int most)))) tNil)) σ H Q := by
  refine ⟨_, hi, (by show 2 ≤ sizeLine; decide), fun t nt => ?_⟩
  have s1 := same_new (o := .tup [V.ty "list", V.ty "tuple"]) nt
  refine ⟨_, t, _, _, _, true, rfl, upd_same, .cons (.ty _) (.cons (.ty _) .nil), tyL (s1.seq hc), kitLT, true, rfl, iteT ?_⟩
  refine ⟨_, hi, c, _, rfl, .inl (s1.seq hc), _, _, rfl, rfl, _, rfl, ?_⟩
  by_cases h1 : (1 : Int) ≤ xs.length
  · rw [decide_eq_true h1]
    refine iteT ⟨_, _, rfl, rfl, fun z => k (by omega) (of_decide_eq_true z) _ s1, fun z => k0 (fun y => absurd y.2 (of_decide_eq_false z)) _ s1⟩
  · rw [decide_eq_false h1]
    refine iteF ⟨fun z => ?_, fun _ => k0 (fun y => h1 (by omega)) _ s1⟩
    cases z
theorem pure_cutW (vs : List V) (H : Hp) (Q : VK) (E : XK) (h : sp_cutW K vs H Q E) : t_cutW K (fun cls d _ H => E cls d H) { nx := fun _ H' => Q .non H', rt := Q } (start N_cutW vs) H := by
  unfold sp_cutW at h
  split at h
  · rename_i a c
    obtain ⟨R, n, xs, rw, wd, hc, tk, no, q⟩ := h
    refine ⟨_, rfl, R, n, rw, wd, fun e => no (fun o => o.ne e) H (Same.refl H), fun ne H1 s1 => ?_⟩
    refine need_seqW rfl (s1.seq hc) (fun l1 l2 H2 s2 => ?_) fun z H2 s2 => no (fun o => z ⟨o.lo, by have := o.hi; omega⟩) H2 (s1.trans s2)
    have s02 := s1.trans s2
    have hc2 := s02.seq hc
    refine ⟨_, rfl, c, rfl, ⟨_, hc2⟩, fun D hD => ?_⟩
    refine lcl_m (fun v => V.bl (isCol v n)) hc2 hD (by omega) (fun v acc R' hv r => ?_) ?_
    · exact ⟨_, rfl, _, rfl, (tk v hv).same (s02.trans (same_new hD)), r⟩
    refine ⟨D, xs.map fun v => isCol v n, rfl, SqL.of (by rw [upd_same, List.map_map]; rfl), ?_⟩
    have s3 := s02.new (o := .lst (xs.map fun v => V.bl (isCol v n))) hD
    refine ⟨fun z => ?_, fun z => no (fun o => ?_) _ s3⟩
    · have all : ∀ v ∈ xs, isCol v n = true := fun v hv => List.all_eq_true.mp z _ (List.mem_map.mpr ⟨v, hv, rfl⟩)
      have exs : xs = (xs.map colN).map fun (i : Nat) => V.int (i : Int) := by
        rw [List.map_map]
        refine (List.map_id xs).symm.trans (List.map_congr_left fun v hv => ?_)
        exact (isCol_nat (all v hv)).1
      have hc' : SqL K H c ((xs.map colN).map fun (i : Nat) => V.int (i : Int)) := by rw [← exs]; exact hc
      refine cut_tail (cs := xs.map colN) rw wd hc' (by rw [List.length_map]; omega) (fun i hi => ?_) s3 fun p R' H' => q ⟨ne, l1, by omega, all⟩ p R' H'
      obtain ⟨v, hv, rfl⟩ := List.mem_map.mp hi
      exact (isCol_nat (all v hv)).2
    · rw [List.all_eq_true.mpr fun b hb => by obtain ⟨v, hv, rfl⟩ := List.mem_map.mp hb; exact o.all v hv] at z
      cases z
  · exact h.elim
theorem pure_joinedW (vs : List V) (H : Hp) (Q : VK) (E : XK) (h : sp_joinedW K vs H Q E) : t_joinedW K (fun cls d _ H => E cls d H) { nx := fun _ H' => Q .non H', rt := Q } (start N_joinedW vs) H := by
  unfold sp_joinedW at h
  split at h
  · rename_i a b
    obtain ⟨A, B, n, m, rA, rB, wA, wB, n1, no, q⟩ := h
    refine ⟨_, rfl, A, n, rA, wA, fun e => no (fun o => o.a e) H (Same.refl H), fun neA H1 s1 => ?_⟩
    refine ⟨_, rfl, B, m, rB.keep s1, wB, fun e => no (fun o => o.b e) H1 s1, fun neB H2 s2 => ?_⟩
    refine ⟨_, _, rfl, rfl, _, _, rfl, rfl, fun z => ?_, fun z => no (fun o => absurd (show (n : Int) + (m : Int) ≤ 12 by have := o.most; omega) (of_decide_eq_false z)) H2 (s1.trans s2)⟩
    have z : (n : Int) + (m : Int) ≤ 12 := of_decide_eq_true z
    exact join_tail rA rB wA wB n1 (by omega) (s1.trans s2) fun p R' H' => q ⟨neA, neB, by omega⟩ p R' H'
  · exact h.elim
theorem byN_col {v : V} {n : Nat} (h : v = .non ∨ isCol v n = true) : v = byV (byN v) ∧ ∀ b, byN v = some b → b < n := by
  rcases h with rfl | h
  · exact ⟨rfl, fun b e => by cases e⟩
  · obtain ⟨e, l⟩ := isCol_nat h
    rw [e]
    refine ⟨?_, fun b e => ?_⟩
    · show V.int ((colN v : Nat) : Int) = V.int ((((colN v : Nat) : Int).toNat : Nat) : Int)
      congr 1
    · have e : some ((colN v : Nat) : Int).toNat = some b := e
      have := Option.some.inj e
      omega
theorem paired_trans {α β γ : Type} {R : α → β → Prop} {S : β → γ → Prop} {as : List α} {bs : List β} {cs : List γ} (h : Paired R as bs) (g : Paired S bs cs) : Paired (fun a b => R a b ∧ ∃ c, S b c) as bs := by
  induction h generalizing cs with
  | nil => exact .nil
  | cons hd _ ih =>
    cases g with
    | cons g1 g2 => exact .cons ⟨hd, _, g1⟩ (ih g2)
theorem paired_and {α β : Type} {R S : α → β → Prop} {as : List α} {bs : List β} (h : Paired R as bs) (g : Paired S as bs) : Paired (fun a b => R a b ∧ S a b) as bs := by
  induction h with
  | nil => exact .nil
  | cons hd _ ih =>
    cases g with
    | cons g1 g2 => exact .cons ⟨hd, g1⟩ (ih g2)
theorem paired_all {α β : Type} {R : α → β → Prop} {as : List α} {bs : List β} (len : as.length = bs.length) (h : ∀ (i : Nat) a b, as[i]? = some a → bs[i]? = some b → R a b) : Paired R as bs := by
  induction as generalizing bs with
  | nil =>
    cases bs with
    | nil => exact .nil
    | cons b bs => cases len
  | cons a as ih =>
    cases bs with
    | nil => cases len
    | cons b bs => exact .cons (h 0 a b rfl rfl) (ih (Nat.succ.inj len) fun i a b ha hb => h (i + 1) a b ha hb)
theorem pure_summedW (w : World) (vs : List V) (H : Hp) (Q : VK) (E : XK) (h : sp_summedW K vs H Q E) : t_summedW K (fun cls d _ H => E cls d H) w { nx := fun _ H' => Q .non H', rt := Q } (start N_summedW vs) H := by
  unfold sp_summedW at h
  split at h
  · rename_i l c v
    obtain ⟨as, Rs, ns, hl, hp, hw, tc, tv, no, q⟩ := h
    have len := paired_len hp
    have lenW := paired_len hw
    have lenA : (as.map V.ref).length = as.length := List.length_map _
    refine need_seqW rfl hl (fun l1 l8 H0 s0 => ?_) fun z H0 s0 => no (fun o => z ⟨by have := o.lo; omega, by have := o.hi; omega⟩) H0 s0
    refine ⟨_, rfl, l, rfl, ⟨_, s0.seq hl⟩, ?_⟩
    refine for_list (K := K) (a := l) (xs := as.map V.ref) (fun i σ H' => ∃ v3, σ = [some (.ref l), some c, some v, v3, none, none, none, none, none] ∧ Same H H' ∧ ∀ j R n, j < i → Rs[j]? = some R → ns[j]? = some n → OkRow c v R n) ⟨_, rfl, s0, fun j R n hj => absurd hj (Nat.not_lt_zero _)⟩ (fun i σ H' _ ⟨_, _, s, _⟩ => s.seq hl) ?_ ?_
    · rintro i y σ H' hi ⟨v3, rfl, sH, all⟩
      rw [List.getElem?_map] at hi
      cases ha : as[i]? with
      | none => rw [ha] at hi; cases hi
      | some a =>
        rw [ha] at hi
        cases hi
        obtain ⟨R, hR, rw⟩ := paired_at hp ha
        obtain ⟨n, hn, wd⟩ := paired_at hw hR
        have bad : ¬ OkRow c v R n → ∀ H', Same H H' → E (.ref (He.ga K "NoWay")) none H' := fun z => no fun o => z (by
          obtain ⟨n', hn', o'⟩ := paired_at o.all hR
          rw [hn] at hn'
          cases hn'
          exact o')
        have good : OkRow c v R n → ∀ j R n, j < i + 1 → Rs[j]? = some R → ns[j]? = some n → OkRow c v R n := fun o j R' n' hj hR' hn' => by
          rcases Nat.lt_succ_iff_lt_or_eq.mp hj with lt | rfl
          · exact all j R' n' lt hR' hn'
          · rw [hR] at hR'
            rw [hn] at hn'
            cases hR'
            cases hn'
            exact o
        refine ⟨_, rfl, _, rfl, R, n, rw.keep sH, wd, fun e => bad (fun o => o.ne e) _ sH, fun ne H1 s1 => ⟨tc.same (sH.trans s1), _, rfl, ?_⟩⟩
        have s01 := sH.trans s1
        cases hcol : isCol c n with
        | false =>
          refine iteF ⟨fun z => ?_, fun _ => bad (fun o => by rw [o.col] at hcol; cases hcol) _ s01⟩
          cases z
        | true =>
          refine iteT ⟨_, rfl, rfl, _, rfl, ?_⟩
          by_cases hv : v = .non
          · rw [decide_eq_true hv]
            refine iteT ⟨fun _ => ⟨_, rfl, s01, good ⟨ne, hcol, .inl hv⟩⟩, fun z => ?_⟩
            cases z
          · rw [decide_eq_false hv]
            refine iteF ⟨_, rfl, _, rfl, R, n, rw.keep s01, wd, fun e => absurd e ne, fun _ H2 s2 => ⟨tv.same (s01.trans s2), fun z => ⟨_, rfl, s01.trans s2, good ⟨ne, hcol, .inr z⟩⟩, fun z => bad (fun o => ?_) _ (s01.trans s2)⟩⟩
            rcases o.by_ with e | e
            · exact hv e
            · have z : isCol v n = false := z
              rw [e] at z
              cases z
    · rintro σ H1 ⟨v3, rfl, s1, all⟩
      have ok : OkSum c v Rs ns := ⟨by omega, by omega, paired_all lenW fun i R n hR hn => all i R n (by rw [lenA, len]; exact (List.getElem?_eq_some_iff.mp hR).1) hR hn⟩
      have each := paired_trans hp (paired_and hw ok.all)
      have ne0 : ∃ n : Nat, isCol c n = true ∧ (v = .non ∨ isCol v n = true) := by
        cases ok.all with
        | nil => exact absurd ok.lo (by simp)
        | cons o _ => exact ⟨_, o.col, o.by_⟩
      obtain ⟨n0, hc0, hv0⟩ := ne0
      have ec := (isCol_nat hc0).1
      have ev := (byN_col hv0).1
      have tail := sum_tail (w := w) (Q := Q) (H1 := H1) (v3 := v3) (col := colN c) (by_ := byN v) hl (L2.Paired.mapP each fun a R ⟨rw, n, wd, o⟩ => ⟨rw, o.ne, n, wd, (isCol_nat o.col).2, (byN_col o.by_).2⟩) (by have := ok.hi; exact this) s1 (q ok)
      rw [← ec, ← ev] at tail
      exact tail
  · exact h.elim
end G

set_option Elab.async false
set_option linter.all false
set_option maxRecDepth 100000
set_option maxHeartbeats 4000000
/-! Promises of the laws' purses and drawn rows. -/
namespace G
open PySem PySem.Spec PyProof.Rows L2 U
def PurAt (H : Hp) (p : Addr) : Prop := ∃ a b : Int, H p = some (.lst [.int a, .int b]) ∧ 0 ≤ a ∧ 0 ≤ b ∧ b < 2147483648
theorem PurAt.keep {l : List Addr} {H H' : Hp} {p : Addr} (h : PurAt H p) (k : Keep l H H') (n : p ∉ l) : PurAt H' p := by
  obtain ⟨a, b, e, r⟩ := h
  exact ⟨a, b, k.k _ _ e n, r⟩
theorem PurAt.same {H H' : Hp} {p : Addr} (h : PurAt H p) (s : Same H H') : PurAt H' p := h.keep (l := []) (.same s) (by simp)
theorem PurAt.ne {H : Hp} {p q : Addr} (h : PurAt H p) (n : H q = none) : p ≠ q := by
  obtain ⟨a, b, e, _⟩ := h
  exact ne_of_none e n
/-- numbers of at most sixty figures -/
def Sml (R : Rw) : Prop := ∀ r ∈ R, ∀ x ∈ r.2, -(10 ^ 60) < x ∧ x < 10 ^ 60
def sp__law_at (K : PySem.W.Frag) : Sp := fun vs H Q _ => match vs with
  | [.ref a, .int k] => 0 ≤ k ∧ ∃ ns : List Int, SqL K H a (ns.map V.int) ∧ ∀ c, Q (.int c) H
  | _ => False
def sp__law_purse (K : PySem.W.Frag) : Sp := fun vs H Q _ => match vs with
  | [.int c] => ∀ p H', H p = none → PurAt H' p → Same H H' → Q (.ref p) H'
  | _ => False
def sp__law_take (K : PySem.W.Frag) : Sp := fun vs H Q _ => match vs with
  | [.ref p, .int n] => PurAt H p ∧ 0 < n ∧ n ≤ 1000000000000000000000000000000000000000000000000000000000000 ∧ ∀ d H', 0 ≤ d → d < n → PurAt H' p → Keep [p] H H' → Q (.int d) H'
  | _ => False
def sp__law_number (K : PySem.W.Frag) : Sp := fun vs H Q _ => match vs with
  | [.ref p] => PurAt H p ∧ ∀ c H', -(10 ^ 60) < c → c < 10 ^ 60 → PurAt H' p → Keep [p] H H' → Q (.int c) H'
  | _ => False
def sp__law_rows (K : PySem.W.Frag) : Sp := fun vs H Q _ => match vs with
  | [.ref p, .int m] => PurAt H p ∧ ∃ n : Nat, m = (n : Int) ∧ n ≤ 100 ∧ ∀ a R H', RowsAt K H' a R → Wd R n → R ≠ [] → (∀ r ∈ R, r.1 ≤ 12) → Sml R → PurAt H' p → H a = none → Keep [p] H H' → Q (.ref a) H'
  | _ => False
end G

set_option Elab.async false
set_option linter.all false
set_option maxRecDepth 100000
set_option maxHeartbeats 4000000

/-! Readings, printed by gen.py. -/
namespace G
open PySem PySem.Spec PyProof.Rows L2 U
abbrev N__law_at : List Str := ["_law_script", "_law_k"]
def t__law_at (K : PySem.W.Frag) : TS :=
  (tRet (tIf (tTest (tOp rLtI (tVar 1) (tCB (rLenSeq K) (tCons (tVar 0) tNil)))) (tOp (rIxL K) (tVar 0) (tVar 1)) (tC (.int 0))))
abbrev N__law_take : List Str := ["_law_purse_here", "_law_many", "_law_number_here"]
def t__law_take (K : PySem.W.Frag) : TS :=
  (tSeq (tIfS (tTest (tOp rGtI (tOp (rIxL K) (tVar 0) (tC (.int 0))) (tC (.int 0)))) (tSeq (tAsg (tOp (rIxL K) (tVar 0) (tC (.int 0))) (gName 2))
  (tSeq (tAsg (tOp rFdivI (tVar 2) (tVar 1)) (gSub (tVar 0) (tC (.int 0)) rSetL))
  (tRet (tOp rModI (tVar 2) (tVar 1))))) tNext)
  (tSeq (tAsg (tOp rModI (tOp rAddI (tOp rMulI (tOp (rIxL K) (tVar 0) (tC (.int 1))) (tC (.int 48271))) (tC (.int 9973))) (tC (.int 2147483629))) (gSub (tVar 0) (tC (.int 1)) rSetL))
  (tSeq (tAsg (tOp rModI (tOp rMulI (tOp (rIxL K) (tVar 0) (tC (.int 1))) (tOp (rIxL K) (tVar 0) (tC (.int 1)))) (tC (.int 2147483587))) (gName 2))
  (tRet (tOp rModI (tOp rFdivI (tVar 2) (tC (.int 7))) (tVar 1))))))
abbrev N__law_number : List Str := ["_law_purse_here", "_law_way"]
def t__law_number (K : PySem.W.Frag) : TS :=
  (tSeq (tAsg (tCl (sp__law_take K) [] ES0 (tCons (tVar 0) (tCons (tC (.int 5)) tNil))) (gName 1))
  (tSeq (tIfS (tTest (tOp rEq (tVar 1) (tC (.int 0)))) (tRet (tOp rSubI (tCl (sp__law_take K) [] ES0 (tCons (tVar 0) (tCons (tOp rPowI (tC (.int 10)) (tC (.int 59))) tNil))) (tCl (sp__law_take K) [] ES0 (tCons (tVar 0) (tCons (tOp rPowI (tC (.int 10)) (tC (.int 59))) tNil))))) tNext)
  (tRet (tOp rSubI (tCl (sp__law_take K) [] ES0 (tCons (tVar 0) (tCons (tOp (rIxL K) (tLst (tCons (tC (.int 2)) (tCons (tC (.int 3)) (tCons (tC (.int 5)) (tCons (tC (.int 19)) tNil))))) (tOp rSubI (tVar 1) (tC (.int 1)))) tNil))) (tVar 1)))))
abbrev N__law_rows : List Str := ["_law_purse_here", "_law_width", "_law_rows_here", "_law_k", "_law_person", "_law_j"]
def t__law_rows (K : PySem.W.Frag) : TS :=
  (tSeq (tAsg tDNewK (gName 2))
  (tSeq (tFor (iRng1 (tCons (tOp rAddI (tC (.int 1)) (tCl (sp__law_take K) [] ES0 (tCons (tVar 0) (tCons (tC (.int 9)) tNil)))) tNil)) (gName 3) (tSeq (tAsg (tOp rAddI (tC (.int 1)) (tCl (sp__law_take K) [] ES0 (tCons (tVar 0) (tCons (tC (.int 12)) tNil)))) (gName 4))
  (sDPut (tVar 2) (tVar 4) (tCB (rTupleOf K) (tCons (tLc (iRng1 (tCons (tVar 1) tNil)) (gName 5) tYes (tCl (sp__law_number K) [] ES0 (tCons (tVar 0) tNil)) [5]) tNil)))))
  (tRet (tVar 2))))
abbrev N__law_purse : List Str := ["_law_cell"]
def t__law_purse (K : PySem.W.Frag) : TS :=
  (tRet (tLst (tCons (tCB rMax2 (tCons (tC (.int 0)) (tCons (tOp rSubI (tCB rAbs (tCons (tVar 0) tNil)) (tOp rPowI (tC (.int 10)) (tC (.int 18)))) tNil))) (tCons (tOp rAddI (tOp rModI (tCB rAbs (tCons (tVar 0) tNil)) (tC (.int 2147483563))) (tC (.int 1))) tNil))))
end G

set_option Elab.async false
set_option linter.all false
set_option maxRecDepth 100000
set_option maxHeartbeats 4000000
/-! Purses and drawn rows keep their promises. -/
namespace G
open PySem PySem.Spec PyProof.Rows L2 U
variable {K : PySem.W.Frag}
theorem pure__law_at (vs : List V) (H : Hp) (Q : VK) (E : XK) (h : sp__law_at K vs H Q E) : t__law_at K { nx := fun _ H' => Q .non H', rt := Q } (start N__law_at vs) H := by
  unfold sp__law_at at h
  split at h
  · rename_i a k
    obtain ⟨h0, ns, hs, q⟩ := h
    refine ⟨_, rfl, _, rfl, a, _, rfl, .inl hs, _, _, rfl, rfl, _, rfl, ?_⟩
    by_cases hk : k < ((ns.map V.int).length : Int)
    · rw [decide_eq_true hk]
      obtain ⟨v, ev, c, rfl⟩ := menu (n := (ns.map V.int).length) (fun v => ∃ c, v = V.int c) rfl h0 hk (fun v hv => by
        obtain ⟨c, _, rfl⟩ := List.mem_map.mp hv
        exact ⟨c, rfl⟩)
      exact iteT ⟨_, rfl, _, rfl, a, _, _, _, rfl, rfl, hs, ev, q c⟩
    · rw [decide_eq_false hk]
      exact iteF (q 0)
  · exact h.elim
theorem pure__law_purse (vs : List V) (H : Hp) (Q : VK) (E : XK) (h : sp__law_purse K vs H Q E) : t__law_purse K { nx := fun _ H' => Q .non H', rt := Q } (start N__law_purse vs) H := by
  unfold sp__law_purse at h
  split at h
  · rename_i c
    refine ⟨_, rfl, _, rfl, _, _, rfl, rfl, ⟨by decide, by decide, by decide⟩, _, _, rfl, rfl, _, _, rfl, ?_⟩
    refine ⟨_, rfl, _, rfl, _, _, rfl, rfl, (by show (0 : Int) < 2147483563; decide), _, _, rfl, rfl, (by show 2 ≤ sizeLine; decide), fun p np => ?_⟩
    refine h p _ np ⟨_, _, upd_same, ?_, ?_, ?_⟩ (same_new np)
    · split <;> omega
    · have := Int.emod_nonneg (if c < 0 then -c else c) (show (2147483563 : Int) ≠ 0 by decide)
      omega
    · have := Int.emod_lt_of_pos (if c < 0 then -c else c) (show (0 : Int) < 2147483563 by decide)
      omega
  · exact h.elim
theorem pure__law_take (vs : List V) (H : Hp) (Q : VK) (E : XK) (h : sp__law_take K vs H Q E) : t__law_take K { nx := fun _ H' => Q .non H', rt := Q } (start N__law_take vs) H := by
  unfold sp__law_take at h
  split at h
  · rename_i p n
    obtain ⟨⟨a, b, hp, ha, hb, hb2⟩, hn, hn2, k⟩ := h
    have at0 : ∀ x y : Int, atI [V.int x, V.int y] 0 = some (V.int x) := fun x y => rfl
    have at1 : ∀ x y : Int, atI [V.int x, V.int y] 1 = some (V.int y) := fun x y => rfl
    refine ⟨_, rfl, p, _, _, _, rfl, rfl, SqL.of hp, at0 a b, _, _, rfl, rfl, _, rfl, ?_⟩
    by_cases h0 : 0 < a
    · rw [decide_eq_true h0]
      refine iteT ⟨_, rfl, p, _, _, _, rfl, rfl, SqL.of hp, at0 a b, ?_⟩
      refine ⟨_, rfl, _, rfl, _, _, rfl, rfl, cdw hn hn2, _, rfl, p, _, _, 0, rfl, rfl, hp, rfl, ?_⟩
      refine ⟨_, rfl, _, rfl, _, _, rfl, rfl, hn, ?_⟩
      exact k _ _ (Int.emod_nonneg a (by omega)) (Int.emod_lt_of_pos a hn) ⟨_, _, upd_same, Int.ediv_nonneg ha (by omega), hb, hb2⟩ (Keep.refl.put (by simp))
    · rw [decide_eq_false h0]
      refine iteF ⟨_, rfl, p, _, _, _, rfl, rfl, SqL.of hp, at1 a b, _, _, rfl, rfl, .inr ⟨by decide, by decide⟩, _, _, rfl, rfl, _, _, rfl, rfl, (by show (0 : Int) < 2147483629; decide), _, rfl, p, _, _, 1, rfl, rfl, hp, rfl, ?_⟩
      have m1 := Int.emod_nonneg (b * 48271 + 9973) (show (2147483629 : Int) ≠ 0 by decide)
      have m2 := Int.emod_lt_of_pos (b * 48271 + 9973) (show (0 : Int) < 2147483629 by decide)
      have hp' : upd H p (.lst ([V.int a, V.int b].set 1 (V.int ((b * 48271 + 9973) % 2147483629)))) p = some (.lst [V.int a, V.int ((b * 48271 + 9973) % 2147483629)]) := upd_same
      refine ⟨_, rfl, p, _, _, _, rfl, rfl, SqL.of hp', at1 a _, _, rfl, p, _, _, _, rfl, rfl, SqL.of hp', at1 a _, _, _, rfl, rfl, .inl ⟨by omega, by omega⟩, _, _, rfl, rfl, (by show (0 : Int) < 2147483587; decide), ?_⟩
      refine ⟨_, rfl, _, _, rfl, rfl, cdw (by decide) (by decide), _, rfl, _, _, rfl, rfl, hn, ?_⟩
      exact k _ _ (Int.emod_nonneg _ (by omega)) (Int.emod_lt_of_pos _ hn) ⟨_, _, hp', ha, m1, by omega⟩ (Keep.refl.put (by simp))
  · exact h.elim
theorem pure__law_number (vs : List V) (H : Hp) (Q : VK) (E : XK) (h : sp__law_number K vs H Q E) : t__law_number K { nx := fun _ H' => Q .non H', rt := Q } (start N__law_number vs) H := by
  unfold sp__law_number at h
  split at h
  · rename_i p
    obtain ⟨P0, q⟩ := h
    refine ⟨_, rfl, P0, by decide, by decide, fun w H1 w0 w5 P1 k1 => ?_⟩
    refine ⟨_, rfl, rfl, _, rfl, ?_⟩
    by_cases c : w = 0
    · rw [decide_eq_true (by rw [c])]
      refine iteT ⟨_, rfl, _, _, rfl, rfl, ⟨by decide, by decide, by decide⟩, P1, by decide, by decide, fun d H2 d0 d1 P2 k2 => ?_⟩
      refine ⟨_, rfl, _, _, rfl, rfl, ⟨by decide, by decide, by decide⟩, P2, by decide, by decide, fun e H3 e0 e1 P3 k3 => ?_⟩
      have e59 : (10 : Int) ^ (59 : Int).toNat = 100000000000000000000000000000000000000000000000000000000000 := by decide
      rw [e59] at d1 e1
      exact ⟨_, _, rfl, rfl, q _ _ (by omega) (by omega) P3 ((k1.trans k2).trans k3)⟩
    · rw [decide_eq_false fun e => c (V.int.inj e)]
      refine iteF ⟨_, rfl, (by show 4 ≤ sizeLine; decide), fun l nl => ⟨_, rfl, _, _, rfl, rfl, ?_⟩⟩
      obtain ⟨v, ev, n, rfl, n0, n1⟩ := menu (xs := [V.int 2, V.int 3, V.int 5, V.int 19]) (n := 4) (d := w - 1) (fun v => ∃ n : Int, v = V.int n ∧ 2 ≤ n ∧ n ≤ 19) rfl (by omega) (by omega) (by
        intro v hv
        simp only [List.mem_cons, List.not_mem_nil, or_false] at hv
        rcases hv with rfl | rfl | rfl | rfl
        · exact ⟨2, rfl, by decide, by decide⟩
        · exact ⟨3, rfl, by decide, by decide⟩
        · exact ⟨5, rfl, by decide, by decide⟩
        · exact ⟨19, rfl, by decide, by decide⟩)
      refine ⟨l, _, _, _, rfl, rfl, SqL.of upd_same, ev, P1.same (same_new nl), by omega, by omega, fun d H2 d0 d1 P2 k2 => ?_⟩
      exact ⟨_, rfl, _, _, rfl, rfl, q _ _ (by omega) (by omega) P2 ((k1.trans (.same (same_new nl))).trans k2)⟩
  · exact h.elim
/-! ### rows -/
theorem seqT_keep {H H' : Hp} {p t : Addr} {xs : List V} (hp : PurAt H p) (k : Keep [p] H H') (h : SqT K H t xs) : SqT K H' t xs := by
  obtain ⟨a, b, e, _⟩ := hp
  rcases h with (h | ⟨q, h⟩) | h
  · exact .inl (.inl (k.k _ _ h (by simp [ne_of h e (by intro z; cases z)])))
  · exact .inl (.inr ⟨q, k.k _ _ h (by simp [ne_of h e (by intro z; cases z)])⟩)
  · exact .inr h
theorem Bld.keepP {H H' : Hp} {p d : Addr} {F : Rw} (hp : PurAt H p) (k : Keep [p] H H') (h : Bld K H d F) : Bld K H' d F := by
  obtain ⟨kvs, e, pr⟩ := h
  have hp' := hp
  obtain ⟨a, b, e2, _⟩ := hp'
  refine ⟨kvs, k.k _ _ e (by simp [ne_of e e2 (by intro z; cases z)]), L2.Paired.mapP pr fun kv r h => ?_⟩
  obtain ⟨h1, t, h2, h3⟩ := h
  exact ⟨h1, t, h2, seqT_keep hp k h3⟩
theorem RowsAt.keepP {H H' : Hp} {p a : Addr} {R : Rw} (hp : PurAt H p) (k : Keep [p] H H') (h : RowsAt K H a R) : RowsAt K H' a R := ⟨Bld.keepP hp k h.ex, h.ok⟩
theorem putA_good {F : Rw} {k : Int} {x : List Int} (g : Good F) (h : 0 < k ∧ k ≤ 60) : Good (putA F k x) := by
  refine .of ?_ fun r hr => ?_
  · rw [putA_keys]
    split
    · exact g.nd
    · rename_i c
      rw [List.nodup_append]
      exact ⟨g.nd, by simp, fun a ha b hb e => c (by rw [← List.mem_singleton.mp hb, ← e]; exact ha)⟩
  · rcases putA_mem hr with rfl | ⟨hr, _⟩
    · exact h
    · exact g.rng r hr
theorem putA_ne {F : Rw} {k : Int} {x : List Int} : putA F k x ≠ [] := fun e => by
  have := putA_keys F k x
  rw [e] at this
  have h2 : k ∈ ([] : List Int) := by
    rw [show ([] : List Int) = if k ∈ F.map (·.1) then F.map (·.1) else F.map (·.1) ++ [k] from this]
    split
    · assumption
    · exact List.mem_append_right _ (List.mem_singleton.mpr rfl)
  cases h2
theorem pure__law_rows (vs : List V) (H : Hp) (Q : VK) (E : XK) (h : sp__law_rows K vs H Q E) : t__law_rows K { nx := fun _ H' => Q .non H', rt := Q } (start N__law_rows vs) H := by
  unfold sp__law_rows at h
  split at h
  · rename_i p m
    obtain ⟨P0, n, rfl, n100, q⟩ := h
    intro d nd
    have npd := P0.ne nd
    refine ⟨_, rfl, P0.same (same_new nd), by decide, by decide, fun w H1 w0 w9 P1 k1 => ?_⟩
    refine ⟨_, _, rfl, rfl, _, rfl, by omega, by omega, ?_⟩
    have k01 : Keep [p] H H1 := (Keep.same (same_new nd)).trans k1
    have hd1 := k1.k _ _ upd_same (by simp [npd.symm] : d ∉ [p])
    refine for_range (lo := 0) (n := (1 + w).toNat) (fun i σ H' => ∃ v3 v4 F, σ = [some (.ref p), some (.int (n : Int)), some (.ref d), v3, v4, none] ∧ PurAt H' p ∧ Keep [p] H H' ∧ Bld K H' d F ∧ Good F ∧ Wd F n ∧ (∀ r ∈ F, r.1 ≤ 12) ∧ Sml F ∧ (1 ≤ i → F ≠ []))
      ⟨_, _, [], rfl, P1, k01, ⟨[], hd1, .nil⟩, .of List.nodup_nil (by simp), (fun r hr => (List.not_mem_nil hr).elim), by simp, (fun r hr => (List.not_mem_nil hr).elim), fun h => absurd h (by decide)⟩ ?_ ?_
    · rintro i σ H2 hi ⟨v3, v4, F, rfl, P2, k2, b2, g2, wd2, f12, sm2, ne2⟩
      refine ⟨_, rfl, P2, by decide, by decide, fun e H3 e0 e12 P3 k3 => ?_⟩
      refine ⟨_, _, rfl, rfl, ?_⟩
      have b3 := Bld.keepP P2 k3 b2
      refine ⟨_, rfl, _, rfl, by omega, by omega, fun D hD => ?_⟩
      have pD := P3.ne hD
      have k03 := k2.trans k3
      have hD0 : H D = none := k03.free (by simp [pD.symm]) hD
      have nDd : D ≠ d := fun z => by
        obtain ⟨kv, e', _⟩ := b3
        rw [z, e'] at hD
        cases hD
      refine lc_range (g := gName 5) (vs := [5]) (lo := 0) (n := ((n : Int)).toNat) (fun j H' => PurAt H' p ∧ Keep [p] H H' ∧ Bld K H' d F ∧ ∃ xs : List Int, xs.length = j ∧ (∀ x ∈ xs, -(10 ^ 60) < x ∧ x < 10 ^ 60) ∧ H' D = some (.lst (xs.map V.int)))
        ⟨P3.same (same_new hD), k03.new hD0, b3.keep (same_new hD), [], rfl, (fun x hx => (List.not_mem_nil hx).elim), upd_same⟩ (fun j H4 hj ⟨P4, k4, b4, xs, hx, hb, hd4⟩ => ?_) (fun H4 ⟨P4, k4, b4, xs, hx, hb, hd4⟩ => ?_)
      · refine ⟨wipe1, _, rfl, P4, fun c H5 cl ch P5 k5 => ?_⟩
        have hd5 := k5.k _ _ hd4 (by simp [pD.symm] : D ∉ [p])
        refine ⟨_, hd5, by rw [List.length_map, sizeLine_eq]; omega, ?_⟩
        have b5 := Bld.keepP P4 k5 b4
        refine ⟨P5.keep (l := [D]) (Keep.refl.put (by simp)) (by simp [pD]), (k4.trans k5).new hD0, ?_, xs ++ [c], by simp [hx], (fun x hx => by
          rcases List.mem_append.mp hx with hx | hx
          · exact hb x hx
          · rw [List.mem_singleton.mp hx]
            exact ⟨cl, ch⟩), by rw [upd_same, List.map_append]; rfl⟩
        obtain ⟨kv, e', pr⟩ := b5
        refine ⟨kv, (upd_ne nDd.symm).trans e', L2.Paired.mapP pr fun kv r h => ?_⟩
        obtain ⟨h1, t, h2, h3⟩ := h
        refine ⟨h1, t, h2, ?_⟩
        rcases h3 with (h3 | ⟨qq, h3⟩) | h3
        · exact .inl (.inl ((upd_ne (ne_of h3 hd5 (by intro z; cases z))).trans h3))
        · exact .inl (.inr ⟨qq, (upd_ne (ne_of h3 hd5 (by intro z; cases z))).trans h3⟩)
        · exact .inr h3
      · refine ⟨D, _, rfl, .inl ⟨SqL.of hd4, fun l nl => ?_⟩⟩
        have sl := same_new (o := .tup (xs.map V.int)) nl
        obtain ⟨fk, hfk, pf⟩ := b4.keep sl
        have fl := paired_len pf
        have few := g2.few
        refine ⟨_, rfl, _, rfl, d, _, rfl, DPut.k (k := Sum.inl (1 + e)) hfk (by rw [fl, sizeLine_eq]; omega), ?_⟩
        refine ⟨_, _, putA F (1 + e) xs, rfl, ?_, ?_, Bld.put hfk pf ⟨rfl, l, rfl, .inl (.inl upd_same)⟩, putA_good g2 (by omega), fun r hr => ?_, fun r hr => ?_, fun r hr => ?_, fun _ => putA_ne⟩
        · exact (P4.same sl).keep (l := [d]) (Keep.refl.put (by simp)) (by simp [npd])
        · exact (k4.trans (.same sl)).new nd
        · rcases putA_mem hr with rfl | ⟨hr, _⟩
          · show xs.length = n
            rw [hx]
            omega
          · exact wd2 r hr
        · rcases putA_mem hr with rfl | ⟨hr, _⟩
          · show 1 + e ≤ 12
            omega
          · exact f12 r hr
        · rcases putA_mem hr with rfl | ⟨hr, _⟩
          · exact hb
          · exact sm2 r hr
    · rintro σ H2 ⟨v3, v4, F, rfl, P2, k2, b2, g2, wd2, f12, sm2, ne2⟩
      exact ⟨_, rfl, q d F H2 ⟨b2, g2⟩ wd2 (ne2 (by omega)) f12 sm2 P2 nd k2⟩
  · exact h.elim
end G

set_option Elab.async false
set_option linter.all false
set_option maxRecDepth 100000
set_option maxHeartbeats 4000000
/-! d.items() as a value; sorted(d.items()), whole numbers as keys. -/
namespace U
open PySem PySem.Spec PyProof.Rows L2
open PySem.W (KatTups KatLex kat_lt kat_cons kat_go kat_yes kat_no kat_nil kat_kind)
def tItemsV (td : TE) : TE := fun σ H Q => td σ H fun x H1 => ∃ d kvs, x = .ref d ∧ Rd H1 d (.dK kvs) ∧ ∀ p, H1 p = none → Q (.ref p) (upd H1 p (DX.itemsO p d))
theorem raw_of {P : Program} {w : World} {H : Hp} {h : Heap} {d : Addr} {kvs : List (Key × V)} (ok : HOk P w H h) (hd : Rd H d (.dK kvs)) : kvs.length ≤ sizeLine ∧ (d == sysModules) = false ∧ ∃ (vs : List (Key × Value)) (es : Array DictEntry) (ep : Nat), KV kvs vs ∧ DT.Raw h d es ep ∧ Pairs (mixKind P w) es.toList vs := by
  obtain ⟨z, hs, vs, rel, o, es, ep, h1, h2, h3, _, h5, _⟩ := dk_rd ok hd
  exact ⟨z, hs, vs, es, ep, rel, ⟨o, h1, h2, h3⟩, h5⟩
theorem pe_itemsV {X : Cx} {e : Expr} {td : TE} {apos cpos : Pos} (he : PE X e td) (hbase : attributeBase e "items" X.env (eval e X.env) = eval e X.env := by rfl) (hline : (apos.endLine == cpos.line) = true := by rfl) : PE X (.Call (.Attribute e "items" apos) [] [] cpos) (tItemsV td) := by
  refine ⟨fun pins s σ H Q I h => ?_⟩
  refine wpAny_Call_method (T := "dict") (id := "dict.items") hbase rfl hline F.plainAttrs_dict F.slot_dict_items F.type_dict_items (thn (he.run pins s σ H _ I h) fun u s1 ⟨x, H1, I1, rx, d, kvs, ex, hd, q⟩ => ?_)
  subst ex
  obtain rfl : u = Value.ref d := rx
  obtain ⟨_, hs, vs0, _, dd⟩ := dk_rd I1.hok hd
  obtain ⟨z, _, vs, es, ep, rel, raw, _⟩ := raw_of I1.hok hd
  refine ⟨dd.typeIs, dd.mapOf.noDict, ?_⟩
  have ho : (s1.heap.push { cls := .type "dict_items", data := .fields #[.ref d] }).get? s1.heap.objs.size = some { cls := .type "dict_items", data := .fields #[.ref d] } := Heap.get?_push_size _ rfl
  have I2 : Inv X pins σ (upd H1 s1.heap.objs.size (DX.itemsO s1.heap.objs.size d)) { s1 with heap := s1.heap.push { cls := .type "dict_items", data := .fields #[.ref d] } } :=
    I1.laid (t' := s1.toks) (fun b ob q => Heap.get?_push_of_some _ q) (Nat.le_refl _) (DX.itemsO_ok ho)
  show wpAny _ _ (callWith cpos (.builtin "dict.items") [.ref d] [] []) _ X.xe s1
  exact method_meetsIn F.slot_dict_items F.entry_dict_items rfl (PySem.evalArgs_none ⟨rfl, dd.typeIs, F.args_dict_items_1 _, _, DT.meetsItems (es := es) (ep := ep) hs, raw, ⟨.ref s1.heap.objs.size, _, I2, rfl, q _ (I1.hok.fresh (Nat.le_refl _))⟩⟩)
/-! ### the sort -/
def numAt : List Addr → List Int → Addr → Option Int
  | a :: as, k :: ks, b => if a = b then some k else numAt as ks b
  | _, _, _ => none
theorem numAt_of : ∀ {as : List Addr} {ks : List Int} {j : Nat} {b : Addr} {k : Int}, as.Nodup → as[j]? = some b → ks[j]? = some k → numAt as ks b = some k
  | a :: as, k0 :: ks, 0, b, k, _, h1, h2 => by
    cases h1
    cases h2
    exact if_pos rfl
  | a :: as, k0 :: ks, j + 1, b, k, nd, h1, h2 => by
    rw [List.nodup_cons] at nd
    have hb : as[j]? = some b := h1
    have : a ≠ b := fun e => nd.1 (by rw [e]; exact List.mem_of_getElem? hb)
    show (if a = b then some k0 else numAt as ks b) = some k
    rw [if_neg this]
    exact numAt_of nd.2 hb h2
theorem numAt_back : ∀ {as : List Addr} {ks : List Int} {b : Addr} {k : Int}, numAt as ks b = some k → ∃ j : Nat, as[j]? = some b ∧ ks[j]? = some k
  | [], _, _, _, h => by cases h
  | a :: as, [], _, _, h => by cases h
  | a :: as, k0 :: ks, b, k, h => by
    by_cases c : a = b
    · have : (if a = b then some k0 else numAt as ks b) = some k := h
      rw [if_pos c] at this
      cases this
      exact ⟨0, by rw [c]; rfl, rfl⟩
    · have : (if a = b then some k0 else numAt as ks b) = some k := h
      rw [if_neg c] at this
      obtain ⟨j, h1, h2⟩ := numAt_back this
      exact ⟨j + 1, h1, h2⟩
def refNum (as : List Addr) (ks : List Int) : Value → Option Int
  | .ref b => numAt as ks b
  | _ => none
@[reducible] def numKind (as : List Addr) (ks : List Int) : PyProof.Rows.KeyKind where
  α := Int
  blt a b := decide (a < b)
  irrefl a := decide_eq_false (Int.lt_irrefl a)
  trans a b c h1 h2 := decide_eq_true (Int.lt_trans (of_decide_eq_true h1) (of_decide_eq_true h2))
  negTrans a b c h := by
    have := of_decide_eq_true h
    by_cases z : a < b
    · exact .inl (decide_eq_true z)
    · exact .inr (decide_eq_true (by omega))
  total a b h1 h2 := by
    have := of_decide_eq_false h1
    have := of_decide_eq_false h2
    omega
  keyOf := refNum as ks
  dflt := 0
/-- what the sort compares: a number, anything -/
structure PrsAt (h : Heap) (as : List Addr) (ks : List Int) (qs : List Addr) : Prop where
  ad : as.Nodup
  kd : ks.Nodup
  at_ : ∀ (j : Nat) (b : Addr), as[j]? = some b → ∃ (i : Int) (t : Tok) (q : Addr), ks[j]? = some i ∧ qs[j]? = some q ∧ h.get? b = some { cls := .type "tuple", data := .seq #[.int i t, .ref q] }
theorem PrsAt.keep {h h' : Heap} {as : List Addr} {ks : List Int} {qs : List Addr} (x : PrsAt h as ks qs) (k : ∀ b o, h.get? b = some o → o.cls = .type "tuple" → h'.get? b = some o) : PrsAt h' as ks qs :=
  ⟨x.ad, x.kd, fun j b hj => by
    obtain ⟨i, t, q, h1, h2, h3⟩ := x.at_ j b hj
    exact ⟨i, t, q, h1, h2, k _ _ h3 rfl⟩⟩
section
variable {prog : Program} {w : World} {A : Around} {E : Value → Shared → Prop} {s : Shared}
theorem eqBool_one {q : Addr} {Q : Bool → Shared → Prop} (h : Q true s) : wpAny (model prog w) A (eqBool (.ref q) (.ref q)) Q E s := by
  unfold eqBool
  refine wpAny_holding ?_
  show wpAny _ _ (if (Value.ref q == Value.ref q) = true then _ else _) Q E s
  rw [if_pos (by simp)]
  exact wpAny_bind (wpAny_rule (wpAny_pure h))
theorem prs_lt {as : List Addr} {ks : List Int} {qs : List Addr} (x : PrsAt s.heap as ks qs) : PyProof.Rows.G.LtAt prog w s (numKind as ks) (tuples' true) := by
  intro A E u v a b Q hu hv hq
  cases u with
  | ref bu =>
    cases v with
    | ref bv =>
      obtain ⟨i, i1, i2⟩ := numAt_back (show numAt as ks bu = some a from hu)
      obtain ⟨j, j1, j2⟩ := numAt_back (show numAt as ks bv = some b from hv)
      obtain ⟨a', t, q, e1, e2, e3⟩ := x.at_ i bu i1
      obtain ⟨b', t', q', f1, f2, f3⟩ := x.at_ j bv j1
      obtain rfl : a = a' := Option.some.inj (i2.symm.trans e1)
      obtain rfl : b = b' := Option.some.inj (j2.symm.trans f1)
      have hq : Q (decide (a < b)) s := hq
      refine kat_lt e3 rfl f3 rfl ?_
      show KatLex prog w A true false Q [(Value.int a t, Value.int b t'), (Value.ref q, Value.ref q')] 0 s
      refine kat_cons (wpAny_eqBool_int (kat_go (fun e => ?_) fun e => ?_))
      · have e : a = b := eq_of_beq e
        subst e
        have ij : i = j := (List.getElem?_inj (List.getElem?_eq_some_iff.mp e1).1 x.kd).mp (e1.trans f1.symm)
        subst ij
        obtain rfl : q = q' := Option.some.inj (e2.symm.trans f2)
        rw [decide_eq_false (Int.lt_irrefl a)] at hq
        exact kat_yes (kat_cons (eqBool_one (kat_go (fun _ => kat_yes (kat_nil hq)) fun e => by cases e)))
      · refine kat_no ?_
        show wpAny _ _ (oneLt' true _ _) _ _ _
        exact oneLt_int hq
    | _ => cases hv
  | _ => cases hu
theorem prs_firsts {h : Heap} : ∀ (as : List Addr), (∀ b ∈ as, ∃ (i : Int) (t : Tok) (q : Addr), h.get? b = some { cls := .type "tuple", data := .seq #[.int i t, .ref q] }) → ∃ fs : List Value, KatTups h (as.map Value.ref) fs ∧ fs.length = as.length ∧ ∀ f ∈ fs, ∃ i t, f = Value.int i t
  | [], _ => ⟨[], .nil, rfl, fun f hf => by cases hf⟩
  | b :: as, x => by
    obtain ⟨fs, k, hl, hi⟩ := prs_firsts as fun c hc => x c (List.mem_cons_of_mem _ hc)
    obtain ⟨i, t, q, e⟩ := x b (List.mem_cons_self ..)
    refine ⟨.int i t :: fs, KatTups.cons e rfl rfl rfl k, by rw [List.length_cons, List.length_cons, hl], fun f hf => ?_⟩
    rcases List.mem_cons.mp hf with rfl | hf
    · exact ⟨i, t, rfl⟩
    · exact hi f hf
theorem prs_kind {as : List Addr} {ks : List Int} {qs : List Addr} {Q : SortKind → Shared → Prop} (h2 : 2 ≤ (as.map Value.ref).length) (x : PrsAt s.heap as ks qs) (h : Q (tuples' true) s) : wpAny (model prog w) A (keyKind' (as.map Value.ref).toArray) Q E s := by
  obtain ⟨fs, k, hl, hi⟩ := prs_firsts as fun b hb => by
    obtain ⟨j, hj⟩ := List.mem_iff_getElem?.mp hb
    obtain ⟨i, t, q, _, _, e⟩ := x.at_ j b hj
    exact ⟨i, t, q, e⟩
  rw [List.length_map] at h2
  refine kat_kind (T := Value.type "int") k (by omega) (fun f hf => ?_) rfl h
  obtain ⟨i, t, rfl⟩ := hi f hf
  exact PySem.W.Looks.of_pure rfl
end
/-! ### the rule -/
def keyNum : Key → Int
  | .inl i => i
  | .inr _ => 0
/-- sorted(d.items()): whole numbers as keys, objects as values; each pair is a new tuple -/
def rSortIt : RC := fun xs H Q => ∃ (p a : Addr) (kvs : List (Key × V)) (ks : List Int) (qs : List Addr), xs = [.ref p] ∧ H p = some (DX.itemsO p a) ∧ Rd H a (.dK kvs) ∧ kvs = (ks.zip qs).map (fun z => (Sum.inl z.1, V.ref z.2)) ∧ ks.length = qs.length ∧ ks.Nodup ∧
  ∀ (H' : Hp) (l : Addr) (zs : List (Addr × (Int × Addr))), Same H H' → H l = none → (zs.map (·.2)).Perm (ks.zip qs) → (zs.map (·.2)).Pairwise (fun e f => e.1 ≤ f.1) → H' l = some (.lst (zs.map fun z => V.ref z.1)) →
    (∀ z ∈ zs, H z.1 = none ∧ H' z.1 = some (.tup [.int z.2.1, .ref z.2.2])) → Q (.ref l) H'
theorem pairs_at {P : Program} {w : World} : ∀ {es : List DictEntry} {vs : List (Key × Value)}, Pairs (mixKind P w) es vs → ∀ {j : Nat} {e : DictEntry}, es[j]? = some e → ∃ kv, vs[j]? = some kv ∧ keyIs kv.1 e.key = true ∧ e.val = kv.2
  | _, _, .nil, j, e, h => by cases h
  | _, _, .cons h1 h2 r, 0, e, h => by
    cases h
    exact ⟨_, rfl, h1, h2⟩
  | _, _, .cons h1 h2 r, j + 1, e, h => pairs_at r (j := j) h
theorem cr_sortIt {X : Cx} (hc : X.calm = true) : CallR X (.builtin "sorted") rSortIt := by
  intro pins s σ H xs us Q I r h
  obtain ⟨p, a, kvs, ks, qs, rfl, hp, ha, ekv, lkq, knd, q⟩ := h
  obtain rfl := Vals.ref1 r
  have view : s.heap.IsItemsView p a := (show ObjOk X.prog X.w H s.heap p (DX.itemsO p a) from I.hok p _ hp).1
  obtain ⟨z, _, vs, es, ep, rel, raw, prs⟩ := raw_of I.hok ha
  have lk : kvs.length = ks.length := by rw [ekv, List.length_map, List.length_zip, ← lkq, Nat.min_self]
  have lv : kvs.length = vs.length := Paired.length rel
  have le : es.size = vs.length := by
    rw [← Array.length_toList]
    exact prs.length
  refine DT.sortedI (es := es) (ep := ep) (I.ok.hd hc) view raw (by omega) fun h' tk as hk hlt hl hG => ?_
  have nd : as.Nodup := List.Pairwise.imp (fun h => Nat.ne_of_lt h) hG.rise
  have lak : as.length = ks.length := by omega
  -- the pairs that were made
  have pr : PrsAt h' as ks qs := ⟨nd, knd, fun j b hj => by
    obtain ⟨e, he, hg⟩ := hG.pairs j b hj
    obtain ⟨kv, hkv, e1, e2⟩ := pairs_at prs (j := j) (e := e) (by rw [Array.getElem?_toList]; exact he)
    obtain ⟨kv0, h0, r1, r2⟩ := DX.pget rel hkv
    rw [ekv, List.getElem?_map] at h0
    cases hz : (ks.zip qs)[j]? with
    | none => rw [hz] at h0; cases h0
    | some y =>
      rw [hz] at h0
      cases h0
      obtain ⟨h1, h2⟩ := List.getElem?_zip_eq_some.mp hz
      have r1 : Sum.inl y.1 = kv.1 := r1
      have r2 : kv.2 = Value.ref y.2 := r2
      rw [← r1] at e1
      rcases keyIs_shape e1 with ⟨i, t, ek, ev⟩ | ⟨z, t, ek, ev⟩
      · cases ek
        refine ⟨y.1, t, y.2, h1, h2, ?_⟩
        rw [hg, ev, e2, r2]
      · cases ek⟩
  -- the heap of the sort
  have hob : (h'.push { cls := .type "list", data := .seq (as.map Value.ref).toArray }).get? h'.objs.size = some (seqObj "list" (as.map Value.ref).toArray 0) := Heap.get?_push_size _ rfl
  have kb : ∀ b o, s.heap.get? b = some o → (h'.push { cls := .type "list", data := .seq (as.map Value.ref).toArray }).get? b = some o := fun b o e => Heap.get?_push_of_some _ (hk b o e)
  have ne0 : ∀ b o, h'.get? b = some o → b ≠ h'.objs.size := fun b o e => Nat.ne_of_lt (Heap.lt_size e)
  have ka : ∀ b o, h'.get? b = some o → (h'.push { cls := .type "list", data := .seq (as.map Value.ref).toArray }).get? b = some o := fun b o e => Heap.get?_push_of_some _ e
  generalize h'.push { cls := .type "list", data := .seq (as.map Value.ref).toArray } = h2 at hob kb ka ⊢
  have pr6 : PrsAt (PyProof.Rows.G.sortHeap6 h2 h'.objs.size (as.map Value.ref)) as ks qs := (pr.keep fun b o e _ => ka b o e).keep (PyProof.Rows.G.keeps_sort6 hob)
  have keyed : KeysOf (numKind as ks) (pairsOf (as.map Value.ref)) := by
    intro y hy
    rw [pairsOf_toList] at hy
    obtain ⟨b, hb, e⟩ := List.mem_map.mp (mem_zip_self hy).2
    obtain ⟨j, hj⟩ := List.mem_iff_getElem?.mp hb
    obtain ⟨i, _, _, h1, _⟩ := pr.at_ j b hj
    refine ⟨i, ?_⟩
    rw [← e]
    exact numAt_of nd hj h1
  refine wpAny_call_entry PyProof.Rows.slot_list_sort ⟨_, hob, rfl⟩ PyProof.Rows.entry_list_sort
    (PyProof.Rows.G.list_sort_treeG (s := { s with heap := h2, toks := tk }) (κ := numKind as ks) (kd := tuples' true) hob keyed (prs_lt (s := { s with heap := PyProof.Rows.G.sortHeap6 h2 h'.objs.size (as.map Value.ref), toks := tk }) pr6)
      (fun h2' _ hQ => prs_kind (s := { s with heap := PyProof.Rows.G.sortHeap6 h2 h'.objs.size (as.map Value.ref), toks := tk }) h2' pr6 hQ) (by rw [List.length_map, sizeLine_eq]; rw [sizeLine_eq] at z; omega) fun st' o2 o3 _ => ⟨.none, rfl, ?_⟩) (PyProof.Rows.args_list_sort _)
  show EP X pins σ Q (.ref h'.objs.size) { s with heap := sortedHeap h2 h'.objs.size (as.map Value.ref) ((arrOf st').map (·.2)), toks := tk }
  have o2l : (arrOf st').toList.Perm ((as.map Value.ref).zip (as.map Value.ref)) := by
    rw [← pairsOf_toList]
    exact o2.toList
  have lz : as.length = (ks.zip qs).length := by rw [List.length_zip, ← lkq, Nat.min_self, lak]
  obtain ⟨zs, pz, ez⟩ := perm_lift (fun z : Addr × (Int × Addr) => (Value.ref z.1, Value.ref z.1)) o2l (as.zip (ks.zip qs)) (DX.zip_self Value.ref as (ks.zip qs) lz)
  have idx : ∀ z ∈ zs, ∃ j : Nat, as[j]? = some z.1 ∧ (ks.zip qs)[j]? = some z.2 := fun z hz => by
    obtain ⟨j, hj⟩ := List.mem_iff_getElem?.mp (pz.mem_iff.mp hz)
    exact ⟨j, List.getElem?_zip_eq_some.mp hj⟩
  have hout : ((arrOf st').map (·.2)).toList = zs.map fun z => Value.ref z.1 := by
    rw [Array.toList_map, ← ez, List.map_map]
    rfl
  have hperm : (zs.map (·.2)).Perm (ks.zip qs) := by
    have e := pz.map (·.2)
    have m2 : (as.zip (ks.zip qs)).map (·.2) = ks.zip qs := List.map_snd_zip (by rw [lz]; exact Nat.le_refl _)
    rw [m2] at e
    exact e
  have hsort : (zs.map (·.2)).Pairwise (fun e f => e.1 ≤ f.1) := by
    have k2 : KeysOf (numKind as ks) (arrOf st') := fun y hy => keyed y (by rw [pairsOf_toList]; exact o2l.mem_iff.mp hy)
    have s2 : SortedToK (numKind as ks) (arrOf st') (arrOf st').size := by
      rw [o2.size_eq]
      exact o3
    have s3 := keyLe_of_sorted k2 s2
    rw [← ez, List.pairwise_map] at s3
    rw [List.pairwise_map]
    refine List.Pairwise.imp_of_mem (fun {x y} hx hy h => ?_) s3
    obtain ⟨i, i1, i2⟩ := idx x hx
    obtain ⟨j, j1, j2⟩ := idx y hy
    obtain ⟨u, v, eu, ev, le⟩ := h
    have eu : numAt as ks x.1 = some u := eu
    have ev : numAt as ks y.1 = some v := ev
    rw [numAt_of nd i1 (List.getElem?_zip_eq_some.mp i2).1] at eu
    rw [numAt_of nd j1 (List.getElem?_zip_eq_some.mp j2).1] at ev
    cases eu
    cases ev
    have le : decide (y.2.1 < x.2.1) = false := le
    have := of_decide_eq_false le
    omega
  generalize (arrOf st').map (·.2) = out at hout ⊢
  -- behind the sort
  have kF : ∀ b o, b ≠ h'.objs.size → h2.get? b = some o → (sortedHeap h2 h'.objs.size (as.map Value.ref) out).get? b = some o := fun b o hb e => (PyProof.Rows.sortedHeap_old hb (Heap.lt_size e)).trans e
  have kS : ∀ b o, s.heap.get? b = some o → (sortedHeap h2 h'.objs.size (as.map Value.ref) out).get? b = some o := fun b o e => kF b o (ne0 _ _ (hk b o e)) (kb b o e)
  obtain ⟨eF, heF⟩ := PyProof.Rows.sortedHeap_at (vs := as.map Value.ref) (out := out) hob
  have I1 : Inv X pins σ H { s with heap := sortedHeap h2 h'.objs.size (as.map Value.ref) out, toks := tk } := I.kept (t' := tk) kS
  have hn0 : H h'.objs.size = none := I.hok.fresh (Nat.le_of_lt hlt)
  have hlen : (zs.map fun z => V.ref z.1).length ≤ sizeLine := by
    have e := hperm.length_eq
    rw [List.length_map] at e
    rw [List.length_map]
    omega
  have rv : Vals (zs.map fun z => V.ref z.1) out.toList := by
    rw [hout]
    exact vals_maps (fun z : Addr × (Int × Addr) => V.ref z.1) (fun z => Value.ref z.1) zs fun _ _ => rfl
  have I2 : Inv X pins σ (upd H h'.objs.size (.lst (zs.map fun z => V.ref z.1))) { s with heap := sortedHeap h2 h'.objs.size (as.map Value.ref) out, toks := tk } :=
    I1.take (h' := sortedHeap h2 h'.objs.size (as.map Value.ref) out) (t' := tk) (fun b ob _ e => e) (I.fpOk (Nat.le_of_lt hlt) hn0) ⟨hlen, out.toList, eF, rv, heF⟩
  obtain ⟨H2, I3, g, qt⟩ := DX.takeT (P := fun b vs => ∃ (j : Nat) (e : Int × Addr), as[j]? = some b ∧ (ks.zip qs)[j]? = some e ∧ vs = [.int e.1, .ref e.2]) I as _ I2 nd fun b hb => by
    obtain ⟨j, hj⟩ := List.mem_iff_getElem?.mp hb
    obtain ⟨i, t, y, h1, h3, hg⟩ := pr.at_ j b hj
    have hbl : s.heap.objs.size ≤ b := Nat.le_of_lt (hG.above b hb)
    refine ⟨hbl, ?_, [.int i, .ref y], ⟨j, (i, y), hj, List.getElem?_zip_eq_some.mpr ⟨h1, h3⟩, rfl⟩, fun H3 => ⟨(by show 2 ≤ sizeLine; decide), [Value.int i t, Value.ref y], .cons ⟨t, rfl⟩ (.cons rfl .nil), ⟨_, kF _ _ (ne0 _ _ hg) (ka _ _ hg), rfl, 0, rfl⟩⟩⟩
    rw [upd_ne (ne0 _ _ hg)]
    exact I.hok.fresh hbl
  have gr : Same H H2 := fun b o e => g b o (by rw [upd_ne (ne_of_none e hn0)]; exact e)
  refine ⟨.ref h'.objs.size, H2, I3, rfl, q H2 h'.objs.size zs gr hn0 hperm hsort (g _ _ upd_same) fun y hy => ?_⟩
  obtain ⟨i, i1, i2⟩ := idx y hy
  obtain ⟨vs, ⟨j, e, j1, j2, ev⟩, hH⟩ := qt y.1 (List.mem_of_getElem? i1)
  have eij : i = j := (List.getElem?_inj (List.getElem?_eq_some_iff.mp i1).1 nd).mp (i1.trans j1.symm)
  subst eij
  obtain rfl : e = y.2 := Option.some.inj (j2.symm.trans i2)
  rw [ev] at hH
  exact ⟨I.hok.fresh (Nat.le_of_lt (hG.above _ (List.mem_of_getElem? i1))), hH⟩
end U

set_option Elab.async false
set_option linter.all false
set_option maxRecDepth 100000
set_option maxHeartbeats 4000000
/-! Defs that run while no repr is under way: the promise FnG is FnOk's, with the one thing more that is known of what stands around (no guard), so that repr of lists, tuples and dicts can be told within. -/
namespace U
open PySem PySem.Spec PyProof.Rows L2
theorem guards_deeper {A : Around} {env : Env} (h : A.guards = some []) : (A.deeper env).guards = some [] := by
  first | exact h | (simp [Around.deeper, h])
structure FnG (P : Program) (w : World) (K : PySem.W.Frag) (mg : Str → Option Value) (base : Heap) (CX : CXT) (k : Nat) (f : Addr) (fd : FuncData) (ps : List Str) (sp : Sp) : Prop where
  len : ∀ vs H Q E, sp vs H Q E → vs.length = ps.length
  run : ∀ (A : Around) (outer : List Env) (s : Shared) (H : Hp) (args : Args) (us : List Value) (vs : List V) (Q : VK) (E : XK), Room k A → A.guards = some [] → Env0 P w K mg base A outer s H → BindsTo s fd args (ps.zip us) → Vals vs us → sp vs H Q E →
    codeAny (model P w) A (.call (.ref f) args) (CR CX outer P w H s Q E) s
theorem FnG.of {P : Program} {w : World} {K : PySem.W.Frag} {mg : Str → Option Value} {base : Heap} {CX : CXT} {k : Nat} {f : Addr} {fd : FuncData} {ps : List Str} {sp : Sp} (F : FnOk P w K mg base CX k f fd ps sp) : FnG P w K mg base CX k f fd ps sp :=
  ⟨F.len, fun A outer s H args us vs Q E hr _ => F.run A outer s H args us vs Q E hr⟩
section
variable {P : Program} {w : World} {K : PySem.W.Frag} {mg : Str → Option Value} {base : Heap} {CX : CXT} {k : Nat} {x qual : Str} {params : Arguments} {body : List Stmt} {scope : Scope} {dvs : List V} {kws : List (Str × V)} {f : Addr} {fd : FuncData} {N ps : List Str} {sp : Sp}
theorem okG (F : FunD K x qual params body scope dvs kws f fd) (S : FnScope N ps scope) (len : ∀ vs H Q E, sp vs H Q E → vs.length = ps.length)
    (hbody : ∀ (cdv : Value) (A : Around) (outer : List Env) (s : Shared) (H : Hp) (vs : List V) (Q : VK) (E : XK), Room k (A.deeper (envOfC qual scope s.heap.objs.size f cdv)) → (A.deeper (envOfC qual scope s.heap.objs.size f cdv)).guards = some [] → sp vs H Q E →
      ∃ t, PSs (cxOf CX P w K mg base N qual scope f cdv A outer s H E) body t ∧ t { nx := fun _ H' => Q .non H', rt := Q } (start N vs) H) : FnG P w K mg base CX (k + 1) f fd ps sp := by
  obtain ⟨oc, od, dV, kV, doc, pm, an, cdv, ct, osl, rfl, lk, hcd, _, _⟩ := F.ex
  refine ⟨len, fun A outer s H args us vs Q E hr hg e0 hb r hsp => ?_⟩
  have down : ∀ b o, base.get? b = some o → s.heap.get? b = some o := fun b o e => (e0.bs b o e).1
  have KX : K.In s.heap := e0.mod.kin.keeps down
  obtain ⟨t, ht, hq⟩ := hbody cdv A outer s H vs Q E (hr.deeper _) (guards_deeper hg) hsp
  refine codeAny_call_function hr.depth (KX _ _ lk) rfl S.co S.gen rfl (PySem.W.codeRec_of KX hcd) (hb _ _ _ _ (wpAny_newFunctionEnv_cells S.kind (fun y hy => ?_) fun env he s1 x => ?_))
  · rcases S.par y.1 (List.of_mem_zip hy).1 with q | q
    · exact .inl q
    · exact .inr ⟨q, PySem.W.cellsFrom_some _ _ _ (.inl q)⟩
  · subst he
    refine ⟨(e0.mod.nolimit.keeps down).keeps x.toInCall.keep, codeAny_func (wpAny_mono (ht.run [] s1 (start N vs) H _ (inv_start S hr.hd e0 (len _ _ _ _ hsp) r x) hq) (fun fl s' hs => ?_) fun e s' hs => hs)⟩
    cases fl with
    | ret u =>
      obtain ⟨v, σ', H', J, rv, q⟩ := hs
      exact ⟨v, H', J.os, J.bare, J.base, J.hok, rv, q⟩
    | next =>
      obtain ⟨σ', H', J, q⟩ := hs
      exact ⟨V.non, H', J.os, J.bare, J.base, J.hok, rfl, q⟩
    | brk =>
      obtain ⟨_, _, _, q⟩ := hs
      exact q.elim
    | cont =>
      obtain ⟨_, _, _, q⟩ := hs
      exact q.elim
end
/-! ### the call -/
structure CalG (P : Program) (w : World) (K : PySem.W.Frag) (mg : Str → Option Value) (base : Heap) (CX : CXT) (k : Nat) (x : Str) (sp : Sp) (dvs : List V) : Prop where
  ex : ∃ (f : Addr) (fd : FuncData) (ps : List Str) (ds : List Value), FnG P w K mg base CX k f fd ps sp ∧ mg x = some (.ref f) ∧ PySem.W.keepIn K (.ref f) = true ∧ Binds K fd ps ds ∧ Vals dvs ds
theorem pe_cG {X : Cx} {CX : CXT} {k j : Nat} {sp : Sp} {dvs : List V} {E : L2.St → XK} {x : Str} {p pos : Pos} {e : Expr} {es : List Expr} {t : TA} (c : CalG X.prog X.w X.K X.mg X.base CX k x sp dvs) (hr : Room j X.A) (hgd : X.A.guards = some []) (hk : k ≤ j) (hx : ∀ σ, PassesAt CX X σ (E σ)) (hg : Gl X x) (ha : PA X (e :: es) t)
    (hdb : (x == ("__debug__" : Str)) = false := by decide) (he : starEach (e :: es) X.env = (false, eval e X.env) :: starEach es X.env := by rfl) (hpl : (backTo pos (starEach es X.env)).any (·.1) = false := by rfl) :
    PE X (.Call (.Name x p) (e :: es) [] pos) (tCl sp dvs E t) := by
  obtain ⟨f, fd, ps, ds, F, hm, kp, b, d⟩ := c.ex
  refine ⟨fun pins s σ H Q I h => wpAny_Call_Name_kw (ld_glob I hg hm (PySem.W.callWith_K (h₀ := X.base) I.ok.mod.kin kp (thn (ha.run pos pins s σ H _ I h) fun us s1 hu => ?_) he hpl) hdb)⟩
  obtain ⟨vs, H1, J, r, q⟩ := hu
  refine ⟨J.kIn, wpAny_call (codeAny_mono (F.run X.A X.stack s1 H1 ⟨us, []⟩ (us ++ ds) (vs ++ dvs) Q (E σ) (hr.mono hk) hgd J.env0 (b s1 us J.kIn ?_) (r.append d) q) fun o s' hq => ?_)⟩
  · rw [← (r.append d).length]
    exact F.len _ _ _ _ q
  · cases o with
    | error z => exact hx σ pins H1 s1 z s' J hq
    | ok fl =>
      cases fl with
      | ret u => exact J.after hq
      | next => exact hq.elim
      | brk => exact hq.elim
      | cont => exact hq.elim
/-! ### repr -/
/-- repr of data: lists, tuples, texts, whole numbers, bools, None, at any depth -/
def rReprD (K : PySem.W.Frag) : RC := fun xs H Q => ∃ (a : Addr) (d : PyData), xs = [.ref a] ∧ Dp K H (.ref a) d ∧ d.showable = true ∧ d.depth ≤ 50 ∧ d.shown.length ≤ sizeLine ∧ Q (.str d.shown) H
mutual
theorem Dp.noDict {K : PySem.W.Frag} {H : Hp} : ∀ {v : V} {d : PyData}, Dp K H v d → d.hasDict = false
  | _, _, .non => rfl
  | _, _, .bl _ => rfl
  | _, _, .int _ => rfl
  | _, _, .str _ => rfl
  | _, _, .lst _ h => by
    rw [PyData.hasDict]
    exact DpAll.noDict h
  | _, _, .tup _ h => by
    rw [PyData.hasDict]
    exact DpAll.noDict h
theorem DpAll.noDict {K : PySem.W.Frag} {H : Hp} : ∀ {vs : List V} {ds : List PyData}, DpAll K H vs ds → PyData.hasDictAll ds = false
  | _, _, .nil => rfl
  | _, _, .cons h r => by
    rw [PyData.hasDictAll, Dp.noDict h, DpAll.noDict r]
    rfl
end
theorem cr_reprD {X : Cx} (hgd : X.A.guards = some []) (hu : X.A.units + 100 < cLine) : CallR X (.builtin "repr") (rReprD X.K) := by
  intro pins s σ H xs us Q I r h
  obtain ⟨a, d, rfl, hd, sh, dp, ln, q⟩ := h
  obtain rfl := Vals.ref1 r
  obtain ⟨as, rd⟩ := Dp.reads I d (.ref a) (.ref a) hd rfl
  have nd := Dp.noDict hd
  exact PySem.repr_of_reads' rd sh (fun e => by rw [nd] at e; cases e) hgd (by omega) (fun b o e => e) (fun h' u tk k => ⟨.str d.shown, H, I.kept (t' := tk) k, ⟨u, rfl⟩, q⟩) ln
/-! ### the law, called where no repr is under way -/
section
variable {P : Program} {w : World} {K : PySem.W.Frag} {mg mb : Str → Option Value} {CX : CXT} {k : Nat} {fa a : Addr} {fd : FuncData} {x : Str} {sp : Sp} {s₁ : Shared} {vs : List Value} {ns : List Int}
/-- what may be tracked at first: the script, locked, or nothing -/
def First (a : Addr) (vs : List Value) (ns : List Int) (H : Hp) : Prop := ∀ b, H b = none ∨ (b = a ∧ H b = some (.frz { cls := .type "list", data := .seq vs.toArray } (.lst (ns.map V.int))))
theorem First.only {H : Hp} (f : First a vs ns H) : Only H := fun b => by
  rcases f b with e | ⟨_, e⟩
  · exact .inl e
  · exact .inr ⟨_, _, e⟩
theorem law_callG (KX : K.In s₁.heap) (hns : s₁.heap.Ns mainGlobals mg) (hb : s₁.heap.Ns builtinsNs mb) (hbb : ∀ x : Str, x ≠ "__name__" → mb x = bootBuiltins x) (hlim : s₁.heap.NoLimit) (hg : s₁.gens = #[])
    (ha : s₁.heap.get? a = some { cls := .type "list", data := .seq vs.toArray }) (hi : IntsAre vs ns) (hl : ns.length ≤ sizeLine) (hr : Room k callerA)
    (F : ∀ base : Heap, K.In base → base.Ns mainGlobals mg → FnG P w K mg base CX k fa fd [x] sp) (hbind : ∀ (s : Shared) (u : Value), BindsTo s fd ⟨[u], []⟩ [(x, u)])
    (hsp : ∀ H : Hp, Only H → SqL K H a (ns.map V.int) → sp [.ref a] H (fun v _ => v = .bl true) fun _ _ _ => False)
    (hCX : ∀ H e s', CX [] H s₁ (fun _ _ _ => False) e s' → False) :
    codeAny (model P w) callerA (.call (.ref fa) ⟨[.ref a], []⟩) (fun r s' => r = .ok (.ret (.bool true)) ∧ OldK s₁.heap s'.heap ∧ s'.os = s₁.os ∧ AllBare s'.gens) s₁ := by
  have rv := vals_ints hi
  have okL : ∀ H : Hp, ObjOk P w H s₁.heap a (.lst (ns.map V.int)) := fun H => ⟨by rw [List.length_map]; exact hl, vs, _, rv, ha⟩
  -- the heap without the script has all that the module needs
  have main : ∀ H : Hp, First a vs ns H → SqL K H a (ns.map V.int) → (H a ≠ none → K.lookup a = none) →
      codeAny (model P w) callerA (.call (.ref fa) ⟨[.ref a], []⟩) (fun r s' => r = .ok (.ret (.bool true)) ∧ OldK s₁.heap s'.heap ∧ s'.os = s₁.os ∧ AllBare s'.gens) s₁ := fun H hF hS hK => by
    have hok : HOk P w H s₁.heap := fun b u e => by
      rcases hF b with z | ⟨z, z2⟩
      · rw [z] at e
        cases e
      · rw [z2] at e
        cases e
        subst z
        exact ⟨ha, okL H⟩
    have inB : ∀ b o, s₁.heap.get? b = some o → (b = a → H a = none) → (hidT s₁.heap H).get? b = some o := fun b o e n => hidT_get e (by
      rcases hF b with z | ⟨z, _⟩
      · exact z
      · rw [z]
        exact n z)
    have nsB : ∀ {b : Addr} {m : Str → Option Value}, s₁.heap.Ns b m → (hidT s₁.heap H).Ns b m := fun {b m} ⟨o, es, ep, e, d, r⟩ => ⟨o, es, ep, inB b o e (fun z => by
      rw [z, ha] at e
      cases e
      have d' : Data.seq vs.toArray _ = Data.dict es ep := d
      cases d'), d, r⟩
    have kB : K.In (hidT s₁.heap H) := fun b o e => inB b o (KX b o e) fun z => by
      cases q : H a with
      | none => rfl
      | some u =>
        rw [z, hK (by rw [q]; simp)] at e
        cases e
    obtain ⟨mc, l1, l2⟩ := hlim
    have e0 : Env0 P w K mg (hidT s₁.heap H) callerA [] s₁ H := { frames := rfl, mod := ⟨kB, nsB hns, ⟨mb, nsB hb, hbb⟩, mc, nsB l1, l2⟩, bs := fun b o e => of_hidT e, bsz := Nat.le_of_eq (hidT_size _ _), funs := trivial, frf := fun b hb => absurd (show b ∈ ([] : List Addr) from hb) (by simp), hok := hok, bare := .of_eq hg }
    refine codeAny_mono ((F _ kB (nsB hns)).run callerA [] s₁ H ⟨[.ref a], []⟩ [.ref a] [.ref a] _ _ hr rfl e0 (hbind s₁ (.ref a)) (.cons rfl .nil) (hsp H hF.only hS)) fun r s' h => ?_
    cases r with
    | error e => exact (hCX H e s' h).elim
    | ok fl =>
      cases fl with
      | ret u =>
        obtain ⟨v, H', os, bare, un, hok', r', rfl⟩ := h
        obtain rfl : u = Value.bool true := r'
        refine ⟨rfl, OldK.of_keep fun b o e => ?_, os, bare⟩
        rcases hF b with z | ⟨z, z2⟩
        · exact un.keep b o e z (by intro y; exact absurd (show b ∈ ([] : List Addr) from y) (by simp)) (by simp)
        · have e3 := (hok' b _ (un.frzs b _ _ z2)).1
          rw [z, ha] at e
          cases e
          rw [z] at e3 ⊢
          exact e3
      | next => exact h.elim
      | brk => exact h.elim
      | cont => exact h.elim
  cases hk : K.lookup a with
  | some o =>
    have e := KX a o hk
    rw [ha] at e
    cases e
    exact main (fun _ => none) (fun _ => .inl rfl) (.inr ⟨_, vs.toArray, _, hk, rfl, rfl, rfl, by rw [List.size_toArray, hi.length]; exact hl, by simpa using rv⟩) fun z => absurd rfl z
  | none =>
    refine main (fun b => if b = a then some (.frz { cls := .type "list", data := .seq vs.toArray } (.lst (ns.map V.int))) else none) (fun b => ?_) (.inl (.inr ⟨_, if_pos rfl⟩)) fun _ => hk
    by_cases c : b = a
    · exact .inr ⟨c, if_pos c⟩
    · exact .inl (if_neg c)
end
theorem walk_ofG {l : PySem.W.OpenLaw} {n k : Nat} {q : Program} {loose : List Str} {XP : (Str → Option Value) → Heap → Prop} {YP : World → Heap → Prop} {d : DefRec} {CX : CXT} {x : Str}
    (hn : l.most = some n) (hn2 : n ≤ sizeLine) (hdf : d.params.defaults = []) (hr : Room k callerA)
    (F : ∀ (w : World) (mg : Str → Option Value) (fa : Addr) (h : Heap), YP w h → h.Ns mainGlobals mg → mg d.name = some (.ref fa) →
      ∃ (K : PySem.W.Frag) (fd : FuncData) (sp : Sp), K.In h ∧ (∀ (s : Shared) (u : Value), BindsTo s fd ⟨[u], []⟩ [(x, u)]) ∧
        (∀ (H : Hp) (a : Addr) (ns : List Int), ns.length ≤ n → Only H → SqL K H a (ns.map V.int) → sp [.ref a] H (fun v _ => v = .bl true) fun _ _ _ => False) ∧
        ∀ base : Heap, K.In base → base.Ns mainGlobals mg → FnG l.prog w K mg base CX k fa fd [x] sp)
    (hCX : ∀ (H : Hp) (s : Shared) (e : Value) (s' : Shared), CX [] H s (fun _ _ _ => False) e s' → False) :
    PySem.W.WalkO q loose XP YP l.row.toRowW d [] (fun f vs => PySem.call f vs) :=
  Att.attach_call hn hdf fun w s₀ s₁ mg mb fa o pm cd doc a vs ns G Y ho hd hcd hmg hobj hints hlen hg =>
    let ⟨K, fd, sp, KX, hb, hsp, hF⟩ := F w mg fa _ Y G.T.g hmg
    law_callG KX G.T.g G.T.b G.T.builtins G.T.nolimit hg hobj hints (Nat.le_trans hlen hn2) hr hF hb (fun H hO hS => hsp H a ns hlen hO hS) fun H e s' => hCX H s₁ e s'
end U

set_option Elab.async false
set_option linter.all false
set_option maxRecDepth 100000
set_option maxHeartbeats 4000000
/-! repr of lists that hold dicts of rows. -/
namespace G
open PySem PySem.Spec PyProof.Rows L2 U
def rowsD (R : Rw) : PyData := .dict (R.map fun r => (.int r.1, .tuple (r.2.map PyData.int)))
mutual
inductive Dq (K : PySem.W.Frag) (H : Hp) : V → PyData → Prop
  | dp {v : V} {d : PyData} : Dp K H v d → Dq K H v d
  | dct {a : Addr} {kvs : List (Key × V)} {R : Rw} : H a = some (.dK kvs) → Paired (rowEnt K H) kvs R → Dq K H (.ref a) (rowsD R)
  | lst {a : Addr} {xs : List V} {ds : List PyData} : SqL K H a xs → DqAll K H xs ds → Dq K H (.ref a) (.list ds)
inductive DqAll (K : PySem.W.Frag) (H : Hp) : List V → List PyData → Prop
  | nil : DqAll K H [] []
  | cons {v : V} {vs : List V} {d : PyData} {ds : List PyData} : Dq K H v d → DqAll K H vs ds → DqAll K H (v :: vs) (d :: ds)
end
section
variable {X : Cx} {pins : List (Addr × Obj)} {σ : L2.St} {H : Hp} {s : Shared}
theorem reads_ints {h : Heap} : ∀ {xs : List Int} {us : List Value} {as : List Addr}, ReadsAll h us (xs.map PyData.int) as → as = []
  | [], _, _, r => by
    cases r
    rfl
  | x :: xs, _, _, r => by
    cases r with
    | cons r1 r2 =>
      have r1 : Reads h _ (.int x) _ := r1
      cases r1
      rw [reads_ints r2]
      rfl
theorem reads_rows (I : Inv X pins σ H s) {kvs : List (Key × V)} {R : Rw} (p : Paired (rowEnt X.K H) kvs R) : ∀ {es : List DictEntry} {vs : List (Key × Value)}, Pairs (mixKind X.prog X.w) es vs → KV kvs vs →
    ReadsAll s.heap (es.map (·.key)) (R.map fun r => PyData.int r.1) [] ∧ ReadsAll s.heap (es.map (·.val)) (R.map fun r => PyData.tuple (r.2.map PyData.int)) [] := by
  induction p with
  | nil =>
    intro es vs ps kv
    cases kv
    cases ps
    exact ⟨.nil, .nil⟩
  | @cons k r kvs R hd _ ih =>
    intro es vs ps kv
    cases kv with
    | cons k1 k2 =>
      cases ps with
      | cons p1 p2 p3 =>
        obtain ⟨h1, h2⟩ := ih p3 k2
        obtain ⟨e1, t, e2, ht⟩ := hd
        obtain ⟨ek, ev⟩ := k1
        rw [e2] at ev
        rw [← ek, e1] at p1
        have p1 : keyIs (Sum.inl r.1) _ = true := p1
        refine ⟨?_, ?_⟩
        · rcases keyIs_shape p1 with ⟨i, u, e, e'⟩ | ⟨x, u, e, _⟩
          · cases e
            have := ReadsAll.cons (Reads.int (h := s.heap) r.1 u) h1
            rw [List.map_cons, List.map_cons, e']
            exact this
          · cases e
        · obtain ⟨its, rv, ⟨o, ho, hc, n, hdt⟩, _⟩ := I.tuple ht
          obtain ⟨as, hr⟩ := Dp.readsAll I (r.2.map PyData.int) _ its (dpAll_ints _) rv
          obtain rfl := reads_ints hr
          have rt := Reads.tuple ho hc hdt hr
          have ev : _ = Value.ref t := ev
          rw [List.map_cons, List.map_cons, p2, ev]
          exact ReadsAll.cons rt h2
theorem reads_dct (I : Inv X pins σ H s) {a : Addr} {kvs : List (Key × V)} {R : Rw} (e : H a = some (.dK kvs)) (p : Paired (rowEnt X.K H) kvs R) : Reads s.heap (.ref a) (rowsD R) [a] ∧ a ≠ sysModules := by
  obtain ⟨_, ns, vs, kv, o, es, ep, ho, hx, hd, _, ps, _⟩ := dk_of I.hok e
  obtain ⟨h1, h2⟩ := reads_rows I p ps kv
  refine ⟨?_, beq_eq_false_iff_ne.mp ns⟩
  have e1 : (R.map fun r => (PyData.int r.1, PyData.tuple (r.2.map PyData.int))).map (·.1) = R.map fun r => PyData.int r.1 := by
    rw [List.map_map]
    rfl
  have e2 : (R.map fun r => (PyData.int r.1, PyData.tuple (r.2.map PyData.int))).map (·.2) = R.map fun r => PyData.tuple (r.2.map PyData.int) := by
    rw [List.map_map]
    rfl
  exact Reads.dict (as := []) (bs := []) ho hx.1 hd (by rw [e1]; exact h1) (by rw [e2]; exact h2)
mutual
theorem Dq.reads (I : Inv X pins σ H s) : ∀ {v : V} {d : PyData} {u : Value}, Dq X.K H v d → RelV v u → ∃ as, Reads s.heap u d as
  | _, _, _, .dp h, r => Dp.reads I _ _ _ h r
  | _, _, _, .dct e p, r => by
    cases r
    exact ⟨_, (reads_dct I e p).1⟩
  | _, _, _, .lst h ha, r => by
    cases r
    obtain ⟨its, rv, ⟨o, n, ho, hc, _, hd⟩, _⟩ := I.list h
    obtain ⟨as, hr⟩ := DqAll.reads I ha rv
    exact ⟨_, Reads.list ho hc hd hr⟩
theorem DqAll.reads (I : Inv X pins σ H s) : ∀ {vs : List V} {ds : List PyData} {us : List Value}, DqAll X.K H vs ds → Vals vs us → ∃ as, ReadsAll s.heap us ds as
  | _, _, _, .nil, r => by
    cases r
    exact ⟨_, ReadsAll.nil⟩
  | _, _, _, .cons h ha, r => by
    cases r with
    | cons r1 r2 =>
      obtain ⟨as, q1⟩ := Dq.reads I h r1
      obtain ⟨bs, q2⟩ := DqAll.reads I ha r2
      exact ⟨_, ReadsAll.cons q1 q2⟩
end
mutual
theorem Dq.rk (I : Inv X pins σ H s) : ∀ {v : V} {d : PyData} {u : Value}, Dq X.K H v d → RelV v u → d.showable = true → d.shown.length ≤ sizeLine → ∃ bs, ReadAtMost s.heap d.depth bs ∧ ReprK X.prog X.w bs s.heap d.depth u d.shown
  | _, _, _, .dp h, r, hs, hz => by
    obtain ⟨as, rd⟩ := Dp.reads I _ _ _ h r
    exact ReprK.of_reads rd hs (fun e => by rw [Dp.noDict h] at e; cases e) hz
  | _, _, _, .dct e p, r, hs, hz => by
    cases r
    obtain ⟨rd, ns⟩ := reads_dct I e p
    exact ReprK.of_reads rd hs (fun _ z => ns (List.mem_singleton.mp z).symm) hz
  | _, _, _, .lst (a := a) (xs := xs) (ds := ds) h ha, r, hs, hz => by
    cases r
    obtain ⟨its, rv, ⟨o, n, ho, hc, _, hd⟩, _⟩ := I.list h
    obtain ⟨as, hr⟩ := DqAll.reads I ha rv
    have rd := Reads.list ho hc hd hr
    have hz' : (listText (PyData.shownAll ds)).length ≤ sizeLine := by simpa only [PyData.shown] using hz
    obtain ⟨bs, hb, hk⟩ := DqAll.rk I ha rv (by simpa [PyData.showable] using hs) fun t ht => Nat.le_trans (listText_mem_le ht) hz'
    have hna : a ∉ bs := not_mem_of_deeper rd (by simp only [PyData.depth]; omega) hb
    refine ⟨a :: bs, ReadAtMost.cons rd (by simp only [PyData.depth]; omega) hb, ?_⟩
    simp only [PyData.depth, PyData.shown]
    cases its with
    | nil =>
      cases hr
      rw [PyData.shownAll, listText_nil]
      exact ReprK.listEmpty ho hc hd
    | cons x l =>
      have := ReprK.list ho hc hd hna (by simpa using hk.length_eq) (fun i y e => hk.item i y (by simpa using e))
      exact this
theorem DqAll.rk (I : Inv X pins σ H s) : ∀ {vs : List V} {ds : List PyData} {us : List Value}, DqAll X.K H vs ds → Vals vs us → PyData.showableAll ds = true → (∀ t ∈ PyData.shownAll ds, t.length ≤ sizeLine) → ∃ bs, ReadAtMost s.heap (PyData.depthAll ds) bs ∧ ReprAllK X.prog X.w bs s.heap (PyData.depthAll ds) us (PyData.shownAll ds)
  | _, _, _, .nil, r, _, _ => by
    cases r
    exact ⟨[], fun b hb => (List.not_mem_nil hb).elim, .nil⟩
  | _, _, _, .cons (d := d) (ds := ds) h ha, r, hs, hz => by
    cases r with
    | cons r1 r2 =>
      have hs' : d.showable = true ∧ PyData.showableAll ds = true := by simpa [PyData.showableAll] using hs
      obtain ⟨b1, hb1, k1⟩ := Dq.rk I h r1 hs'.1 (hz _ (by simp only [PyData.shownAll]; exact List.mem_cons_self ..))
      obtain ⟨b2, hb2, k2⟩ := DqAll.rk I ha r2 hs'.2 fun t ht => hz t (by simp only [PyData.shownAll]; exact List.mem_cons_of_mem _ ht)
      have m1 : d.depth ≤ PyData.depthAll (d :: ds) := by rw [PyData.depthAll]; exact Nat.le_max_left _ _
      have m2 : PyData.depthAll ds ≤ PyData.depthAll (d :: ds) := by rw [PyData.depthAll]; exact Nat.le_max_right _ _
      refine ⟨b1 ++ b2, (hb1.mono m1).append (hb2.mono m2), ?_⟩
      have a1 := ReprAllK.more_le (fun b hb => List.mem_append_left b2 hb) m1 (ReprAllK.cons k1 .nil)
      have a2 := ReprAllK.more_le (fun b hb => List.mem_append_right b1 hb) m2 k2
      cases a1 with
      | cons a1 _ => exact .cons a1 a2
end
end
/-- repr of a list that holds rows -/
def _root_.U.rReprQ (K : PySem.W.Frag) : RC := fun xs H Q => ∃ (a : Addr) (vs : List V) (ds : List PyData), xs = [.ref a] ∧ SqL K H a vs ∧ vs ≠ [] ∧ DqAll K H vs ds ∧ (PyData.list ds).showable = true ∧ (PyData.list ds).depth ≤ 50 ∧ (PyData.list ds).shown.length ≤ sizeLine ∧ Q (.str (PyData.list ds).shown) H
theorem _root_.U.cr_reprQ {X : Cx} (hgd : X.A.guards = some []) (hu : X.A.units + 100 < cLine) : CallR X (.builtin "repr") (U.rReprQ X.K) := by
  intro pins s σ H xs us Q I r h
  obtain ⟨a, vs, ds, rfl, hl, ne, ha, sh, dp, ln, q⟩ := h
  obtain rfl := Vals.ref1 r
  obtain ⟨its, rv, ⟨o, n, ho, hc, _, hd⟩, _⟩ := I.list hl
  obtain ⟨as, hr⟩ := DqAll.reads I ha rv
  have rd := Reads.list ho hc hd hr
  have hz' : (listText (PyData.shownAll ds)).length ≤ sizeLine := by simpa only [PyData.shown] using ln
  obtain ⟨bs, hb, hk⟩ := DqAll.rk I ha rv (by simpa [PyData.showable] using sh) fun t ht => Nat.le_trans (listText_mem_le ht) hz'
  have hna : a ∉ bs := not_mem_of_deeper rd (by simp only [PyData.depth]; omega) hb
  simp only [PyData.depth] at dp
  simp only [PyData.shown] at q
  cases its with
  | nil =>
    cases rv
    exact absurd rfl ne
  | cons x l =>
    refine call_repr_slot (by omega) ⟨o, ho, hc⟩ F.slot_list_repr.toG ?_
    refine call_list_reprK ho hc hd hna (by simpa using hk.length_eq) (fun i y e => hk.item i y (by simpa using e)) hgd (fun b _ => Clear.nil b) (by show X.A.units + 1 + _ < cLine; omega) (fun b o e => e) (fun h' u tk k => ⟨_, _, rfl, .str _, H, I.kept (t' := tk) k, ⟨u, rfl⟩, q⟩) hz'
end G

set_option Elab.async false
set_option linter.all false
set_option maxRecDepth 100000
set_option maxHeartbeats 4000000
/-! Names for readings: dict(d), list.insert. -/
namespace U
open PySem PySem.Spec PyProof.Rows L2
abbrev rDictD : RC := fun xs H Q => ∃ (a : Addr) (kvs : List (Key × V)), xs = [.ref a] ∧ Rd H a (.dK kvs) ∧ ∀ p, H p = none → Q (.ref p) (upd H p (.dK kvs))
abbrev rInsert : RM := fun x vs H Q => ∃ (l : Addr) (xs : List V) (i : Int) (y : V), x = .ref l ∧ vs = [.int i, y] ∧ H l = some (.lst xs) ∧ xs.length < sizeLine ∧ 0 ≤ i ∧ i < 2 ^ 63 ∧
    Q .non (upd H l (.lst (xs.take i.toNat ++ [y] ++ xs.drop i.toNat)))
theorem hu64 {k : Nat} {A : Around} (hr : Room k A) : A.units + 64 < cLine := by
  have := hr.un
  omega
theorem hu1 {k : Nat} {A : Around} (hr : Room k A) : A.units + 100 < cLine := hu100 hr
end U

set_option Elab.async false
set_option linter.all false
set_option maxRecDepth 100000
set_option maxHeartbeats 4000000
/-! Dicts shown: repr(sorted(d.items())). -/
namespace G
open PySem PySem.Spec PyProof.Rows L2 U
/-! ### data that can be shown -/
structure Fd (m b : Nat) (d : PyData) : Prop where
  sh : d.showable = true
  lv : d.leavesShort 80 = true
  dp : d.depth ≤ m
  bk : d.bulk ≤ b
theorem fd_int {i : Int} (h1 : -(10 ^ 70) < i) (h2 : i < 10 ^ 70) : Fd 0 0 (.int i) := by
  have hn : i.natAbs < 10 ^ 70 := by omega
  refine ⟨?_, ?_, Nat.le_refl _, Nat.le_refl _⟩
  · unfold PyData.showable
    refine decide_eq_true ?_
    by_cases z : i.natAbs = 0
    · rw [z]
      decide
    · refine (Nat.log2_lt z).mpr (Nat.lt_of_lt_of_le hn ?_)
      have e1 : (10 : Nat) ^ 70 ≤ 2 ^ 250 := by decide
      have e2 : (2 : Nat) ^ 250 ≤ 2 ^ 1920 := Nat.pow_le_pow_right (by decide) (by decide)
      exact Nat.le_trans e1 e2
  · unfold PyData.leavesShort
    refine decide_eq_true ?_
    have e := int_text_length_le10 (k := 70) (by decide) hn
    have e2 : (PyData.shown (.int i)).length = (toString i).length := by
      show (Str.ofString (toString i)).length = _
      exact PySem.ofString_length _
    rw [e2]
    omega
theorem all_parts {m b : Nat} : ∀ {ds : List PyData}, (∀ d ∈ ds, Fd m b d) → PyData.showableAll ds = true ∧ PyData.leavesShortAll 80 ds = true ∧ PyData.depthAll ds ≤ m ∧ PyData.bulkAll ds ≤ ds.length * (b + 1)
  | [], _ => ⟨rfl, rfl, by rw [PyData.depthAll]; exact Nat.zero_le _, Nat.zero_le _⟩
  | d :: ds, h => by
    obtain ⟨h1, h2, h3, h4⟩ := all_parts (ds := ds) fun d hd => h d (List.mem_cons_of_mem _ hd)
    have f := h d (List.mem_cons_self ..)
    refine ⟨?_, ?_, ?_, ?_⟩
    · rw [PyData.showableAll, f.sh, h1]
      rfl
    · rw [PyData.leavesShortAll, f.lv, h2]
      rfl
    · rw [PyData.depthAll]
      exact Nat.max_le.mpr ⟨f.dp, h3⟩
    · rw [PyData.bulkAll, List.length_cons, Nat.succ_mul]
      have := f.bk
      omega
theorem fd_list {m b : Nat} {ds : List PyData} (h : ∀ d ∈ ds, Fd m b d) : Fd (m + 1) (ds.length * (b + 1)) (.list ds) := by
  obtain ⟨h1, h2, h3, h4⟩ := all_parts h
  refine ⟨?_, ?_, ?_, ?_⟩
  · rw [PyData.showable]; exact h1
  · rw [PyData.leavesShort]; exact h2
  · rw [PyData.depth]; omega
  · rw [PyData.bulk]; exact h4
theorem fd_tuple {m b : Nat} {ds : List PyData} (h : ∀ d ∈ ds, Fd m b d) : Fd (m + 1) (ds.length * (b + 1)) (.tuple ds) := by
  obtain ⟨h1, h2, h3, h4⟩ := all_parts h
  refine ⟨?_, ?_, ?_, ?_⟩
  · rw [PyData.showable]; exact h1
  · rw [PyData.leavesShort]; exact h2
  · rw [PyData.depth]; omega
  · rw [PyData.bulk]; exact h4
theorem Fd.mono {m n b c : Nat} {d : PyData} (h : Fd m b d) (h1 : m ≤ n) (h2 : b ≤ c) : Fd n c d := ⟨h.sh, h.lv, Nat.le_trans h.dp h1, Nat.le_trans h.bk h2⟩
/-! ### a dict by its pairs -/
def Shw (K : PySem.W.Frag) (H : Hp) (a : Addr) (L : List (Int × PyData)) : Prop := ∃ T : List (Int × Addr × PyData), Rd H a (.dK (T.map fun t => (Sum.inl t.1, V.ref t.2.1))) ∧ L = T.map (fun t => (t.1, t.2.2)) ∧ ∀ t ∈ T, Dp K H (.ref t.2.1) t.2.2
structure Nice (L : List (Int × PyData)) : Prop where
  nd : (L.map (·.1)).Nodup
  ok : ∀ p ∈ L, (-(10 ^ 70) < p.1 ∧ p.1 < 10 ^ 70) ∧ Fd 3 200 p.2
  few : L.length ≤ 400
def pairD (p : Int × PyData) : PyData := .tuple [.int p.1, p.2]
def txt (M : List (Int × PyData)) : Str := (PyData.list (M.map pairD)).shown
def Srt (M : List (Int × PyData)) : Prop := M.Pairwise fun e f => e.1 ≤ f.1
theorem Nice.perm {L M : List (Int × PyData)} (n : Nice L) (p : M.Perm L) : Nice M := ⟨(p.map _).nodup_iff.mpr n.nd, fun x hx => n.ok x (p.mem_iff.mp hx), by rw [p.length_eq]; exact n.few⟩
theorem nice_fd {M : List (Int × PyData)} (n : Nice M) : Fd 5 161200 (.list (M.map pairD)) := by
  have h : ∀ d ∈ M.map pairD, Fd 4 402 d := fun d hd => by
    obtain ⟨p, hp, rfl⟩ := List.mem_map.mp hd
    have o := n.ok p hp
    refine (fd_tuple (m := 3) (b := 200) fun d hd => ?_).mono (Nat.le_refl _) (by show 2 * (200 + 1) ≤ 402; decide)
    rcases List.mem_cons.mp hd with rfl | hd
    · exact (fd_int o.1.1 o.1.2).mono (by decide) (by decide)
    · rw [List.mem_singleton.mp hd]
      exact o.2
  refine (fd_list h).mono (Nat.le_refl _) ?_
  rw [List.length_map]
  have := n.few
  omega
/-- one order alone -/
theorem srt_one : ∀ {M N : List (Int × PyData)}, M.Perm N → Srt M → Srt N → (N.map (·.1)).Nodup → M = N
  | [], N, p, _, _, _ => (List.nil_perm.mp p).symm
  | e :: M, [], p, _, _, _ => by
    have := p.length_eq
    cases this
  | e :: M, f :: N, p, sM, sN, nd => by
    have sM' := List.pairwise_cons.mp sM
    have sN' := List.pairwise_cons.mp sN
    have ef : e = f := by
      have he : e ∈ f :: N := p.mem_iff.mp (List.mem_cons_self ..)
      have hf : f ∈ e :: M := p.mem_iff.mpr (List.mem_cons_self ..)
      rcases List.mem_cons.mp he with h | h
      · exact h
      · rcases List.mem_cons.mp hf with h2 | h2
        · exact h2.symm
        · have a := sN'.1 e h
          have b := sM'.1 f h2
          have : e.1 = f.1 := by omega
          rw [List.map_cons, List.nodup_cons] at nd
          exact absurd (List.mem_map.mpr ⟨e, h, this⟩) nd.1
    subst ef
    rw [List.map_cons, List.nodup_cons] at nd
    rw [srt_one ((List.perm_cons e).mp p) sM'.2 sN'.2 nd.2]
/-! ### rows and sums, shown -/
def rI (r : Int × List Int) : Int × PyData := (r.1, .tuple (r.2.map PyData.int))
def gI (g : Int × (List Int × Int)) : Int × PyData := (g.1, .tuple [.list (g.2.1.map PyData.int), .int g.2.2])
theorem rows_shw {K : PySem.W.Frag} {H : Hp} {a : Addr} {R : Rw} (h : RowsAt K H a R) : Shw K H a (R.map rI) := by
  obtain ⟨kvs, e, p⟩ := h.ex
  have go : ∀ {kvs : List (Key × V)} {R : Rw}, Paired (rowEnt K H) kvs R → ∃ T : List (Int × Addr × PyData), kvs = T.map (fun t => (Sum.inl t.1, V.ref t.2.1)) ∧ R.map rI = T.map (fun t => (t.1, t.2.2)) ∧ ∀ t ∈ T, Dp K H (.ref t.2.1) t.2.2 := fun {kvs R} p => by
    induction p with
    | nil => exact ⟨[], rfl, rfl, fun _ h => (List.not_mem_nil h).elim⟩
    | @cons kv r kvs R hd _ ih =>
      obtain ⟨T, h1, h2, h3⟩ := ih
      obtain ⟨e1, t, e2, ht⟩ := hd
      obtain ⟨k, v⟩ := kv
      have e1 : k = Sum.inl r.1 := e1
      have e2 : v = .ref t := e2
      subst e1
      subst e2
      refine ⟨(r.1, t, .tuple (r.2.map PyData.int)) :: T, by rw [List.map_cons, ← h1], by rw [List.map_cons, List.map_cons, h2]; rfl, fun t' ht' => ?_⟩
      rcases List.mem_cons.mp ht' with rfl | ht'
      · exact .tup ht (dpAll_ints _)
      · exact h3 t' ht'
  obtain ⟨T, h1, h2, h3⟩ := go p
  exact ⟨T, .inl (by rw [← h1]; exact e), h2, h3⟩
theorem sums_shw {K : PySem.W.Frag} {H : Hp} {a : Addr} {G : Gs} (h : SumsAt K H a G) : Shw K H a (G.map gI) := by
  obtain ⟨kvs, e, p⟩ := h
  have go : ∀ {kvs : List (Key × V)} {G : Gs}, Paired (sumEnt K H) kvs G → ∃ T : List (Int × Addr × PyData), kvs = T.map (fun t => (Sum.inl t.1, V.ref t.2.1)) ∧ G.map gI = T.map (fun t => (t.1, t.2.2)) ∧ ∀ t ∈ T, Dp K H (.ref t.2.1) t.2.2 := fun {kvs G} p => by
    induction p with
    | nil => exact ⟨[], rfl, rfl, fun _ h => (List.not_mem_nil h).elim⟩
    | @cons kv g kvs G hd _ ih =>
      obtain ⟨T, h1, h2, h3⟩ := ih
      obtain ⟨e1, t, l, e2, ht, hl⟩ := hd
      obtain ⟨k, v⟩ := kv
      have e1 : k = Sum.inl g.1 := e1
      have e2 : v = .ref t := e2
      subst e1
      subst e2
      refine ⟨(g.1, t, .tuple [.list (g.2.1.map PyData.int), .int g.2.2]) :: T, by rw [List.map_cons, ← h1], by rw [List.map_cons, List.map_cons, h2]; rfl, fun t' ht' => ?_⟩
      rcases List.mem_cons.mp ht' with rfl | ht'
      · exact .tup ht (.cons (.lst (SqL.of hl) (dpAll_ints _)) (.cons (.int _) .nil))
      · exact h3 t' ht'
  obtain ⟨T, h1, h2, h3⟩ := go p
  exact ⟨T, .inl (by rw [← h1]; exact e), h2, h3⟩
def sp__law_shown (K : PySem.W.Frag) : Sp := fun vs H Q _ => match vs with
  | [.ref a] => ∃ L, Shw K H a L ∧ Nice L ∧ ∀ M H', M.Perm L → Srt M → Same H H' → Q (.str (txt M)) H'
  | _ => False
/-- what was told: rows, or sums whose lists are new since H0 -/
def Told (K : PySem.W.Frag) (H0 H : Hp) (a : Addr) (L : List (Int × PyData)) : Prop := (∃ R n, RowsAt K H a R ∧ Wd R n ∧ 1 ≤ n ∧ L = R.map rI) ∨ (∃ G, SumsZ (fun l => H0 l = none) K H a G ∧ L = G.map gI)
def sp__law_again (K : PySem.W.Frag) : Sp := fun vs H Q _ => match vs with
  | [.ref a, .ref b] => ∃ H0 L M, Same H0 H ∧ H0 a = none ∧ Told K H0 H a L ∧ Shw K H b M ∧ L.Perm M ∧ Nice M ∧ ∀ H', Same H0 H' → Q (.bl true) H'
  | _ => False
end G

set_option Elab.async false
set_option linter.all false
set_option maxRecDepth 100000
set_option maxHeartbeats 4000000
/-! Promises of law k22. -/
namespace G22
open PySem PySem.Spec PyProof.Rows L2 U G
variable {K : PySem.W.Frag} {H H' : Hp}
/-- a drawn dict of rows, or an empty one -/
structure Rx (K : PySem.W.Frag) (H : Hp) (v : V) (R : Rw) : Prop where
  ex : ∃ a, v = .ref a ∧ RowsAt K H a R
  sml : Sml R
  few : ∀ r ∈ R, r.1 ≤ 12
  wd : ∃ n, n ≤ 13 ∧ Wd R n
theorem Rx.same (s : Same H H') {v : V} {R : Rw} (h : Rx K H v R) : Rx K H' v R := by
  obtain ⟨a, e, r⟩ := h.ex
  exact ⟨⟨a, e, r.keep s⟩, h.sml, h.few, h.wd⟩
def SumW (c v : V) (Rs : List Rw) : Bool → Prop
  | true => 1 ≤ Rs.length ∧ Rs.length ≤ 8 ∧ ∀ R ∈ Rs, ∀ n, Wd R n → OkRow c v R n
  | false => ¬ (1 ≤ Rs.length ∧ Rs.length ≤ 8) ∨ ∃ R ∈ Rs, ∀ n, Wd R n → ¬ OkRow c v R n
/-- whether a way is told or refused -/
inductive Wrd (K : PySem.W.Frag) (H : Hp) : Str → List V → Bool → Prop
  | copied {a : Addr} {R : Rw} {b : Bool} : RowsAt K H a R → (b = true → R ≠ []) → (b = false → R = []) → Wrd K H "copied" [.ref a] b
  | cut {a c : Addr} {R : Rw} {n : Nat} {xs : List V} {b : Bool} : RowsAt K H a R → Wd R n → SqL K H c xs → (∀ v ∈ xs, Tk K H v) → (b = true → OkCut R n xs) → (b = false → ¬ OkCut R n xs) → Wrd K H "cut" [.ref a, .ref c] b
  | joined {a b : Addr} {A B : Rw} {n m : Nat} {x : Bool} : RowsAt K H a A → RowsAt K H b B → Wd A n → Wd B m → 1 ≤ n → (x = true → OkJoin A B n m) → (x = false → ¬ OkJoin A B n m) → Wrd K H "joined" [.ref a, .ref b] x
  | summed {l : Addr} {c v : V} {xs : List V} {Rs : List Rw} {b : Bool} : SqL K H l xs → Paired (Rx K H) xs Rs → Tk K H c → Tk K H v → SumW c v Rs b → Wrd K H "summed" [.ref l, c, v] b
theorem Wrd.same (s : Same H H') {z : Str} {ps : List V} {b : Bool} (h : Wrd K H z ps b) : Wrd K H' z ps b := by
  cases h with
  | copied r h1 h2 => exact .copied (r.keep s) h1 h2
  | cut r w q t h1 h2 => exact .cut (r.keep s) w (s.seq q) (fun v hv => (t v hv).same s) h1 h2
  | joined r r2 w w2 n h1 h2 => exact .joined (r.keep s) (r2.keep s) w w2 n h1 h2
  | summed q p t u h => exact .summed (s.seq q) (L2.Paired.mapP p fun _ _ z => z.same s) (t.same s) (u.same s) h
mutual
theorem Dq.same (s : Same H H') : ∀ {v : V} {d : PyData}, Dq K H v d → Dq K H' v d
  | _, _, .dp h => .dp (Dp.same s h)
  | _, _, .dct e p => .dct (s _ _ e) (L2.Paired.mapP p (rowEnt_same s))
  | _, _, .lst h ha => .lst (s.seq h) (DqAll.same s ha)
theorem DqAll.same (s : Same H H') : ∀ {vs : List V} {ds : List PyData}, DqAll K H vs ds → DqAll K H' vs ds
  | _, _, .nil => .nil
  | _, _, .cons h ha => .cons (Dq.same s h) (DqAll.same s ha)
end
/-- something that can be shown -/
def Sw (m b : Nat) (K : PySem.W.Frag) (H : Hp) (v : V) : Prop := ∃ d, Dq K H v d ∧ Fd m b d
theorem Sw.same {m b : Nat} {v : V} (s : Same H H') (h : Sw m b K H v) : Sw m b K H' v := by
  obtain ⟨d, h, f⟩ := h
  exact ⟨d, Dq.same s h, f⟩
theorem Sw.mono {m n b c : Nat} {v : V} (h : Sw m b K H v) (h1 : m ≤ n) (h2 : b ≤ c) : Sw n c K H v := by
  obtain ⟨d, h, f⟩ := h
  exact ⟨d, h, f.mono h1 h2⟩
def wordOf : Bool → Str
  | true => "told"
  | false => "refused"
/-- one of the pairs that are gone through -/
structure It (K : PySem.W.Frag) (b : Bool) (v : V) (H : Hp) : Prop where
  ex : ∃ t z p ps, v = .ref t ∧ SqT K H t [.str z, .ref p] ∧ SqL K H p ps ∧ ps ≠ [] ∧ ps.length ≤ 3 ∧ Wrd K H z ps b ∧ ∀ x ∈ ps, Sw 8 40000 K H x
theorem It.same (s : Same H H') {b : Bool} {v : V} (h : It K b v H) : It K b v H' := by
  obtain ⟨t, z, p, ps, e, h1, h2, ne, l3, h3, h4⟩ := h.ex
  exact ⟨t, z, p, ps, e, Same.seqT s h1, s.seq h2, ne, l3, h3.same s, fun x hx => (h4 x hx).same s⟩
def sp__law_word (K : PySem.W.Frag) : Sp := fun vs H Q _ => match vs with
  | [.str z, .ref p] => ErrK K ∧ ∃ ps b, SqL K H p ps ∧ Wrd K H z ps b ∧ ∀ H', Same H H' → Q (.str (wordOf b)) H'
  | _ => False
def sp__law_all (K : PySem.W.Frag) : Sp := fun vs H Q _ => match vs with
  | [.ref l, .str z] => ErrK K ∧ ∃ vs b, z = wordOf b ∧ SqL K H l vs ∧ vs.length ≤ 1000 ∧ (∀ v ∈ vs, It K b v H) ∧ ∀ H', Same H H' → Q (.bl true) H'
  | _ => False
/-- no column of n -/
structure Bad (K : PySem.W.Frag) (n : Nat) (v : V) (H : Hp) : Prop where
  tk : Tk K H v
  no : isCol v n = false
  nn : v ≠ .non
  sw : Sw 4 100 K H v
theorem Bad.same (s : Same H H') {n : Nat} {v : V} (h : Bad K n v H) : Bad K n v H' := ⟨h.tk.same s, h.no, h.nn, h.sw.same s⟩
def sp__law_no_column (K : PySem.W.Frag) : Sp := fun vs H Q _ => match vs with
  | [.ref p, .int w] => ∃ n : Nat, w = (n : Int) ∧ 1 ≤ n ∧ n ≤ 11 ∧ PurAt H p ∧ ∀ v H', Bad K n v (off p H') → PurAt H' p → Keep [p] H H' → Q v H'
  | _ => False
def Drn (K : PySem.W.Frag) (vs : List V) (H : Hp) (Q : VK) : Prop := match vs with
  | [.ref p, .ref a, .int w] => ErrK K ∧ ∃ R n, w = ((n : Nat) : Int) ∧ PurAt H p ∧ Rx K (off p H) (.ref a) R ∧ Wd R n ∧ R ≠ [] ∧ 1 ≤ n ∧ n ≤ 11 ∧ ∀ H', PurAt H' p → Keep [p] H H' → Q (.bl true) H'
  | _ => False
def sp__law_refused (K : PySem.W.Frag) : Sp := fun vs H Q _ => match vs with
  | [.ref p, .ref a, .int w] => Drn K [.ref p, .ref a, .int w] H Q
  | _ => False
def sp__law_let (K : PySem.W.Frag) : Sp := fun vs H Q _ => match vs with
  | [.ref p, .ref a, .int w] => Drn K [.ref p, .ref a, .int w] H Q
  | _ => False
def sp_law (K : PySem.W.Frag) : Sp := fun vs H Q _ => match vs with
  | [.ref a] => ErrK K ∧ ∃ ns : List Int, SqL K H a (ns.map V.int) ∧ ns.length ≤ 63 ∧ ∀ H', Q (.bl true) H'
  | _ => False
end G22

set_option Elab.async false
set_option linter.all false
set_option maxRecDepth 100000
set_option maxHeartbeats 4000000

/-! Readings, printed by gen.py. -/
namespace G22
open PySem PySem.Spec PyProof.Rows L2 U G
abbrev N__law_word : List Str := ["_law_call", "_law_parts", "_law_word_here", "e", "_law_kinds"]
def t__law_word (K : PySem.W.Frag) : TS :=
  (tSeq (tAsg (tC (.str "told")) (gName 2))
  (tSeq (fun D σ H => (fun W => (tIfS (tTest (tOp rEq (tVar 0) (tC (.str "copied")))) (tDrop (tCl (sp_copied K) [] (WE W) (tCons (tOp (rIxL K) (tVar 1) (tC (.int 0))) tNil))) (tIfS (tTest (tOp rEq (tVar 0) (tC (.str "cut")))) (tDrop (tCl (sp_cutW K) [] (WE W) (tCons (tOp (rIxL K) (tVar 1) (tC (.int 0))) (tCons (tOp (rIxL K) (tVar 1) (tC (.int 1))) tNil)))) (tIfS (tTest (tOp rEq (tVar 0) (tC (.str "joined")))) (tDrop (tCl (sp_joinedW K) [] (WE W) (tCons (tOp (rIxL K) (tVar 1) (tC (.int 0))) (tCons (tOp (rIxL K) (tVar 1) (tC (.int 1))) tNil)))) (tDrop (tCl (sp_summedW K) [] (WE W) (tCons (tOp (rIxL K) (tVar 1) (tC (.int 0))) (tCons (tOp (rIxL K) (tVar 1) (tC (.int 1))) (tCons (tOp (rIxL K) (tVar 1) (tC (.int 2))) tNil))))))))) (wAs K (.ref (He.ga K "HallError")) 3 (fun ea cls ed => (tSeq (tAsg (tLst (tCons (tCB (rIsX K ea cls ed) (tCons (tVar 3) (tCons (tC (.ref (He.ga K "NoWay"))) tNil))) (tCons (tCB (rIsX K ea cls ed) (tCons (tVar 3) (tCons (tC (.ty "ValueError")) tNil))) tNil))) (gName 4))
  (tSeq (tDrop (tBM K "list" rAppend (tVar 4) (tCons (tCB (rIsXT K ea cls ed) (tCons (tVar 3) (tCons (tTup (tCons (tC (.ref (He.ga K "Answered"))) (tCons (tC (.ref (He.ga K "BadKind"))) (tCons (tC (.ref (He.ga K "NoAnswer"))) (tCons (tC (.ref (He.ga K "NoDay"))) (tCons (tC (.ref (He.ga K "NoHold"))) (tCons (tC (.ref (He.ga K "NoKind"))) (tCons (tC (.ref (He.ga K "NoMatter"))) (tCons (tC (.ref (He.ga K "NoName"))) (tCons (tC (.ref (He.ga K "NoPerson"))) tNil)))))))))) tNil))) tNil)))
  (tSeq (tDrop (tBM K "list" rAppend (tVar 4) (tCons (tCB (rIsXT K ea cls ed) (tCons (tVar 3) (tCons (tTup (tCons (tC (.ref (He.ga K "NoRows"))) (tCons (tC (.ref (He.ga K "NoTelling"))) (tCons (tC (.ref (He.ga K "NoText"))) (tCons (tC (.ref (He.ga K "NoThing"))) (tCons (tC (.ref (He.ga K "Taken"))) tNil)))))) tNil))) tNil)))
  (tAsg (tOp (rIxL K) (tLst (tCons (tC (.str "other")) (tCons (tC (.str "refused")) tNil))) (tCB rInt1 (tCons (tOp (rEqD K) (tVar 4) (tLst (tCons (tC (.bl true)) (tCons (tC (.bl true)) (tCons (tC (.bl false)) (tCons (tC (.bl false)) tNil)))))) tNil))) (gName 2)))))) (fun _ _ _ _ => False) D) D σ H)
  (tRet (tVar 2))))
abbrev N__law_all : List Str := ["_law_some", "_law_due", "_law_call", "_law_parts", "_law_kept"]
def t__law_all (K : PySem.W.Frag) : TS :=
  (tSeq (tFor (iList K (tVar 0)) (gTup K 2 (gCons (gName 2) (gCons (gName 3) gNil))) (tSeq (tAsg (tCB (rReprQ K) (tCons (tVar 3) tNil)) (gName 4))
  (tIfS (tOr (tTest (tOp rNe (tCl (sp__law_word K) [] ES0 (tCons (tVar 2) (tCons (tVar 3) tNil))) (tVar 1))) (tTest (tOp rNe (tCB (rReprQ K) (tCons (tVar 3) tNil)) (tVar 4)))) (tRet (tC (.bl false))) tNext)))
  (tRet (tC (.bl true))))
abbrev N__law_let : List Str := ["_law_purse_here", "_law_rows_here", "_law_width", "_law_last", "_law_some"]
def t__law_let (K : PySem.W.Frag) : TS :=
  (tSeq (tAsg (tOp rSubI (tVar 2) (tC (.int 1))) (gName 3))
  (tSeq (tAsg (tLst (tCons (tTup (tCons (tC (.str "cut")) (tCons (tLst (tCons (tVar 1) (tCons (tOp rRep (tLst (tCons (tVar 3) tNil)) (tC (.int 12))) tNil))) tNil))) (tCons (tTup (tCons (tC (.str "joined")) (tCons (tLst (tCons (tVar 1) (tCons (tCl (sp__law_rows K) [] ES0 (tCons (tVar 0) (tCons (tOp rSubI (tC (.int 12)) (tVar 2)) tNil))) tNil))) tNil))) (tCons (tTup (tCons (tC (.str "copied")) (tCons (tLst (tCons (tVar 1) tNil)) tNil))) tNil)))) (gName 4))
  (tSeq (tAsg (tOp rCat (tVar 4) (tLst (tCons (tTup (tCons (tC (.str "summed")) (tCons (tLst (tCons (tOp rRep (tLst (tCons (tVar 1) tNil)) (tC (.int 8))) (tCons (tVar 3) (tCons (tVar 3) tNil)))) tNil))) (tCons (tTup (tCons (tC (.str "summed")) (tCons (tLst (tCons (tLst (tCons (tVar 1) tNil)) (tCons (tC (.int 0)) (tCons (tC .non) tNil)))) tNil))) (tCons (tTup (tCons (tC (.str "summed")) (tCons (tLst (tCons (tLst (tCons (tVar 1) tNil)) (tCons (tVar 3) (tCons (tC (.int 0)) tNil)))) tNil))) tNil))))) (gName 4))
  (tRet (tCl (sp__law_all K) [] ES0 (tCons (tVar 4) (tCons (tC (.str "told")) tNil)))))))
abbrev N__law_no_column : List Str := ["_law_purse_here", "_law_width", "_law_far", "_law_some"]
def t__law_no_column (K : PySem.W.Frag) : TS :=
  (tSeq (tAsg (tCl (sp__law_take K) [] ES0 (tCons (tVar 0) (tCons (tOp rPowI (tC (.int 10)) (tC (.int 40))) tNil))) (gName 2))
  (tSeq (tAsg (tLst (tCons (tVar 1) (tCons (tUn (rU fun i => .int (-i)) (tC (.int 1))) (tCons (tOp rAddI (tVar 1) (tVar 2)) (tCons (tOp rSubI (tUn (rU fun i => .int (-i)) (tC (.int 1))) (tVar 2)) (tCons (tUn (rU fun i => .int (-i)) (tVar 1)) (tCons (tC (.bl true)) (tCons (tC (.bl false)) (tCons (tC (.str "0")) (tCons (tTup (tCons (tC (.int 0)) tNil)) (tCons (tLst (tCons (tC (.int 0)) tNil)) (tCons tDNewK tNil)))))))))))) (gName 3))
  (tRet (tOp (rIxL K) (tVar 3) (tCl (sp__law_take K) [] ES0 (tCons (tVar 0) (tCons (tC (.int 11)) tNil)))))))
abbrev N__law_refused : List Str := ["_law_purse_here", "_law_rows_here", "_law_width", "_law_bad", "_law_good", "_law_at_here", "_law_many", "_law_spot", "_law_some", "_law_less", "_law_last", "_law_k"]
def t__law_refused (K : PySem.W.Frag) : TS :=
  (tSeq (tAsg (tCl (sp__law_no_column K) [] ES0 (tCons (tVar 0) (tCons (tVar 2) tNil))) (gName 3))
  (tSeq (tAsg (tLc (iRng1 (tCons (tCl (sp__law_take K) [] ES0 (tCons (tVar 0) (tCons (tC (.int 11)) tNil))) tNil)) (gName 11) tYes (tCl (sp__law_take K) [] ES0 (tCons (tVar 0) (tCons (tVar 2) tNil))) [11]) (gName 4))
  (tSeq (tAsg (tCl (sp__law_take K) [] ES0 (tCons (tVar 0) (tCons (tOp rAddI (tCB (rLenSeq K) (tCons (tVar 4) tNil)) (tC (.int 1))) tNil))) (gName 5))
  (tSeq (tAsg (tLc (iRng1 (tCons (tCl (sp__law_take K) [] ES0 (tCons (tVar 0) (tCons (tC (.int 7)) tNil))) tNil)) (gName 11) tYes (tCl (sp__law_rows K) [] ES0 (tCons (tVar 0) (tCons (tVar 2) tNil))) [11]) (gName 6))
  (tSeq (tAsg (tCl (sp__law_take K) [] ES0 (tCons (tVar 0) (tCons (tOp rAddI (tCB (rLenSeq K) (tCons (tVar 6) tNil)) (tC (.int 1))) tNil))) (gName 7))
  (tSeq (tAsg (tLst (tCons (tTup (tCons (tC (.str "copied")) (tCons (tLst (tCons tDNewK tNil)) tNil))) (tCons (tTup (tCons (tC (.str "cut")) (tCons (tLst (tCons tDNewK (tCons (tLst (tCons (tC (.int 0)) tNil)) tNil))) tNil))) (tCons (tTup (tCons (tC (.str "cut")) (tCons (tLst (tCons (tVar 1) (tCons (tLst tNil) tNil))) tNil))) (tCons (tTup (tCons (tC (.str "cut")) (tCons (tLst (tCons (tVar 1) (tCons (tOp rCat (tOp rCat (tSl (rSlL K) (tVar 4) tNoPart (tPart (tVar 5))) (tLst (tCons (tVar 3) tNil))) (tSl (rSlL K) (tVar 4) (tPart (tVar 5)) tNoPart)) tNil))) tNil))) tNil))))) (gName 8))
  (tSeq (tAsg (tOp rCat (tVar 8) (tLst (tCons (tTup (tCons (tC (.str "cut")) (tCons (tLst (tCons (tVar 1) (tCons (tOp rRep (tLst (tCons (tC (.int 0)) tNil)) (tC (.int 13))) tNil))) tNil))) (tCons (tTup (tCons (tC (.str "joined")) (tCons (tLst (tCons tDNewK (tCons (tVar 1) tNil))) tNil))) (tCons (tTup (tCons (tC (.str "joined")) (tCons (tLst (tCons (tVar 1) (tCons tDNewK tNil))) tNil))) (tCons (tTup (tCons (tC (.str "joined")) (tCons (tLst (tCons tDNewK (tCons tDNewK tNil))) tNil))) tNil)))))) (gName 8))
  (tSeq (tAsg (tOp rCat (tVar 8) (tLst (tCons (tTup (tCons (tC (.str "joined")) (tCons (tLst (tCons (tVar 1) (tCons (tCl (sp__law_rows K) [] ES0 (tCons (tVar 0) (tCons (tOp rSubI (tC (.int 13)) (tVar 2)) tNil))) tNil))) tNil))) (tCons (tTup (tCons (tC (.str "summed")) (tCons (tLst (tCons (tLst tNil) (tCons (tC (.int 0)) (tCons (tC .non) tNil)))) tNil))) tNil)))) (gName 8))
  (tSeq (tAsg (tOp rCat (tVar 8) (tLst (tCons (tTup (tCons (tC (.str "summed")) (tCons (tLst (tCons (tOp rCat (tOp rCat (tSl (rSlL K) (tVar 6) tNoPart (tPart (tVar 7))) (tLst (tCons tDNewK tNil))) (tSl (rSlL K) (tVar 6) (tPart (tVar 7)) tNoPart)) (tCons (tC (.int 0)) (tCons (tC .non) tNil)))) tNil))) (tCons (tTup (tCons (tC (.str "summed")) (tCons (tLst (tCons (tOp rRep (tLst (tCons (tVar 1) tNil)) (tC (.int 9))) (tCons (tC (.int 0)) (tCons (tC .non) tNil)))) tNil))) tNil)))) (gName 8))
  (tSeq (tAsg (tOp rCat (tVar 8) (tLst (tCons (tTup (tCons (tC (.str "summed")) (tCons (tLst (tCons (tOp rCat (tVar 6) (tLst (tCons (tVar 1) tNil))) (tCons (tVar 3) (tCons (tC .non) tNil)))) tNil))) (tCons (tTup (tCons (tC (.str "summed")) (tCons (tLst (tCons (tOp rCat (tVar 6) (tLst (tCons (tVar 1) tNil))) (tCons (tC (.int 0)) (tCons (tVar 3) tNil)))) tNil))) tNil)))) (gName 8))
  (tSeq (tAsg (tOp rCat (tVar 8) (tLst (tCons (tTup (tCons (tC (.str "summed")) (tCons (tLst (tCons (tLst (tCons (tVar 1) tNil)) (tCons (tC .non) (tCons (tC .non) tNil)))) tNil))) (tCons (tTup (tCons (tC (.str "summed")) (tCons (tLst (tCons (tLst (tCons (tVar 1) tNil)) (tCons (tC (.bl true)) (tCons (tC .non) tNil)))) tNil))) (tCons (tTup (tCons (tC (.str "summed")) (tCons (tLst (tCons (tLst (tCons (tVar 1) tNil)) (tCons (tC (.int 0)) (tCons (tC (.bl false)) tNil)))) tNil))) tNil))))) (gName 8))
  (tSeq (tDrop (tBM K "list" rAppend (tVar 8) (tCons (tTup (tCons (tC (.str "cut")) (tCons (tLst (tCons (tVar 1) (tCons (tOp rCat (tOp rCat (tSl (rSlL K) (tVar 4) tNoPart (tPart (tVar 5))) (tLst (tCons (tC .non) tNil))) (tSl (rSlL K) (tVar 4) (tPart (tVar 5)) tNoPart)) tNil))) tNil))) tNil)))
  (tSeq (tIfS (tTest (tOp rGtI (tVar 2) (tC (.int 1)))) (tSeq (tAsg (tCl (sp__law_rows K) [] ES0 (tCons (tVar 0) (tCons (tOp rAddI (tC (.int 1)) (tCl (sp__law_take K) [] ES0 (tCons (tVar 0) (tCons (tOp rSubI (tVar 2) (tC (.int 1))) tNil)))) tNil))) (gName 9))
  (tSeq (tAsg (tOp rSubI (tVar 2) (tC (.int 1))) (gName 10))
  (tSeq (tDrop (tBM K "list" rAppend (tVar 8) (tCons (tTup (tCons (tC (.str "summed")) (tCons (tLst (tCons (tOp rCat (tOp rCat (tSl (rSlL K) (tVar 6) tNoPart (tPart (tVar 7))) (tLst (tCons (tVar 9) (tCons (tVar 1) tNil)))) (tSl (rSlL K) (tVar 6) (tPart (tVar 7)) tNoPart)) (tCons (tVar 10) (tCons (tC .non) tNil)))) tNil))) tNil)))
  (tDrop (tBM K "list" rAppend (tVar 8) (tCons (tTup (tCons (tC (.str "summed")) (tCons (tLst (tCons (tOp rCat (tOp rCat (tSl (rSlL K) (tVar 6) tNoPart (tPart (tVar 7))) (tLst (tCons (tVar 1) (tCons (tVar 9) tNil)))) (tSl (rSlL K) (tVar 6) (tPart (tVar 7)) tNoPart)) (tCons (tC (.int 0)) (tCons (tVar 10) tNil)))) tNil))) tNil)))))) tNext)
  (tRet (tCl (sp__law_all K) [] ES0 (tCons (tVar 8) (tCons (tC (.str "refused")) tNil)))))))))))))))))
abbrev N_law : List Str := ["_law_script", "_law_k", "_law_purse_here", "_law_width", "_law_rows_here"]
def t_law (K : PySem.W.Frag) : TS :=
  (tSeq (tFor (iRng1 (tCons (tCB rMax2 (tCons (tC (.int 3)) (tCons (tCB rMin2 (tCons (tCB (rLenSeq K) (tCons (tVar 0) tNil)) (tCons (tC (.int 10)) tNil))) tNil))) tNil)) (gName 1) (tSeq (tAsg (tCl (sp__law_purse K) [] ES0 (tCons (tCl (sp__law_at K) [] ES0 (tCons (tVar 0) (tCons (tVar 1) tNil))) tNil)) (gName 2))
  (tSeq (tAsg (tOp (rIxL K) (tLst (tCons (tC (.int 1)) (tCons (tC (.int 2)) (tCons (tC (.int 3)) (tCons (tC (.int 5)) (tCons (tC (.int 8)) (tCons (tC (.int 11)) tNil))))))) (tCl (sp__law_take K) [] ES0 (tCons (tVar 2) (tCons (tC (.int 6)) tNil)))) (gName 3))
  (tSeq (tAsg (tCl (sp__law_rows K) [] ES0 (tCons (tVar 2) (tCons (tVar 3) tNil))) (gName 4))
  (tIfS (tOr (tNot (tB (tCl (sp__law_refused K) [] ES0 (tCons (tVar 2) (tCons (tVar 4) (tCons (tVar 3) tNil)))))) (tNot (tB (tCl (sp__law_let K) [] ES0 (tCons (tVar 2) (tCons (tVar 4) (tCons (tVar 3) tNil))))))) (tRet (tC (.bl false))) tNext)))))
  (tRet (tC (.bl true))))
end G22

set_option Elab.async false
set_option linter.all false
set_option maxRecDepth 100000
set_option maxHeartbeats 4000000
/-! k22: the word, the pairs gone through. -/
namespace G22
open PySem PySem.Spec PyProof.Rows L2 U G
variable {K : PySem.W.Frag}
theorem nN : ("NoWay" : Str) ∈ errNames := by decide +kernel
theorem any1 : ((["Answered", "BadKind", "NoAnswer", "NoDay", "NoHold", "NoKind", "NoMatter", "NoName", "NoPerson"] : List Str).any fun y => decide (("NoWay" : Str) = y)) = false := by decide +kernel
theorem any2 : ((["NoRows", "NoTelling", "NoText", "NoThing", "Taken"] : List Str).any fun y => decide (("NoWay" : Str) = y)) = false := by decide +kernel
theorem eqK : PyData.eqv (.list [.bool true, .bool true, .bool false, .bool false]) (.list [.bool true, .bool true, .bool false, .bool false]) = true := by decide +kernel
theorem shK : SeqAt.shaped (.list [.bool true, .bool true, .bool false, .bool false]) = true := by decide +kernel
theorem dpK {H : Hp} {l : Addr} (h : H l = some (.lst [V.bl true, V.bl true, V.bl false, V.bl false])) : Dp K H (.ref l) (.list [.bool true, .bool true, .bool false, .bool false]) :=
  .lst (SqL.of h) (.cons (.bl _) (.cons (.bl _) (.cons (.bl _) (.cons (.bl _) .nil))))
theorem wd_one {R : Rw} {n m : Nat} (ne : R ≠ []) (h : Wd R n) (g : Wd R m) : n = m := by
  cases R with
  | nil => exact absurd rfl ne
  | cons r R => rw [← h r (List.mem_cons_self ..), g r (List.mem_cons_self ..)]
theorem rx_split {H : Hp} {xs : List V} {Rs : List Rw} (h : Paired (Rx K H) xs Rs) : ∃ as ns, xs = as.map V.ref ∧ Paired (RowsAt K H) as Rs ∧ Paired Wd Rs ns := by
  induction h with
  | nil => exact ⟨[], [], rfl, .nil, .nil⟩
  | cons hd _ ih =>
    obtain ⟨as, ns, e, h1, h2⟩ := ih
    obtain ⟨a, e1, r⟩ := hd.ex
    obtain ⟨n, _, w⟩ := hd.wd
    exact ⟨a :: as, n :: ns, by rw [List.map_cons, ← e, e1], .cons r h1, .cons w h2⟩
theorem paired_left {α β : Type} {R : α → β → Prop} {as : List α} {bs : List β} (h : Paired R as bs) {a : α} (ha : a ∈ as) : ∃ b, R a b := by
  induction h with
  | nil => cases ha
  | cons hd _ ih =>
    rcases List.mem_cons.mp ha with rfl | ha
    · exact ⟨_, hd⟩
    · exact ih ha
theorem sumW_no {c v : V} {Rs : List Rw} {ns : List Nat} (hw : Paired Wd Rs ns) (h : SumW c v Rs false) : ¬ OkSum c v Rs ns := fun o => by
  rcases h with h | ⟨R, hR, h⟩
  · exact h ⟨o.lo, o.hi⟩
  · obtain ⟨n, w, ok⟩ := paired_left (paired_and hw o.all) hR
    exact h n w ok
theorem sumW_ok {c v : V} {Rs : List Rw} {ns : List Nat} (hw : Paired Wd Rs ns) (h : SumW c v Rs true) : OkSum c v Rs ns := by
  refine ⟨h.1, h.2.1, paired_all (paired_len hw) fun i R n hR hn => h.2.2 R (List.mem_of_getElem? hR) n ?_⟩
  obtain ⟨n', hn', w⟩ := paired_at hw hR
  rw [hn] at hn'
  cases hn'
  exact w
theorem pure__law_word (vs : List V) (H : Hp) (Q : VK) (E : XK) (h : sp__law_word K vs H Q E) : t__law_word K { nx := fun _ H' => Q .non H', rt := Q } (start N__law_word vs) H := by
  unfold sp__law_word at h
  split at h
  · rename_i z p
    obtain ⟨EK, ps, b, hp, w, q⟩ := h
    -- refused
    have no : ∀ (σ : L2.St) (H' : Hp), σ = [some (.str z), some (.ref p), some (.str "told"), none, none] → (b = false) → Same H H' →
        wAs K (.ref (He.ga K "HallError")) 3 (fun ea cls ed => (tSeq (tAsg (tLst (tCons (tCB (rIsX K ea cls ed) (tCons (tVar 3) (tCons (tC (.ref (He.ga K "NoWay"))) tNil))) (tCons (tCB (rIsX K ea cls ed) (tCons (tVar 3) (tCons (tC (.ty "ValueError")) tNil))) tNil))) (gName 4))
  (tSeq (tDrop (tBM K "list" rAppend (tVar 4) (tCons (tCB (rIsXT K ea cls ed) (tCons (tVar 3) (tCons (tTup (tCons (tC (.ref (He.ga K "Answered"))) (tCons (tC (.ref (He.ga K "BadKind"))) (tCons (tC (.ref (He.ga K "NoAnswer"))) (tCons (tC (.ref (He.ga K "NoDay"))) (tCons (tC (.ref (He.ga K "NoHold"))) (tCons (tC (.ref (He.ga K "NoKind"))) (tCons (tC (.ref (He.ga K "NoMatter"))) (tCons (tC (.ref (He.ga K "NoName"))) (tCons (tC (.ref (He.ga K "NoPerson"))) tNil)))))))))) tNil))) tNil)))
  (tSeq (tDrop (tBM K "list" rAppend (tVar 4) (tCons (tCB (rIsXT K ea cls ed) (tCons (tVar 3) (tCons (tTup (tCons (tC (.ref (He.ga K "NoRows"))) (tCons (tC (.ref (He.ga K "NoTelling"))) (tCons (tC (.ref (He.ga K "NoText"))) (tCons (tC (.ref (He.ga K "NoThing"))) (tCons (tC (.ref (He.ga K "Taken"))) tNil)))))) tNil))) tNil)))
  (tAsg (tOp (rIxL K) (tLst (tCons (tC (.str "other")) (tCons (tC (.str "refused")) tNil))) (tCB rInt1 (tCons (tOp (rEqD K) (tVar 4) (tLst (tCons (tC (.bl true)) (tCons (tC (.bl true)) (tCons (tC (.bl false)) (tCons (tC (.bl false)) tNil)))))) tNil))) (gName 2)))))) (fun _ _ _ _ => False) { nx := fun σ H' => (tRet (tVar 2)) { nx := fun _ H' => Q .non H', rt := Q } σ H', rt := Q } (.ref (He.ga K "NoWay")) none σ H' := by
      rintro σ H' rfl hb s
      subst hb
      refine ⟨true, EK.exm _ nN, fun _ a0 _ => ?_, fun q => Bool.noConfusion q⟩
      have kNN : PySem.W.kitOne K (.ref (He.ga K "NoWay")) (.ref (He.ga K "NoWay")) = some true := (EK.kit _ nN _ nN).trans (by rw [decide_eq_true rfl])
      refine ⟨_, rfl, _, _, _, _, rfl, rfl, EK.exc _ nN, rfl, .own _, kNN, ?_⟩
      refine ⟨_, rfl, _, _, _, _, rfl, rfl, EK.exc _ nN, rfl, .ty _, EK.kitV _ nN, (by show 2 ≤ sizeLine; decide), fun l nl => ?_⟩
      have sl := s.new (o := .lst [V.bl true, V.bl true]) nl
      refine ⟨_, rfl, .inl ⟨rfl, _, SqL.of upd_same⟩, _, rfl, (by show 9 ≤ sizeLine; decide), fun tp htp => ⟨_, tp, _, _, _, rfl, rfl, EK.exc _ nN, rfl, upd_same, clsv_errs K ["Answered", "BadKind", "NoAnswer", "NoDay", "NoHold", "NoKind", "NoMatter", "NoName", "NoPerson"], kitAny_errs EK nN _ (by decide +kernel), ?_⟩⟩
      rw [any1]
      have nlt : l ≠ tp := fun e => by
        rw [← e, upd_same] at htp
        cases htp
      refine ⟨l, _, _, rfl, rfl, (upd_ne nlt).trans upd_same, (by show 2 < sizeLine; decide), ?_⟩
      have st := sl.new (o := .tup [V.ref (He.ga K "Answered"), V.ref (He.ga K "BadKind"), V.ref (He.ga K "NoAnswer"), V.ref (He.ga K "NoDay"), V.ref (He.ga K "NoHold"), V.ref (He.ga K "NoKind"), V.ref (He.ga K "NoMatter"), V.ref (He.ga K "NoName"), V.ref (He.ga K "NoPerson")]) htp
      have sm := U.Same.mut (o := .lst ([V.bl true, V.bl true] ++ [V.bl false])) st (s.free nl)
      have hl3 : (upd (upd (upd H' l (.lst [V.bl true, V.bl true])) tp (.tup [V.ref (He.ga K "Answered"), V.ref (He.ga K "BadKind"), V.ref (He.ga K "NoAnswer"), V.ref (He.ga K "NoDay"), V.ref (He.ga K "NoHold"), V.ref (He.ga K "NoKind"), V.ref (He.ga K "NoMatter"), V.ref (He.ga K "NoName"), V.ref (He.ga K "NoPerson")])) l (.lst ([V.bl true, V.bl true] ++ [V.bl false]))) l = _ := upd_same
      generalize upd (upd (upd H' l (.lst [V.bl true, V.bl true])) tp (.tup [V.ref (He.ga K "Answered"), V.ref (He.ga K "BadKind"), V.ref (He.ga K "NoAnswer"), V.ref (He.ga K "NoDay"), V.ref (He.ga K "NoHold"), V.ref (He.ga K "NoKind"), V.ref (He.ga K "NoMatter"), V.ref (He.ga K "NoName"), V.ref (He.ga K "NoPerson")])) l (.lst ([V.bl true, V.bl true] ++ [V.bl false])) = H1 at sm hl3 ⊢
      refine ⟨_, rfl, .inl ⟨rfl, _, SqL.of hl3⟩, _, rfl, (by show 5 ≤ sizeLine; decide), fun tq htq => ⟨_, tq, _, _, _, rfl, rfl, EK.exc _ nN, rfl, upd_same, clsv_errs K ["NoRows", "NoTelling", "NoText", "NoThing", "Taken"], kitAny_errs EK nN _ (by decide +kernel), ?_⟩⟩
      rw [any2]
      have nlq : l ≠ tq := fun e => by
        rw [← e, hl3] at htq
        cases htq
      refine ⟨l, _, _, rfl, rfl, (upd_ne nlq).trans hl3, (by show 3 < sizeLine; decide), ?_⟩
      have sm2 := U.Same.mut (o := .lst ([V.bl true, V.bl true] ++ [V.bl false] ++ [V.bl false])) (sm.new (o := .tup [V.ref (He.ga K "NoRows"), V.ref (He.ga K "NoTelling"), V.ref (He.ga K "NoText"), V.ref (He.ga K "NoThing"), V.ref (He.ga K "Taken")]) htq) (s.free nl)
      have hl4 : (upd (upd H1 tq (.tup [V.ref (He.ga K "NoRows"), V.ref (He.ga K "NoTelling"), V.ref (He.ga K "NoText"), V.ref (He.ga K "NoThing"), V.ref (He.ga K "Taken")])) l (.lst ([V.bl true, V.bl true] ++ [V.bl false] ++ [V.bl false]))) l = _ := upd_same
      generalize upd (upd H1 tq (.tup [V.ref (He.ga K "NoRows"), V.ref (He.ga K "NoTelling"), V.ref (He.ga K "NoText"), V.ref (He.ga K "NoThing"), V.ref (He.ga K "Taken")])) l (.lst ([V.bl true, V.bl true] ++ [V.bl false] ++ [V.bl false])) = H2 at sm2 hl4 ⊢
      refine ⟨(by show 2 ≤ sizeLine; decide), fun l2 n2 => ?_⟩
      have s2 := same_new (o := .lst [V.str "other", V.str "refused"]) n2
      have h2 : (upd H2 l2 (.lst [V.str "other", V.str "refused"])) l2 = _ := upd_same
      generalize upd H2 l2 (.lst [V.str "other", V.str "refused"]) = H3 at s2 h2 ⊢
      refine ⟨_, rfl, (by show 4 ≤ sizeLine; decide), fun l3 n3 => ?_⟩
      have s3 := same_new (o := .lst [V.bl true, V.bl true, V.bl false, V.bl false]) n3
      refine ⟨_, _, dpK (s3 _ _ (s2 _ _ hl4)), dpK upd_same, shK, shK, ?_⟩
      rw [eqK]
      refine .inr ⟨true, rfl, l2, _, _, _, rfl, rfl, SqL.of (s3 _ _ h2), rfl, ?_⟩
      exact ⟨_, rfl, q _ ((sm2.trans s2).trans s3)⟩
    have ok : ∀ (σ : L2.St) (H' : Hp), σ = [some (.str z), some (.ref p), some (.str "told"), none, none] → (b = true) → Same H H' → (tRet (tVar 2)) { nx := fun _ H' => Q .non H', rt := Q } σ H' := by
      rintro σ H' rfl hb s
      subst hb
      exact ⟨_, rfl, q _ s⟩
    refine ⟨_, rfl, rfl, _, rfl, ?_⟩
    cases w with
    | copied r h1 h2 =>
      rename_i a R
      rw [decide_eq_true rfl]
      refine iteT ⟨_, rfl, p, _, _, _, rfl, rfl, hp, rfl, R, r, fun e => ?_, fun ne p' R' H' _ _ _ s => ?_⟩
      · cases b with
        | false => exact no _ _ rfl rfl (Same.refl H)
        | true => exact absurd e (h1 rfl)
      · cases b with
        | true => exact ok _ _ rfl rfl s
        | false => exact absurd (h2 rfl) ne
    | cut r w sq t h1 h2 =>
      rename_i a c R n xs
      rw [decide_eq_false (fun e => absurd (V.str.inj e) (by decide +kernel))]
      refine iteF ⟨_, rfl, rfl, _, rfl, ?_⟩
      rw [decide_eq_true rfl]
      refine iteT ⟨_, rfl, p, _, _, _, rfl, rfl, hp, rfl, _, rfl, p, _, _, _, rfl, rfl, hp, rfl, R, n, xs, r, w, sq, t, fun no' H' s => ?_, fun ok' p' R' H' _ _ _ s => ?_⟩
      · cases b with
        | false => exact no _ _ rfl rfl s
        | true => exact absurd (h1 rfl) no'
      · cases b with
        | true => exact ok _ _ rfl rfl s
        | false => exact absurd ok' (h2 rfl)
    | joined r r2 w w2 n1 h1 h2 =>
      rename_i a b' A B n m
      rw [decide_eq_false (fun e => absurd (V.str.inj e) (by decide +kernel))]
      refine iteF ⟨_, rfl, rfl, _, rfl, ?_⟩
      rw [decide_eq_false (fun e => absurd (V.str.inj e) (by decide +kernel))]
      refine iteF ⟨_, rfl, rfl, _, rfl, ?_⟩
      rw [decide_eq_true rfl]
      refine iteT ⟨_, rfl, p, _, _, _, rfl, rfl, hp, rfl, _, rfl, p, _, _, _, rfl, rfl, hp, rfl, A, B, n, m, r, r2, w, w2, n1, fun no' H' s => ?_, fun ok' p' R' H' _ _ _ s => ?_⟩
      · cases b with
        | false => exact no _ _ rfl rfl s
        | true => exact absurd (h1 rfl) no'
      · cases b with
        | true => exact ok _ _ rfl rfl s
        | false => exact absurd ok' (h2 rfl)
    | summed sq pr t u hs =>
      rename_i l c v xs Rs
      obtain ⟨as, ns, rfl, pA, pW⟩ := rx_split pr
      rw [decide_eq_false (fun e => absurd (V.str.inj e) (by decide +kernel))]
      refine iteF ⟨_, rfl, rfl, _, rfl, ?_⟩
      rw [decide_eq_false (fun e => absurd (V.str.inj e) (by decide +kernel))]
      refine iteF ⟨_, rfl, rfl, _, rfl, ?_⟩
      rw [decide_eq_false (fun e => absurd (V.str.inj e) (by decide +kernel))]
      refine iteF ⟨_, rfl, p, _, _, _, rfl, rfl, hp, rfl, _, rfl, p, _, _, _, rfl, rfl, hp, rfl, _, rfl, p, _, _, _, rfl, rfl, hp, rfl, as, Rs, ns, sq, pA, pW, t, u, fun no' H' s => ?_, fun ok' p' G H' _ _ _ s => ?_⟩
      · cases b with
        | false => exact no _ _ rfl rfl s
        | true => exact absurd (sumW_ok pW hs) no'
      · cases b with
        | true => exact ok _ _ rfl rfl s
        | false => exact absurd ok' (sumW_no pW hs)
  · exact h.elim
theorem dq_of {H : Hp} {m b : Nat} : ∀ {ps : List V}, (∀ x ∈ ps, Sw m b K H x) → ∃ ds, DqAll K H ps ds ∧ ds.length = ps.length ∧ ∀ d ∈ ds, Fd m b d
  | [], _ => ⟨[], .nil, rfl, fun d hd => (List.not_mem_nil hd).elim⟩
  | x :: ps, h => by
    obtain ⟨ds, h1, h2, h3⟩ := dq_of (ps := ps) fun x hx => h x (List.mem_cons_of_mem _ hx)
    obtain ⟨d, hd, f⟩ := h x (List.mem_cons_self ..)
    refine ⟨d :: ds, .cons hd h1, by rw [List.length_cons, List.length_cons, h2], fun e he => ?_⟩
    rcases List.mem_cons.mp he with rfl | he
    · exact f
    · exact h3 e he
theorem pure__law_all (vs : List V) (H : Hp) (Q : VK) (E : XK) (h : sp__law_all K vs H Q E) : t__law_all K { nx := fun _ H' => Q .non H', rt := Q } (start N__law_all vs) H := by
  unfold sp__law_all at h
  split at h
  · rename_i l z
    obtain ⟨EK, xs, b, rfl, hl, len, all, q⟩ := h
    refine ⟨_, rfl, l, rfl, ⟨_, hl⟩, ?_⟩
    refine for_list (K := K) (a := l) (xs := xs) (fun i σ H' => Same H H' ∧ ∃ v2 v3 v4, σ = [some (.ref l), some (.str (wordOf b)), v2, v3, v4]) ⟨Same.refl H, _, _, _, rfl⟩ (fun i σ H' _ ⟨s, _⟩ => s.seq hl) ?_ ?_
    · rintro i x σ H1 hi ⟨s1, v2, v3, v4, rfl⟩
      obtain ⟨t, z, p, ps, rfl, ht, hp, ne, l3, w, sw⟩ := (all x (List.mem_of_getElem? hi)).ex
      obtain ⟨ds, dq, dl, fd⟩ := dq_of sw
      have F := (fd_list fd).mono (n := 9) (c := 120003) (Nat.le_refl _) (by rw [dl]; omega)
      have ln : (PyData.list ds).shown.length ≤ sizeLine := by
        have h1 := PyData.shown_le_bulk 80 (by decide) _ F.lv
        have h2 := F.bk
        rw [sizeLine_eq]
        omega
      refine ⟨t, _, rfl, Same.seqT s1 ht, rfl, _, _, rfl, _, _, rfl, rfl, ?_⟩
      refine ⟨_, rfl, p, ps, ds, rfl, s1.seq hp, ne, DqAll.same s1 dq, F.sh, Nat.le_trans F.dp (by decide), ln, ?_⟩
      refine ⟨_, rfl, _, rfl, EK, ps, b, s1.seq hp, w.same s1, fun H2 s2 => ?_⟩
      have s12 := s1.trans s2
      refine ⟨_, rfl, rfl, _, rfl, ?_⟩
      rw [decide_eq_true rfl]
      refine iteF ⟨_, rfl, p, ps, ds, rfl, s12.seq hp, ne, DqAll.same s12 dq, F.sh, Nat.le_trans F.dp (by decide), ln, ?_⟩
      refine ⟨_, rfl, rfl, _, rfl, ?_⟩
      rw [decide_eq_true rfl]
      exact iteF ⟨s12, _, _, _, rfl⟩
    · rintro σ H1 ⟨s1, v2, v3, v4, rfl⟩
      exact q _ s1
  · exact h.elim
end G22

set_option Elab.async false
set_option linter.all false
set_option maxRecDepth 100000
set_option maxHeartbeats 4000000
/-! What an expression leaves, while a purse is being drawn from and some objects are set aside. -/
namespace U
open PySem PySem.Spec PyProof.Rows L2 G
/-- all but some objects -/
def offs (L : List Addr) (H : Hp) : Hp := fun b => if b ∈ L then none else H b
section
variable {L : List Addr} {H H' : Hp} {p l b : Addr} {o : HO}
theorem offs_at (h : H b = some o) (n : b ∉ L) : offs L H b = some o := by
  unfold offs
  rw [if_neg n]
  exact h
theorem offs_same : Same (offs L H) H := fun b o h => by
  unfold offs at h
  split at h
  · cases h
  · exact h
theorem Keep.offs {L' : List Addr} (k : Keep L' H H') (sub : ∀ x ∈ L', x ∈ L) : Same (U.offs L H) (U.offs L H') := fun b o h => by
  have n : b ∉ L := fun e => by
    unfold U.offs at h
    rw [if_pos e] at h
    cases h
  exact offs_at (k.k b o (offs_same _ _ h) fun z => n (sub b z)) n
theorem off_offs : off p H = offs [p] H := by
  funext b
  unfold off offs
  by_cases c : b = p
  · rw [if_pos c, if_pos (by rw [c]; exact List.mem_singleton.mpr rfl)]
  · rw [if_neg c, if_neg fun z => c (List.mem_singleton.mp z)]
theorem offs_cons : Same (offs (l :: L) H) (offs L H) := fun b o h => by
  have n : b ∉ l :: L := fun e => by
    unfold offs at h
    rw [if_pos e] at h
    cases h
  exact offs_at (offs_same _ _ h) fun z => n (List.mem_cons_of_mem _ z)
theorem offs_new (n : H l = none) : Same (offs L H) (offs (l :: L) (upd H l o)) := fun b u h => by
  have nb : b ∉ L := fun e => by
    unfold offs at h
    rw [if_pos e] at h
    cases h
  have hb := offs_same _ _ h
  have ne : b ≠ l := ne_of_none hb n
  exact offs_at ((upd_ne ne).trans hb) (by simp [ne, nb])
end
/-- the purse p, and what is set aside -/
structure Sit (p : Addr) (L : List Addr) (H : Hp) : Prop where
  pur : PurAt H p
  mem : p ∈ L
  live : ∀ b ∈ L, H b ≠ none
section
variable {p : Addr} {L : List Addr} {H H' H1 : Hp} {l : Addr} {o : HO} {σ : L2.St} {t u : TE} {ts : TA} {Φ Ψ : V → Hp → Prop} {v : V} {i : Nat}
theorem Sit.keep (S : Sit p L H) (P : PurAt H' p) (k : Keep [p] H H') : Sit p L H' := ⟨P, S.mem, fun b hb => by
  by_cases c : b = p
  · subst c
    obtain ⟨x, y, e, _⟩ := P
    rw [e]
    exact fun z => by cases z
  · have := S.live b hb
    cases e : H b with
    | none => exact absurd e this
    | some o =>
      rw [k.k b o e (by simp [c])]
      exact fun z => by cases z⟩
theorem Sit.fresh (S : Sit p L H) (n : H l = none) : l ∉ L := fun e => S.live l e n
theorem Sit.new (S : Sit p L H) (n : H l = none) : Sit p L (upd H l o) := S.keep (S.pur.same (same_new n)) (.same (same_new n))
theorem Sit.sub (S : Sit p L H) : ∀ x ∈ [p], x ∈ L := fun x hx => by
  rw [List.mem_singleton.mp hx]
  exact S.mem
theorem Sit.same (S : Sit p L H) (k : Keep [p] H H') : Same (offs L H) (offs L H') := k.offs S.sub
/-- what is left by an expression -/
def Ev (p : Addr) (L : List Addr) (t : TE) (σ : L2.St) (H : Hp) (Φ : V → Hp → Prop) : Prop := ∀ Q : VK, (∀ v H', Sit p L H' → Keep [p] H H' → Same (offs L H) (offs L H') → Φ v (offs L H') → Q v H') → t σ H Q
def EvA (p : Addr) (L : List Addr) (t : TA) (σ : L2.St) (H : Hp) (Φ : List V → Hp → Prop) : Prop := ∀ Q : List V → Hp → Prop, (∀ v H', Sit p L H' → Keep [p] H H' → Same (offs L H) (offs L H') → Φ v (offs L H') → Q v H') → t σ H Q
/-- stays true when things are laid -/
def Stb {α : Type} (Φ : α → Hp → Prop) : Prop := ∀ {v H H'}, Same H H' → Φ v H → Φ v H'
theorem ev_imp (e : Ev p L t σ H Φ) (f : ∀ v H', Same (offs L H) H' → Φ v H' → Ψ v H') : Ev p L t σ H Ψ := fun Q q => e Q fun v H' S k s h => q v H' S k s (f v _ s h)
theorem eva_imp {Φ Ψ : List V → Hp → Prop} (e : EvA p L ts σ H Φ) (f : ∀ v H', Same (offs L H) H' → Φ v H' → Ψ v H') : EvA p L ts σ H Ψ := fun Q q => e Q fun v H' S k s h => q v H' S k s (f v _ s h)
theorem ev_var (S : Sit p L H) (h : σ[i]? = some (some v)) : Ev p L (tVar i) σ H (fun x _ => x = v) := fun Q q => ⟨v, h, q v H S Keep.refl (Same.refl _) rfl⟩
theorem ev_c (S : Sit p L H) : Ev p L (tC v) σ H (fun x _ => x = v) := fun Q q => q v H S Keep.refl (Same.refl _) rfl
theorem eva_nil (S : Sit p L H) : EvA p L tNil σ H (fun vs _ => vs = []) := fun Q q => q [] H S Keep.refl (Same.refl _) rfl
theorem eva_cons {Ψ : List V → Hp → Prop} (e : Ev p L t σ H Φ) (st : Stb Φ) (r : ∀ H', Sit p L H' → Same (offs L H) (offs L H') → EvA p L ts σ H' Ψ) : EvA p L (tCons t ts) σ H (fun vs H' => ∃ v r, vs = v :: r ∧ Φ v H' ∧ Ψ r H') :=
  fun Q q => e _ fun v H1 S1 k1 s1 f => r H1 S1 s1 _ fun vs H2 S2 k2 s2 g => q (v :: vs) H2 S2 (k1.trans k2) (s1.trans s2) ⟨v, vs, rfl, st s2 f, g⟩
theorem eva1 (e : Ev p L t σ H Φ) : EvA p L (tCons t tNil) σ H (fun vs H' => ∃ v, vs = [v] ∧ Φ v H') :=
  fun Q q => e _ fun v H1 S1 k1 s1 f => q [v] H1 S1 k1 s1 ⟨v, rfl, f⟩
theorem ev_lst {Ψ : List V → Hp → Prop} (e : EvA p L ts σ H Ψ) (st : Stb Ψ) (len : ∀ vs H', Ψ vs H' → vs.length ≤ 1000) : Ev p L (tLst ts) σ H (fun v H' => ∃ l vs, v = .ref l ∧ H' l = some (.lst vs) ∧ Ψ vs H') :=
  fun Q q => e _ fun vs H1 S1 k1 s1 f => ⟨by have := len vs _ f; rw [sizeLine_eq]; omega, fun l nl => by
    have sn := S1.same (.same (same_new (o := .lst vs) nl))
    exact q _ _ (S1.new nl) (k1.trans (.same (same_new nl))) (s1.trans sn) ⟨l, vs, rfl, offs_at upd_same (S1.fresh nl), st sn f⟩⟩
theorem ev_tup {Ψ : List V → Hp → Prop} (e : EvA p L ts σ H Ψ) (st : Stb Ψ) (len : ∀ vs H', Ψ vs H' → vs.length ≤ 1000) : Ev p L (tTup ts) σ H (fun v H' => ∃ l vs, v = .ref l ∧ H' l = some (.tup vs) ∧ Ψ vs H') :=
  fun Q q => e _ fun vs H1 S1 k1 s1 f => ⟨by have := len vs _ f; rw [sizeLine_eq]; omega, fun l nl => by
    have sn := S1.same (.same (same_new (o := .tup vs) nl))
    exact q _ _ (S1.new nl) (k1.trans (.same (same_new nl))) (s1.trans sn) ⟨l, vs, rfl, offs_at upd_same (S1.fresh nl), st sn f⟩⟩
theorem ev_dnew (S : Sit p L H) : Ev p L tDNewK σ H (fun v H' => ∃ a, v = .ref a ∧ H' a = some (.dK [])) := fun Q q a na =>
  q _ _ (S.new na) (.same (same_new na)) (S.same (.same (same_new na))) ⟨a, rfl, offs_at upd_same (S.fresh na)⟩
/-- a list by what it holds -/
def Ls (Φ : List V → Hp → Prop) (v : V) (H : Hp) : Prop := ∃ l xs, v = .ref l ∧ H l = some (.lst xs) ∧ xs.length ≤ 1000 ∧ Φ xs H
theorem Ls.stb {Φ : List V → Hp → Prop} (st : Stb Φ) : Stb (Ls Φ) := fun s ⟨l, xs, e, h, n, f⟩ => ⟨l, xs, e, s _ _ h, n, st s f⟩
theorem ev_cat {Φ Ψ : List V → Hp → Prop} (e : Ev p L t σ H (Ls Φ)) (st : Stb Φ) (r : ∀ H', Sit p L H' → Same (offs L H) (offs L H') → Ev p L u σ H' (Ls Ψ)) (st2 : Stb Ψ) : Ev p L (tOp rCat t u) σ H (fun v H' => ∃ l xs ys, v = .ref l ∧ H' l = some (.lst (xs ++ ys)) ∧ xs.length ≤ 1000 ∧ ys.length ≤ 1000 ∧ Φ xs H' ∧ Ψ ys H') :=
  fun Q q => e _ fun v H1 S1 k1 s1 ⟨l1, xs, e1, h1, n1, f1⟩ => r H1 S1 s1 _ fun w H2 S2 k2 s2 ⟨l2, ys, e2, h2, n2, f2⟩ => by
    refine ⟨l1, l2, xs, ys, e1, e2, offs_same _ _ (s2 _ _ h1), offs_same _ _ h2, by rw [sizeLine_eq]; omega, fun l nl => ?_⟩
    have sn := S2.same (.same (same_new (o := .lst (xs ++ ys)) nl))
    exact q _ _ (S2.new nl) ((k1.trans k2).trans (.same (same_new nl))) ((s1.trans s2).trans sn) ⟨l, xs, ys, rfl, offs_at upd_same (S2.fresh nl), n1, n2, st (s2.trans sn) f1, st2 sn f2⟩
end
end U

set_option Elab.async false
set_option linter.all false
set_option maxRecDepth 100000
set_option maxHeartbeats 4000000
/-! k22: the pairs, one by one. -/
namespace G22
open PySem PySem.Spec PyProof.Rows L2 U G
variable {K : PySem.W.Frag}
/-! ### what can be shown -/
section
variable {H : Hp}
theorem sw_int {i : Int} (h1 : -(10 ^ 70) < i) (h2 : i < 10 ^ 70) : Sw 0 0 K H (.int i) := ⟨_, .dp (.int i), fd_int h1 h2⟩
theorem sw_non : Sw 0 0 K H .non := ⟨_, .dp .non, ⟨by decide +kernel, by decide +kernel, by decide +kernel, by decide +kernel⟩⟩
theorem sw_bl (b : Bool) : Sw 0 0 K H (.bl b) := ⟨_, .dp (.bl b), by cases b <;> exact ⟨by decide +kernel, by decide +kernel, by decide +kernel, by decide +kernel⟩⟩
theorem sw_str0 : Sw 0 1 K H (.str "0") := ⟨_, .dp (.str "0"), ⟨by decide +kernel, by decide +kernel, by decide +kernel, by decide +kernel⟩⟩
theorem sw_list {l : Addr} {xs : List V} {m b N : Nat} (h : SqL K H l xs) (hn : xs.length ≤ N) (hx : ∀ x ∈ xs, Sw m b K H x) : Sw (m + 1) (N * (b + 1)) K H (.ref l) := by
  obtain ⟨ds, dq, dl, fd⟩ := dq_of hx
  exact ⟨_, .lst h dq, (fd_list fd).mono (Nat.le_refl _) (Nat.mul_le_mul_right _ (by rw [dl]; exact hn))⟩
theorem kv_parts {m b : Nat} : ∀ {kvs : List (PyData × PyData)}, (∀ p ∈ kvs, Fd m b p.1 ∧ Fd m b p.2) → PyData.showableKv kvs = true ∧ PyData.leavesShortKv 80 kvs = true ∧ PyData.depthKv kvs ≤ m ∧ PyData.bulkKv kvs ≤ kvs.length * (2 * b + 2)
  | [], _ => ⟨rfl, rfl, by rw [PyData.depthKv]; exact Nat.zero_le _, Nat.zero_le _⟩
  | (k, v) :: r, h => by
    obtain ⟨h1, h2, h3, h4⟩ := kv_parts (kvs := r) fun p hp => h p (List.mem_cons_of_mem _ hp)
    obtain ⟨fk, fv⟩ := h (k, v) (List.mem_cons_self ..)
    refine ⟨?_, ?_, ?_, ?_⟩
    · rw [PyData.showableKv, fk.sh, fv.sh, h1]
      rfl
    · rw [PyData.leavesShortKv, fk.lv, fv.lv, h2]
      rfl
    · rw [PyData.depthKv]
      exact Nat.max_le.mpr ⟨Nat.max_le.mpr ⟨fk.dp, fv.dp⟩, h3⟩
    · rw [PyData.bulkKv, List.length_cons, Nat.succ_mul]
      have a1 : k.bulk ≤ b := fk.bk
      have a2 : v.bulk ≤ b := fv.bk
      omega
theorem good12 {R : Rw} (g : Good R) (h : ∀ r ∈ R, r.1 ≤ 12) : R.length ≤ 12 := by
  have := nodup_len (n := 12) g.nd fun k hk => by
    obtain ⟨r, hr, rfl⟩ := List.mem_map.mp hk
    have := g.rng r hr
    have := h r hr
    omega
  rwa [List.length_map] at this
theorem rx_sw {v : V} {R : Rw} (h : Rx K H v R) : Sw 2 400 K H v := by
  obtain ⟨a, rfl, r⟩ := h.ex
  obtain ⟨kvs, e, p⟩ := r.ex
  obtain ⟨n, n13, w⟩ := h.wd
  have l12 := good12 r.ok h.few
  refine ⟨_, .dct e p, ?_⟩
  have each : ∀ q ∈ R.map (fun r => (PyData.int r.1, PyData.tuple (r.2.map PyData.int))), Fd 1 13 q.1 ∧ Fd 1 13 q.2 := fun q hq => by
    obtain ⟨r', hr, rfl⟩ := List.mem_map.mp hq
    have rg := r.ok.rng r' hr
    have := h.few r' hr
    refine ⟨(fd_int (by omega) (by omega)).mono (by decide) (by decide), (fd_tuple (m := 0) (b := 0) fun d hd => ?_).mono (by decide) ?_⟩
    · obtain ⟨x, hx, rfl⟩ := List.mem_map.mp hd
      have := h.sml r' hr x hx
      have e1 : (10 : Int) ^ 60 < 10 ^ 70 := by decide
      exact fd_int (by omega) (by omega)
    · rw [List.length_map, w r' hr]
      omega
  obtain ⟨h1, h2, h3, h4⟩ := kv_parts each
  rw [List.length_map] at h4
  refine ⟨h1, h2, ?_, ?_⟩
  · unfold rowsD
    rw [PyData.depth]
    omega
  · unfold rowsD
    rw [PyData.bulk]
    have : R.length * (2 * 13 + 2) ≤ 12 * 28 := Nat.mul_le_mul_right _ l12
    omega
theorem tk_int (i : Int) : Tk K H (.int i) := ⟨_, .base (.int i), by decide⟩
theorem tk_non : Tk K H .non := ⟨_, .base .non, by decide⟩
theorem tk_bl (b : Bool) : Tk K H (.bl b) := ⟨_, .base (.bl b), by decide⟩
theorem tk_str (x : Str) : Tk K H (.str x) := ⟨_, .base (.str x), by decide⟩
theorem tk_lst {l : Addr} {xs : List V} (h : H l = some (.lst xs)) : Tk K H (.ref l) := ⟨_, .base (.lst h), by decide⟩
theorem tk_tup {l : Addr} {xs : List V} (h : H l = some (.tup xs)) : Tk K H (.ref l) := ⟨_, .base (.tup h), by decide⟩
theorem tk_dct {l : Addr} {xs : List (Key × V)} (h : H l = some (.dK xs)) : Tk K H (.ref l) := ⟨_, .base (.dK h), by decide⟩
end
/-! ### pairs -/
section
variable {p : Addr} {L : List Addr} {H : Hp} {σ : L2.St} {z : Str} {b : Bool} {t t1 t2 t3 : TE} {ts : TA} {R A B : Rw} {n m : Nat} {c v : V}
def Pt (K : PySem.W.Frag) (b : Bool) (z : Str) (ps : List V) (H : Hp) : Prop := Wrd K H z ps b ∧ ps ≠ [] ∧ ps.length ≤ 3 ∧ ∀ x ∈ ps, Sw 8 40000 K H x
theorem Pt.stb : Stb (Pt K b z) := fun s ⟨h1, h2, h3, h4⟩ => ⟨h1.same s, h2, h3, fun x hx => (h4 x hx).same s⟩
theorem It.stb : Stb (It K b) := fun s h => h.same s
theorem Rx.stb : Stb (fun v H => Rx K H v R) := fun s h => h.same s
theorem ev_item (S : Sit p L H) (e : ∀ H', Sit p L H' → Same (offs L H) (offs L H') → EvA p L ts σ H' (Pt K b z)) : Ev p L (tTup (tCons (tC (.str z)) (tCons (tLst ts) tNil))) σ H (It K b) := by
  refine ev_imp (ev_tup (Ψ := fun vs H' => ∃ v r, vs = v :: r ∧ v = .str z ∧ ∃ w, r = [w] ∧ ∃ l ps, w = .ref l ∧ H' l = some (.lst ps) ∧ Pt K b z ps H') (eva_cons (ev_c S) (fun _ h => h) fun H' S' s' => eva1 (ev_lst (e H' S' s') Pt.stb fun vs H' h => by have := h.2.2.1; omega)) ?_ ?_) ?_
  · rintro vs H1 H2 s ⟨v, r, e1, e2, w, e3, l, ps, e4, h1, h2⟩
    exact ⟨v, r, e1, e2, w, e3, l, ps, e4, s _ _ h1, Pt.stb s h2⟩
  · rintro vs H1 ⟨v, r, rfl, rfl, w, rfl, _⟩
    show 2 ≤ 1000
    decide
  · rintro v H' _ ⟨l, vs, rfl, hl, v', r, rfl, rfl, w, rfl, l', ps, rfl, h1, h2, h3, h4, h5⟩
    exact ⟨l, z, l', ps, rfl, .inl (.inl hl), SqL.of h1, h3, h4, h2, h5⟩
theorem pt_copy (e1 : Ev p L t1 σ H (fun v H' => Rx K H' v R)) (h1 : b = true → R ≠ []) (h2 : b = false → R = []) : EvA p L (tCons t1 tNil) σ H (Pt K b "copied") := by
  refine eva_imp (eva1 e1) ?_
  rintro vs H' _ ⟨v, rfl, rx⟩
  have sw := rx_sw rx
  obtain ⟨a, rfl, r⟩ := rx.ex
  refine ⟨.copied r h1 h2, by simp, by show 1 ≤ 3; decide, fun x hx => ?_⟩
  rw [List.mem_singleton.mp hx]
  exact sw.mono (by decide) (by decide)
/-- columns for a cut -/
def Cl (K : PySem.W.Frag) (C : List V → Prop) (xs : List V) (H : Hp) : Prop := xs.length ≤ 30 ∧ (∀ v ∈ xs, Tk K H v ∧ Sw 4 100 K H v) ∧ C xs
theorem Cl.stb {C : List V → Prop} : Stb (Cl K C) := fun s ⟨h1, h2, h3⟩ => ⟨h1, fun v hv => ⟨(h2 v hv).1.same s, (h2 v hv).2.same s⟩, h3⟩
theorem pt_cut (e1 : Ev p L t1 σ H (fun v H' => Rx K H' v R)) (w : Wd R n) (e2 : ∀ H', Sit p L H' → Same (offs L H) (offs L H') → Ev p L t2 σ H' (Ls (Cl K fun xs => (b = true → OkCut R n xs) ∧ (b = false → ¬ OkCut R n xs)))) : EvA p L (tCons t1 (tCons t2 tNil)) σ H (Pt K b "cut") := by
  refine eva_imp (eva_cons e1 Rx.stb fun H' S' s' => eva1 (e2 H' S' s')) ?_
  rintro vs H' _ ⟨v, r, rfl, rx, u, rfl, l, xs, rfl, hl, _, x30, all, h1, h2⟩
  have sw := rx_sw rx
  obtain ⟨a, rfl, ra⟩ := rx.ex
  have s2 : Sw 5 3030 K H' (.ref l) := sw_list (N := 30) (SqL.of hl) x30 fun x hx => (all x hx).2
  refine ⟨.cut ra w (SqL.of hl) (fun x hx => (all x hx).1) h1 h2, by simp, by show 2 ≤ 3; decide, fun x hx => ?_⟩
  rcases List.mem_cons.mp hx with rfl | hx
  · exact sw.mono (by decide) (by decide)
  · rw [List.mem_singleton.mp hx]
    exact s2.mono (by decide) (by decide)
theorem pt_join (e1 : Ev p L t1 σ H (fun v H' => Rx K H' v A)) (w : Wd A n) (n1 : 1 ≤ n) (e2 : ∀ H', Sit p L H' → Same (offs L H) (offs L H') → Ev p L t2 σ H' (fun v H' => ∃ B, Rx K H' v B ∧ ∃ m, Wd B m ∧ (b = true → OkJoin A B n m) ∧ (b = false → ¬ OkJoin A B n m))) : EvA p L (tCons t1 (tCons t2 tNil)) σ H (Pt K b "joined") := by
  refine eva_imp (eva_cons e1 Rx.stb fun H' S' s' => eva1 (e2 H' S' s')) ?_
  rintro vs H' _ ⟨v, r, rfl, rx, u, rfl, B, rx2, m, w2, h1, h2⟩
  have sw := rx_sw rx
  have sw2 := rx_sw rx2
  obtain ⟨a, rfl, ra⟩ := rx.ex
  obtain ⟨a2, rfl, ra2⟩ := rx2.ex
  refine ⟨.joined ra ra2 w w2 n1 h1 h2, by simp, by show 2 ≤ 3; decide, fun x hx => ?_⟩
  rcases List.mem_cons.mp hx with rfl | hx
  · exact sw.mono (by decide) (by decide)
  · rw [List.mem_singleton.mp hx]
    exact sw2.mono (by decide) (by decide)
/-- rows for a sum -/
def Sr (K : PySem.W.Frag) (C : List Rw → Prop) (xs : List V) (H : Hp) : Prop := xs.length ≤ 30 ∧ ∃ Rs, Paired (Rx K H) xs Rs ∧ C Rs
theorem Sr.stb {C : List Rw → Prop} : Stb (Sr K C) := fun s ⟨h1, Rs, h2, h3⟩ => ⟨h1, Rs, L2.Paired.mapP h2 fun _ _ z => z.same s, h3⟩
def Vl (K : PySem.W.Frag) (c : V) (v : V) (H : Hp) : Prop := v = c ∧ Tk K H c ∧ Sw 4 100 K H c
theorem Vl.stb : Stb (Vl K c) := fun s ⟨h1, h2, h3⟩ => ⟨h1, h2.same s, h3.same s⟩
theorem pt_sum (e1 : Ev p L t1 σ H (Ls (Sr K fun Rs => SumW c v Rs b))) (e2 : ∀ H', Sit p L H' → Same (offs L H) (offs L H') → Ev p L t2 σ H' (Vl K c)) (e3 : ∀ H', Sit p L H' → Same (offs L H) (offs L H') → Ev p L t3 σ H' (Vl K v)) : EvA p L (tCons t1 (tCons t2 (tCons t3 tNil))) σ H (Pt K b "summed") := by
  refine eva_imp (eva_cons e1 (fun s h => Ls.stb (Φ := Sr K fun Rs => SumW c v Rs b) (fun s h => Sr.stb s h) s h) fun H1 S1 s1 => eva_cons (e2 H1 S1 s1) Vl.stb fun H2 S2 s2 => eva1 (e3 H2 S2 (s1.trans s2))) ?_
  rintro vs H' _ ⟨x, r, rfl, ⟨l, xs, rfl, hl, _, x30, Rs, pr, hs⟩, y, r2, rfl, ⟨rfl, t2, w2⟩, u, rfl, rfl, t3, w3⟩
  have s2 : Sw 3 12030 K H' (.ref l) := sw_list (m := 2) (b := 400) (N := 30) (SqL.of hl) x30 fun x hx => by
    obtain ⟨R, rx⟩ := paired_left pr hx
    exact rx_sw rx
  refine ⟨.summed (SqL.of hl) pr t2 t3 hs, by simp, Nat.le_refl 3, fun x hx => ?_⟩
  simp only [List.mem_cons, List.not_mem_nil, or_false] at hx
  rcases hx with rfl | rfl | rfl
  · exact s2.mono (by decide) (by decide)
  · exact w2.mono (by decide) (by decide)
  · exact w3.mono (by decide) (by decide)
/-! ### lists of pairs -/
def All (K : PySem.W.Frag) (b : Bool) (n : Nat) (vs : List V) (H : Hp) : Prop := vs.length ≤ n ∧ ∀ v ∈ vs, It K b v H
theorem All.stb : Stb (All K b n) := fun s ⟨h1, h2⟩ => ⟨h1, fun v hv => (h2 v hv).same s⟩
theorem all_nil (S : Sit p L H) : EvA p L tNil σ H (All K b 0) := eva_imp (eva_nil S) fun vs H' _ e => by
  rw [e]
  exact ⟨Nat.le_refl _, fun v hv => (List.not_mem_nil hv).elim⟩
theorem all_cons (e : Ev p L t σ H (It K b)) (r : ∀ H', Sit p L H' → Same (offs L H) (offs L H') → EvA p L ts σ H' (All K b n)) : EvA p L (tCons t ts) σ H (All K b (n + 1)) := eva_imp (eva_cons e It.stb r) fun vs H' _ ⟨v, r, e, h1, h2, h3⟩ => by
  rw [e]
  refine ⟨by rw [List.length_cons]; omega, fun x hx => ?_⟩
  rcases List.mem_cons.mp hx with rfl | hx
  · exact h1
  · exact h3 x hx
/-! ### parts of pairs -/
theorem ev_rows {i : Nat} {a : Addr} (S : Sit p L H) (h : σ[i]? = some (some (.ref a))) (rx : Rx K (offs L H) (.ref a) R) : Ev p L (tVar i) σ H (fun v H' => Rx K H' v R) := ev_imp (ev_var S h) fun v H' s e => by
  rw [e]
  exact rx.same s
theorem ev_none (S : Sit p L H) : Ev p L tDNewK σ H (fun v H' => Rx K H' v []) := ev_imp (ev_dnew S) fun v H' _ ⟨a, e, h⟩ => ⟨⟨a, e, ⟨⟨[], h, .nil⟩, .of List.nodup_nil (by simp)⟩⟩, (fun r hr => (List.not_mem_nil hr).elim), (fun r hr => (List.not_mem_nil hr).elim), 1, by decide, fun r hr => (List.not_mem_nil hr).elim⟩
theorem wd_nil {n : Nat} : Wd [] n := fun r hr => (List.not_mem_nil hr).elim
theorem ls_of {Φ : List V → Hp → Prop} (e : EvA p L ts σ H Φ) (st : Stb Φ) (len : ∀ vs H', Φ vs H' → vs.length ≤ 1000) : Ev p L (tLst ts) σ H (Ls Φ) := ev_imp (ev_lst e st len) fun v H' _ ⟨l, vs, e, h, f⟩ => ⟨l, vs, e, h, len _ _ f, f⟩
theorem ls_cat {Φ Ψ X : List V → Hp → Prop} {u : TE} (e : Ev p L t σ H (Ls Φ)) (st : Stb Φ) (r : ∀ H', Sit p L H' → Same (offs L H) (offs L H') → Ev p L u σ H' (Ls Ψ)) (st2 : Stb Ψ) (f : ∀ xs ys H', Φ xs H' → Ψ ys H' → (xs ++ ys).length ≤ 1000 ∧ X (xs ++ ys) H') : Ev p L (tOp rCat t u) σ H (Ls X) :=
  ev_imp (ev_cat e st r st2) fun v H' _ ⟨l, xs, ys, e, h, _, _, f1, f2⟩ => ⟨l, _, e, h, (f xs ys H' f1 f2).1, (f xs ys H' f1 f2).2⟩
theorem ls_var {Φ : List V → Hp → Prop} {i : Nat} {l : Addr} {xs : List V} (S : Sit p L H) (h : σ[i]? = some (some (.ref l))) (hl : offs L H l = some (.lst xs)) (len : xs.length ≤ 1000) (st : Stb Φ) (f : Φ xs (offs L H)) : Ev p L (tVar i) σ H (Ls Φ) := ev_imp (ev_var S h) fun v H' s e => ⟨l, xs, e, s _ _ hl, len, st s f⟩
theorem ls_cut {Φ : List V → Hp → Prop} {i : Nat} {l : Addr} {xs : List V} {lo hi : TO} {ol oh : Option Int} (S : Sit p L H) (h : σ[i]? = some (some (.ref l))) (hl : offs L H l = some (.lst xs)) (len : xs.length ≤ 1000)
    (hlo : ∀ H (Q : Option Int → Hp → Prop), Q ol H → lo σ H Q) (hhi : ∀ H (Q : Option Int → Hp → Prop), Q oh H → hi σ H Q) (st : Stb Φ) (f : Φ (cutV xs ol oh) (offs L H)) : Ev p L (tSl (rSlL K) (tVar i) lo hi) σ H (Ls Φ) := fun Q q => by
  refine ⟨_, h, hlo _ _ (hhi _ _ ⟨l, xs, rfl, SqL.of (offs_same _ _ hl), fun l2 n2 => ?_⟩)⟩
  have sn := S.same (.same (same_new (o := .lst (cutV xs ol oh)) n2))
  exact q _ _ (S.new n2) (.same (same_new n2)) sn ⟨l2, _, rfl, offs_at upd_same (S.fresh n2), Nat.le_trans (cutV_length _ _ _) len, st sn f⟩
theorem ls_rep {Φ X : List V → Hp → Prop} {k : Int} (e : Ev p L t σ H (Ls Φ)) (st : Stb Φ) (k0 : 0 ≤ k) (k1 : k < 1000) (f : ∀ xs H', Φ xs H' → xs.length * k.toNat ≤ 1000 ∧ X ((List.replicate k.toNat xs).flatten) H') : Ev p L (tOp rRep t (tC (.int k))) σ H (Ls X) := fun Q q => e _ fun v H1 S1 kp s1 ⟨l, xs, e1, h1, _, f1⟩ => by
  obtain ⟨f2, f3⟩ := f xs _ f1
  refine ⟨l, k, xs, e1, rfl, offs_same _ _ h1, by omega, by omega, by rw [sizeLine_eq]; omega, fun l2 n2 => ?_⟩
  have sn := S1.same (.same (same_new (o := .lst (List.replicate k.toNat xs).flatten) n2))
  obtain ⟨_, f4⟩ := f xs _ (st sn f1)
  have ln : ((List.replicate k.toNat xs).flatten).length ≤ 1000 := by
    rw [List.length_flatten, List.map_replicate, List.sum_replicate_nat]
    rw [Nat.mul_comm]
    exact f2
  exact q _ _ (S1.new n2) (kp.trans (.same (same_new n2))) (s1.trans sn) ⟨l2, _, rfl, offs_at upd_same (S1.fresh n2), ln, f4⟩
end
end G22

set_option Elab.async false
set_option linter.all false
set_option maxRecDepth 100000
set_option maxHeartbeats 4000000
/-! k22: no column; drawn rows and drawn columns. -/
namespace G22
open PySem PySem.Spec PyProof.Rows L2 U G
variable {K : PySem.W.Frag}
theorem go_name {i : Nat} {v : V} {σ : L2.St} {H : Hp} {Q : L2.St → Hp → Prop} (h : Q (σ.set i (some v)) H) : gName i v σ H Q := h
theorem go_seq {a b : TS} {D : Ends} {σ : L2.St} {H : Hp} (h : a { D with nx := b D } σ H) : tSeq a b D σ H := h
theorem go_asg {te : TE} {g : TG} {D : Ends} {σ : L2.St} {H : Hp} (h : te σ H fun x H1 => g x σ H1 D.nx) : tAsg te g D σ H := h
section
variable {p : Addr} {L : List Addr} {H : Hp} {σ : L2.St} {t : TE} {ts : TA} {n k : Nat} {v : V}
/-- an expression that lays nothing -/
def Calm (t : TE) (σ : L2.St) (v : V) : Prop := ∀ (H : Hp) (Q : VK), Q v H → t σ H Q
theorem ev_calm (S : Sit p L H) (h : Calm t σ v) : Ev p L t σ H (fun x _ => x = v) := fun Q q => h H Q (q v H S Keep.refl (Same.refl _) rfl)
theorem sit_one (P : PurAt H p) : Sit p [p] H := ⟨P, List.mem_singleton.mpr rfl, fun b hb => by
  rw [List.mem_singleton.mp hb]
  obtain ⟨x, y, e, _⟩ := P
  rw [e]
  exact fun z => by cases z⟩
def Bads (K : PySem.W.Frag) (n k : Nat) (vs : List V) (H : Hp) : Prop := vs.length = k ∧ ∀ v ∈ vs, Bad K n v H
theorem Bads.stb : Stb (Bads K n k) := fun s ⟨h1, h2⟩ => ⟨h1, fun v hv => (h2 v hv).same s⟩
theorem bads_nil (S : Sit p L H) : EvA p L tNil σ H (Bads K n 0) := eva_imp (eva_nil S) fun vs H' _ e => by
  rw [e]
  exact ⟨rfl, fun v hv => (List.not_mem_nil hv).elim⟩
theorem bads_cons (e : Ev p L t σ H (Bad K n)) (r : ∀ H', Sit p L H' → Same (offs L H) (offs L H') → EvA p L ts σ H' (Bads K n k)) : EvA p L (tCons t ts) σ H (Bads K n (k + 1)) := eva_imp (eva_cons e (fun s h => h.same s) r) fun vs H' _ ⟨v, r, e, h1, h2, h3⟩ => by
  rw [e]
  refine ⟨by rw [List.length_cons, h2], fun x hx => ?_⟩
  rcases List.mem_cons.mp hx with rfl | hx
  · exact h1
  · exact h3 x hx
theorem bad_int {i : Int} (h : isCol (.int i) n = false) (h1 : -(10 ^ 70) < i) (h2 : i < 10 ^ 70) : Bad K n (.int i) H := ⟨tk_int i, h, nofun, (sw_int h1 h2).mono (by decide) (by decide)⟩
end
theorem noCol {n : Nat} {i : Int} (h : i < 0 ∨ (n : Int) ≤ i) : isCol (.int i) n = false := by
  show (decide (0 ≤ i) && decide (i < (n : Int))) = false
  rcases h with h | h
  · rw [decide_eq_false (by omega)]
    rfl
  · rw [decide_eq_false (show ¬ i < (n : Int) by omega), Bool.and_false]
theorem pure__law_no_column (vs : List V) (H : Hp) (Q : VK) (E : XK) (h : sp__law_no_column K vs H Q E) : t__law_no_column K { nx := fun _ H' => Q .non H', rt := Q } (start N__law_no_column vs) H := by
  unfold sp__law_no_column at h
  split at h
  · rename_i p w
    obtain ⟨n, rfl, n1, n11, P0, q⟩ := h
    refine ⟨_, rfl, _, _, rfl, rfl, ⟨by decide, by decide, by decide⟩, P0, by decide, by decide, fun d H1 d0 d1 P1 k1 => ?_⟩
    have e40 : (10 : Int) ^ (40 : Int).toNat = 10000000000000000000000000000000000000000 := by decide
    rw [e40] at d1
    have e70 : (10 : Int) ^ 70 = 10000000000000000000000000000000000000000000000000000000000000000000000 := by decide
    have S1 := sit_one P1
    refine go_name ?_
    dsimp only
    refine go_seq ?_
    refine go_asg ?_
    refine (ls_of (Φ := Bads K n 11) (p := p) (L := [p]) (H := H1) ?_ Bads.stb (fun vs H' h => by rw [h.1]; decide)) _ fun v H2 S2 k2 s2 ⟨l, xs, e, hl, _, hb⟩ => ?_
    · refine bads_cons (ev_imp (ev_calm (v := .int (n : Int)) S1 fun H Q q => ⟨_, rfl, q⟩) fun v H' _ e => e ▸ bad_int (noCol (.inr (by omega))) (by omega) (by omega)) fun H2 S2 _ => ?_
      refine bads_cons (ev_imp (ev_calm (v := .int (-1)) S2 fun H Q q => ⟨_, rfl, q⟩) fun v H' _ e => e ▸ bad_int (noCol (.inl (by omega))) (by omega) (by omega)) fun H2 S2 _ => ?_
      refine bads_cons (ev_imp (ev_calm (v := .int ((n : Int) + d)) S2 fun H Q q => ⟨_, rfl, _, rfl, _, _, rfl, rfl, q⟩) fun v H' _ e => e ▸ bad_int (noCol (.inr (by omega))) (by omega) (by omega)) fun H2 S2 _ => ?_
      refine bads_cons (ev_imp (ev_calm (v := .int (-1 - d)) S2 fun H Q q => ⟨_, rfl, _, rfl, _, _, rfl, rfl, q⟩) fun v H' _ e => e ▸ bad_int (noCol (.inl (by omega))) (by omega) (by omega)) fun H2 S2 _ => ?_
      refine bads_cons (ev_imp (ev_calm (v := .int (-(n : Int))) S2 fun H Q q => ⟨_, rfl, _, rfl, q⟩) fun v H' _ e => e ▸ bad_int (noCol (.inl (by omega))) (by omega) (by omega)) fun H2 S2 _ => ?_
      refine bads_cons (ev_imp (ev_c (v := .bl true) S2) fun v H' _ e => e ▸ ⟨tk_bl _, rfl, nofun, (sw_bl _).mono (by decide) (by decide)⟩) fun H2 S2 _ => ?_
      refine bads_cons (ev_imp (ev_c (v := .bl false) S2) fun v H' _ e => e ▸ ⟨tk_bl _, rfl, nofun, (sw_bl _).mono (by decide) (by decide)⟩) fun H2 S2 _ => ?_
      refine bads_cons (ev_imp (ev_c (v := .str "0") S2) fun v H' _ e => e ▸ ⟨tk_str _, rfl, nofun, sw_str0.mono (by decide) (by decide)⟩) fun H2 S2 _ => ?_
      refine bads_cons (ev_imp (ev_tup (Ψ := fun vs _ => vs = [V.int 0]) (fun Q q => q _ _ S2 Keep.refl (Same.refl _) rfl) (fun _ h => h) (fun vs H' h => by rw [h]; decide)) fun v H' _ ⟨l, vs, e, h, e2⟩ => ?_) fun H2 S2 _ => ?_
      · subst e
        subst e2
        refine ⟨tk_tup h, rfl, nofun, ⟨_, .dp (.tup (.inl (.inl h)) (.cons (.int 0) .nil)), ⟨by decide +kernel, by decide +kernel, by decide +kernel, by decide +kernel⟩⟩⟩
      refine bads_cons (ev_imp (ev_lst (Ψ := fun vs _ => vs = [V.int 0]) (fun Q q => q _ _ S2 Keep.refl (Same.refl _) rfl) (fun _ h => h) (fun vs H' h => by rw [h]; decide)) fun v H' _ ⟨l, vs, e, h, e2⟩ => ?_) fun H2 S2 _ => ?_
      · subst e
        subst e2
        refine ⟨tk_lst h, rfl, nofun, ⟨_, .dp (.lst (SqL.of h) (.cons (.int 0) .nil)), ⟨by decide +kernel, by decide +kernel, by decide +kernel, by decide +kernel⟩⟩⟩
      refine bads_cons (ev_imp (ev_none (K := K) S2) fun v H' _ rx => ?_) fun H2 S2 _ => bads_nil S2
      obtain ⟨a, e, r⟩ := rx.ex
      subst e
      obtain ⟨kvs, e, pr⟩ := r.ex
      cases pr
      refine ⟨tk_dct e, rfl, nofun, ⟨_, .dct e .nil, ⟨by decide +kernel, by decide +kernel, by decide +kernel, by decide +kernel⟩⟩⟩
    · subst e
      refine ⟨_, rfl, _, rfl, S2.pur, by decide, by decide, fun i H3 i0 i11 P3 k3 => ?_⟩
      have s3 := S2.same k3
      obtain ⟨v, ev, bv⟩ := menu (fun v => Bad K n v (offs [p] H2)) hb.1 i0 i11 hb.2
      refine ⟨l, xs, i, v, rfl, rfl, SqL.of (offs_same _ _ (s3 _ _ hl)), ev, ?_⟩
      refine q v H3 ?_ P3 ((k1.trans k2).trans k3)
      rw [off_offs]
      exact bv.same s3
  · exact h.elim
end G22

set_option Elab.async false
set_option linter.all false
set_option maxRecDepth 100000
set_option maxHeartbeats 4000000
/-! k22: the lists of pairs. -/
namespace G22
open PySem PySem.Spec PyProof.Rows L2 U G
variable {K : PySem.W.Frag}
section
variable {p a : Addr} {L : List Addr} {H : Hp} {σ : L2.St} {t u : TE} {ts : TA} {R : Rw} {n m : Nat} {c v : V} {b : Bool}
theorem paired_rep {α β : Type} {P : α → β → Prop} {x : α} {y : β} (h : P x y) : ∀ k : Nat, Paired P (List.replicate k x) (List.replicate k y)
  | 0 => .nil
  | k + 1 => .cons h (paired_rep h k)
theorem paired_map {α β : Type} {P : α → β → Prop} {f : α → β} : ∀ {xs : List α}, (∀ x ∈ xs, P x (f x)) → Paired P xs (xs.map f)
  | [], _ => .nil
  | x :: r, h => .cons (h x (List.mem_cons_self ..)) (paired_map fun y hy => h y (List.mem_cons_of_mem _ hy))
/-- a pairing in which one is told -/
theorem paired_with {α β : Type} {P : α → β → Prop} {xs : List α} {x0 : α} {y0 : β} (h0 : x0 ∈ xs) (p0 : P x0 y0) (h : ∀ x ∈ xs, ∃ y, P x y) : ∃ ys, Paired P xs ys ∧ y0 ∈ ys := by
  classical
  refine ⟨xs.map fun x => if x = x0 then y0 else if hx : x ∈ xs then (h x hx).choose else y0, paired_map fun x hx => ?_, ?_⟩
  · by_cases e : x = x0
    · rw [if_pos e, e]
      exact p0
    · rw [if_neg e, dif_pos hx]
      exact (h x hx).choose_spec
  · exact List.mem_map.mpr ⟨x0, h0, by rw [if_pos rfl]⟩
theorem no_row {c v : V} (ne : R ≠ []) (w : Wd R n) (h : isCol c n = true → v = .non ∨ isCol v n = true → False) : ∀ n', Wd R n' → ¬ OkRow c v R n' := fun n' w' o => by
  rw [← wd_one ne w w'] at o
  exact h o.col o.by_
theorem col_nat {i : Nat} (h : i < n) : isCol (.int (i : Int)) n = true := by
  show (decide (0 ≤ (i : Int)) && decide ((i : Int) < (n : Int))) = true
  rw [decide_eq_true (by omega), decide_eq_true (by omega)]
  rfl
/-! ### lists of columns -/
theorem cl_of {C : List V → Prop} {xs : List V} (l : xs.length ≤ 30) (h : ∀ v ∈ xs, Tk K H v ∧ Sw 4 100 K H v) (hc : C xs) : Cl K C xs H := ⟨l, h, hc⟩
theorem ev_cols {C : List V → Prop} {vs : List V} (e : EvA p L ts σ H (fun x _ => x = vs)) (l : vs.length ≤ 30) (h : ∀ v ∈ vs, ∀ H, Tk K H v ∧ Sw 4 100 K H v) (hc : C vs) : Ev p L (tLst ts) σ H (Ls (Cl K C)) :=
  ls_of (eva_imp e fun v H' _ e => by rw [e]; exact ⟨l, fun v hv => h v hv H', hc⟩) Cl.stb fun vs H' h => Nat.le_trans h.1 (by decide)
theorem eva_one (S : Sit p L H) (h : Calm t σ v) : EvA p L (tCons t tNil) σ H (fun x _ => x = [v]) := eva_imp (eva1 (ev_calm S h)) fun vs H' _ ⟨x, e, e2⟩ => by rw [e, e2]
theorem int_ok {i : Int} (h1 : -100 < i) (h2 : i < 100) (H : Hp) : Tk K H (.int i) ∧ Sw 4 100 K H (.int i) := by
  have e : (10 : Int) ^ 70 > 100 := by decide
  exact ⟨tk_int i, (sw_int (by omega) (by omega)).mono (by decide) (by decide)⟩
theorem ev_colsRep {C : List V → Prop} {i k : Int} (S : Sit p L H) (h : Calm t σ (.int i)) (i1 : -100 < i) (i2 : i < 100) (k0 : 0 ≤ k) (k1 : k ≤ 30) (hc : C (List.replicate k.toNat (.int i))) : Ev p L (tOp rRep (tLst (tCons t tNil)) (tC (.int k))) σ H (Ls (Cl K C)) :=
  ls_rep (Φ := Cl K fun xs => xs = [.int i]) (ev_cols (eva_one S h) (by show 1 ≤ 30; decide) (fun v hv H => by rw [List.mem_singleton.mp hv]; exact int_ok i1 i2 H) rfl) Cl.stb k0 (by omega) fun xs H' ⟨_, _, e⟩ => by
    subst e
    refine ⟨by show 1 * k.toNat ≤ 1000; omega, ?_⟩
    rw [List.flatten_replicate_singleton]
    exact ⟨by rw [List.length_replicate]; omega, fun v hv => by rw [(List.mem_replicate.mp hv).2]; exact int_ok i1 i2 H', hc⟩
/-- something put into a list at a place -/
theorem ev_ins {Ψ : List V → Hp → Prop} {i j : Nat} {l : Addr} {xs : List V} {k : Int} (S : Sit p L H) (hi : σ[i]? = some (some (.ref l))) (hj : σ[j]? = some (some (.int k))) (hl : offs L H l = some (.lst xs)) (len : xs.length ≤ 12)
    (e : ∀ H', Sit p L H' → Same (offs L H) (offs L H') → EvA p L ts σ H' Ψ) (st : Stb Ψ) (lm : ∀ vs H', Ψ vs H' → vs.length ≤ 6) :
    Ev p L (tOp rCat (tOp rCat (tSl (rSlL K) (tVar i) tNoPart (tPart (tVar j))) (tLst ts)) (tSl (rSlL K) (tVar i) (tPart (tVar j)) tNoPart)) σ H (Ls fun ys H' => ∃ x1 mid x2, ys = x1 ++ mid ++ x2 ∧ ys.length ≤ 30 ∧ (∀ x ∈ x1, x ∈ xs) ∧ (∀ x ∈ x2, x ∈ xs) ∧ Ψ mid H') := by
  have c1 : ∀ lo hi, (∀ x ∈ cutV xs lo hi, x ∈ xs) ∧ (cutV xs lo hi).length ≤ 12 := fun lo hi => ⟨fun x hx => List.mem_of_mem_drop (List.mem_of_mem_take hx), Nat.le_trans (cutV_length _ _ _) len⟩
  have pure_st : ∀ {α : Type} {Φ : α → Prop}, Stb (fun (v : α) (_ : Hp) => Φ v) := fun _ h => h
  refine ls_cat (Φ := fun ys H' => ∃ x1 mid, ys = x1 ++ mid ∧ x1.length ≤ 12 ∧ mid.length ≤ 6 ∧ (∀ x ∈ x1, x ∈ xs) ∧ Ψ mid H') (Ψ := fun ys _ => ys.length ≤ 12 ∧ ∀ x ∈ ys, x ∈ xs) ?_ ?_ ?_ ?_ ?_
  · refine ls_cat (Φ := fun ys _ => ys.length ≤ 12 ∧ ∀ x ∈ ys, x ∈ xs) (Ψ := Ψ) ?_ (fun _ h => h) ?_ st ?_
    · exact ls_cut (ol := none) (oh := some k) S hi hl (by omega) (fun H Q q => q) (fun H Q q => ⟨_, hj, _, rfl, q⟩) (fun _ h => h) ⟨(c1 _ _).2, (c1 _ _).1⟩
    · exact fun H' S' s' => ls_of (e H' S' s') st fun vs H h => Nat.le_trans (lm vs H h) (by decide)
    · exact fun xs ys H' h1 h2 => ⟨by rw [List.length_append]; have := h1.1; have := lm _ _ h2; omega, _, _, rfl, h1.1, lm _ _ h2, h1.2, h2⟩
  · exact fun s ⟨x1, mid, h1, h2, h3, h4, h5⟩ => ⟨x1, mid, h1, h2, h3, h4, st s h5⟩
  · exact fun H' S' s' => ls_cut (ol := some k) (oh := none) S' hi (s' _ _ hl) (by omega) (fun H Q q => ⟨_, hj, _, rfl, q⟩) (fun H Q q => q) (fun _ h => h) ⟨(c1 _ _).2, (c1 _ _).1⟩
  · exact fun _ h => h
  · rintro ys zs H' ⟨x1, mid, rfl, h1, h2, h3, h4⟩ ⟨h5, h6⟩
    exact ⟨by simp only [List.length_append]; omega, x1, mid, zs, rfl, by simp only [List.length_append]; omega, h3, h6, h4⟩
/-! ### lists of rows -/
theorem eva_row {i : Nat} (S : Sit p L H) (h : σ[i]? = some (some (.ref a))) (rx : Rx K (offs L H) (.ref a) R) : EvA p L (tCons (tVar i) tNil) σ H (fun vs H' => vs = [.ref a] ∧ Rx K H' (.ref a) R) := eva_imp (eva1 (ev_var S h)) fun vs H' s ⟨x, e, e2⟩ => ⟨by rw [e, e2], rx.same s⟩
theorem row_stb : Stb (fun (vs : List V) (H' : Hp) => vs = [.ref a] ∧ Rx K H' (.ref a) R) := fun s h => ⟨h.1, h.2.same s⟩
theorem sr_one {C : List Rw → Prop} {i : Nat} (S : Sit p L H) (h : σ[i]? = some (some (.ref a))) (rx : Rx K (offs L H) (.ref a) R) (hc : C [R]) : Ev p L (tLst (tCons (tVar i) tNil)) σ H (Ls (Sr K C)) :=
  ls_of (eva_imp (eva_row S h rx) fun vs H' _ ⟨e, r⟩ => by rw [e]; exact ⟨by show 1 ≤ 30; decide, [R], .cons r .nil, hc⟩) Sr.stb fun vs H' h => Nat.le_trans h.1 (by decide)
theorem sr_rep {C : List Rw → Prop} {i : Nat} {k : Int} (S : Sit p L H) (h : σ[i]? = some (some (.ref a))) (rx : Rx K (offs L H) (.ref a) R) (k0 : 0 ≤ k) (k1 : k ≤ 30) (hc : C (List.replicate k.toNat R)) : Ev p L (tOp rRep (tLst (tCons (tVar i) tNil)) (tC (.int k))) σ H (Ls (Sr K C)) :=
  ls_rep (Φ := fun vs H' => vs = [.ref a] ∧ Rx K H' (.ref a) R) (ls_of (eva_row S h rx) row_stb fun vs H' h => by rw [h.1]; show 1 ≤ 1000; decide) row_stb k0 (by omega) fun xs H' ⟨e, r⟩ => by
    subst e
    refine ⟨by show 1 * k.toNat ≤ 1000; omega, ?_⟩
    rw [List.flatten_replicate_singleton]
    exact ⟨by rw [List.length_replicate]; omega, _, paired_rep r _, hc⟩
theorem sr_nil {C : List Rw → Prop} (S : Sit p L H) (hc : C []) : Ev p L (tLst tNil) σ H (Ls (Sr K C)) :=
  ls_of (eva_imp (eva_nil S) fun vs H' _ e => by rw [e]; exact ⟨by decide, [], .nil, hc⟩) Sr.stb fun vs H' h => Nat.le_trans h.1 (by decide)
/-! ### values -/
theorem vl_calm (S : Sit p L H) (h : Calm t σ c) (hc : ∀ H, Tk K H c ∧ Sw 4 100 K H c) : Ev p L t σ H (Vl K c) := ev_imp (ev_calm S h) fun v H' _ e => ⟨e, hc H'⟩
theorem ok_non (H : Hp) : Tk K H .non ∧ Sw 4 100 K H .non := ⟨tk_non, sw_non.mono (by decide) (by decide)⟩
theorem ok_bl (b : Bool) (H : Hp) : Tk K H (.bl b) ∧ Sw 4 100 K H (.bl b) := ⟨tk_bl b, (sw_bl b).mono (by decide) (by decide)⟩
theorem vl_bad {i : Nat} (S : Sit p L H) (h : σ[i]? = some (some c)) (hb : Bad K n c (offs L H)) : Ev p L (tVar i) σ H (Vl K c) := ev_imp (ev_var S h) fun v H' s e => ⟨e, hb.tk.same s, (hb.sw.mono (by decide) (by decide)).same s⟩
/-! ### drawn rows -/
theorem rows_offs (hL : ∀ b ∈ L, ∃ xs, H b = some (.lst xs)) (r : RowsAt K H a R) : RowsAt K (offs L H) a R := by
  have no : ∀ {b o}, H b = some o → (∀ xs, o ≠ .lst xs) → b ∉ L := fun {b o} h ho z => by
    obtain ⟨xs, e⟩ := hL b z
    rw [h] at e
    exact ho xs (Option.some.inj e)
  obtain ⟨kvs, e, pr⟩ := r.ex
  refine ⟨⟨kvs, offs_at e (no e fun xs z => by cases z), L2.Paired.mapP pr fun kv r ⟨h1, t, h2, h3⟩ => ⟨h1, t, h2, ?_⟩⟩, r.ok⟩
  rcases h3 with (h3 | ⟨o, h3⟩) | h3
  · exact .inl (.inl (offs_at h3 (no h3 fun xs z => by cases z)))
  · exact .inl (.inr ⟨o, offs_at h3 (no h3 fun xs z => by cases z)⟩)
  · exact .inr h3
theorem lists_keep {H' : Hp} (hL : ∀ b ∈ L, ∃ xs, H b = some (.lst xs)) (P : PurAt H' p) (k : Keep [p] H H') : ∀ b ∈ L, ∃ xs, H' b = some (.lst xs) := fun b hb => by
  by_cases e : b = p
  · obtain ⟨x, y, h, _⟩ := P
    rw [e]
    exact ⟨_, h⟩
  · obtain ⟨xs, h⟩ := hL b hb
    exact ⟨xs, k.k _ _ h (by simp [e])⟩
theorem ev_drawn {i : Nat} (S : Sit p L H) (hL : ∀ b ∈ L, ∃ xs, H b = some (.lst xs)) (h : σ[i]? = some (some (.ref p))) (hm : Calm t σ (.int (m : Int))) (m13 : m ≤ 13) : Ev p L (tCl (sp__law_rows K) [] ES0 (tCons (tVar i) (tCons t tNil))) σ H (fun v H' => ∃ R, Rx K H' v R ∧ Wd R m ∧ R ≠ []) := fun Q q => by
  refine ⟨_, h, hm _ _ ⟨S.pur, m, rfl, by omega, fun a R H' ra w ne few sml P na k => ?_⟩⟩
  exact q _ _ (S.keep P k) k (S.same k) ⟨R, ⟨⟨a, rfl, rows_offs (lists_keep hL P k) ra⟩, sml, few, m, m13, w⟩, w, ne⟩
end
/-! ### told -/
theorem pure__law_let (vs : List V) (H : Hp) (Q : VK) (E : XK) (h : sp__law_let K vs H Q E) : t__law_let K { nx := fun _ H' => Q .non H', rt := Q } (start N__law_let vs) H := by
  unfold sp__law_let at h
  split at h
  · rename_i p a w
    obtain ⟨EK, R, n, rfl, P0, rx, wd, ne, n1, n11, q⟩ := h
    rw [off_offs] at rx
    have S0 := sit_one P0
    obtain ⟨k, rfl⟩ : ∃ k, n = k + 1 := ⟨n - 1, by omega⟩
    have ek : ((k + 1 : Nat) : Int) - 1 = (k : Int) := by omega
    have ok : ∀ {i j : Nat}, i < k + 1 → j < k + 1 → ∀ n', Wd R n' → OkRow (.int (i : Int)) (.int (j : Int)) R n' := fun hi hj n' w' => by
      rw [← wd_one ne wd w']
      exact ⟨ne, col_nat hi, .inr (col_nat hj)⟩
    refine ⟨_, rfl, _, _, rfl, rfl, ?_⟩
    refine go_name ?_
    dsimp only
    rw [ek]
    have hL : ∀ b ∈ [p], ∃ xs, H b = some (.lst xs) := fun b hb => by
      obtain ⟨x, y, h, _⟩ := P0
      rw [List.mem_singleton.mp hb]
      exact ⟨_, h⟩
    refine go_seq ?_
    refine go_asg ?_
    refine (ls_of (Φ := All K true 3) (p := p) (L := [p]) (H := H) ?_ All.stb (fun vs H' h => Nat.le_trans h.1 (by decide))) _ fun v H1 S1 k1 s1 ⟨l, xs, e, hl, _, al⟩ => ?_
    · refine all_cons (ev_item S0 fun H1 S1 s1 => pt_cut (ev_rows S1 rfl (rx.same s1)) wd fun H2 S2 s2 => ?_) fun H1 S1 s1 => all_cons (ev_item S1 fun H2 S2 s2 => pt_join (ev_rows S2 rfl (rx.same (s1.trans s2))) wd (by omega) fun H3 S3 s3 => ?_) fun H2 S2 s2 => all_cons (ev_item S2 fun H3 S3 s3 => pt_copy (ev_rows S3 rfl (rx.same ((s1.trans s2).trans s3))) (fun _ => ne) (fun z => by cases z)) fun H3 S3 s3 => all_nil S3
      · exact ev_colsRep (i := (k : Int)) S2 (fun H Q q => ⟨_, rfl, q⟩) (by omega) (by omega) (by decide) (by decide) ⟨fun _ => ⟨ne, (by show 1 ≤ 12; decide), (by show 12 ≤ 12; decide), fun v hv => by rw [(List.mem_replicate.mp hv).2]; exact col_nat (by omega)⟩, fun z => by cases z⟩
      · have hL3 : ∀ b ∈ [p], ∃ xs, H3 b = some (.lst xs) := fun b hb => by
          obtain ⟨x, y, h, _⟩ := S3.pur
          rw [List.mem_singleton.mp hb]
          exact ⟨_, h⟩
        refine ev_imp (ev_drawn (m := 12 - (k + 1)) S3 hL3 rfl (fun H Q q => ⟨_, rfl, _, _, rfl, rfl, ?_⟩) (by omega)) fun v H' _ ⟨B, r, wB, nB⟩ => ⟨B, r, _, wB, fun _ => ⟨ne, nB, by omega⟩, fun z => by cases z⟩
        have : (12 : Int) - ((k + 1 : Nat) : Int) = ((12 - (k + 1) : Nat) : Int) := by omega
        show Q (.int ((12 : Int) - ((k + 1 : Nat) : Int))) H
        rw [this]
        exact q
    · subst e
      refine go_name ?_
      dsimp only
      refine go_seq ?_
      refine go_asg ?_
      refine (ls_cat (Φ := All K true 3) (Ψ := All K true 3) (X := All K true 6) (p := p) (L := [p]) (H := H1) (ls_var S1 rfl hl (Nat.le_trans al.1 (by decide)) All.stb al) All.stb (fun H2 S2 s2 => ls_of (Φ := All K true 3) ?_ All.stb (fun vs H' h => Nat.le_trans h.1 (by decide))) All.stb ?_) _ fun v H2 S2 k2 s2 ⟨l2, ys, e, hl2, ln, al2⟩ => ?_
      · have rx2 := rx.same (s1.trans s2)
        refine all_cons (ev_item S2 fun H3 S3 s3 => pt_sum (c := .int (k : Int)) (v := .int (k : Int)) (sr_rep S3 rfl (rx2.same s3) (by decide) (by decide) ⟨(by show 1 ≤ 8; decide), (by show 8 ≤ 8; decide), fun R' hR => ?_⟩) (fun H4 S4 s4 => vl_calm S4 (fun H Q q => ⟨_, rfl, q⟩) (int_ok (by omega) (by omega))) (fun H4 S4 s4 => vl_calm S4 (fun H Q q => ⟨_, rfl, q⟩) (int_ok (by omega) (by omega)))) fun H3 S3 s3 => ?_
        · rw [(List.mem_replicate.mp hR).2]
          exact ok (by omega) (by omega)
        refine all_cons (ev_item S3 fun H4 S4 s4 => pt_sum (c := .int 0) (v := .non) (sr_one S4 rfl (rx2.same (s3.trans s4)) ⟨(by show 1 ≤ 1; decide), (by show 1 ≤ 8; decide), fun R' hR => ?_⟩) (fun H4 S4 s4 => vl_calm S4 (fun H Q q => q) (int_ok (by decide) (by decide))) (fun H4 S4 s4 => vl_calm S4 (fun H Q q => q) ok_non)) fun H4 S4 s4 => ?_
        · rw [List.mem_singleton.mp hR]
          exact fun n' w' => ⟨ne, (ok (i := 0) (j := 0) (by omega) (by omega) n' w').col, .inl rfl⟩
        refine all_cons (ev_item S4 fun H5 S5 s5 => pt_sum (c := .int (k : Int)) (v := .int 0) (sr_one S5 rfl (rx2.same ((s3.trans s4).trans s5)) ⟨(by show 1 ≤ 1; decide), (by show 1 ≤ 8; decide), fun R' hR => ?_⟩) (fun H4 S4 s4 => vl_calm S4 (fun H Q q => ⟨_, rfl, q⟩) (int_ok (by omega) (by omega))) (fun H4 S4 s4 => vl_calm S4 (fun H Q q => q) (int_ok (by decide) (by decide)))) fun H5 S5 s5 => all_nil S5
        rw [List.mem_singleton.mp hR]
        exact ok (i := k) (j := 0) (by omega) (by omega)
      · exact fun xs ys H' h1 h2 => ⟨by rw [List.length_append]; have := h1.1; have := h2.1; omega, by rw [List.length_append]; have := h1.1; have := h2.1; omega, fun v hv => by
          rcases List.mem_append.mp hv with hv | hv
          · exact h1.2 v hv
          · exact h2.2 v hv⟩
      · subst e
        refine ⟨_, rfl, EK, ys, true, rfl, SqL.of (offs_same _ _ hl2), ln, fun v hv => (al2.2 v hv).same offs_same, fun H3 s3 => ?_⟩
        exact q _ (S2.pur.same s3) ((k1.trans k2).trans (.same s3))
  · exact h.elim
end G22

set_option Elab.async false
set_option linter.all false
set_option maxRecDepth 100000
set_option maxHeartbeats 4000000
/-! k22: what is refused. -/
namespace G22
open PySem PySem.Spec PyProof.Rows L2 U G
variable {K : PySem.W.Frag}
/-- what is drawn for a refusal -/
structure Sc (K : PySem.W.Frag) (H : Hp) (a l4 l6 : Addr) (bd : V) (R : Rw) (n : Nat) (gs : List Int) (ms : List V) : Prop where
  rx : Rx K H (.ref a) R
  wd : Wd R n
  ne : R ≠ []
  g : H l4 = some (.lst (gs.map V.int))
  gl : gs.length ≤ 12
  gr : ∀ c ∈ gs, 0 ≤ c ∧ c < 100
  m : H l6 = some (.lst ms)
  ml : ms.length ≤ 12
  mp : ∀ x ∈ ms, ∃ R, Rx K H x R
  bad : Bad K n bd H
  n1 : 1 ≤ n
  n11 : n ≤ 11
section
variable {p a l4 l6 : Addr} {L : List Addr} {H H' : Hp} {σ : L2.St} {t u : TE} {ts : TA} {R : Rw} {n m : Nat} {c v bd : V} {b : Bool} {gs : List Int} {ms : List V} {k5 k7 : Int}
theorem Sc.same (s : Same H H') (h : Sc K H a l4 l6 bd R n gs ms) : Sc K H' a l4 l6 bd R n gs ms := ⟨h.rx.same s, h.wd, h.ne, s _ _ h.g, h.gl, h.gr, s _ _ h.m, h.ml, (fun x hx => by
  obtain ⟨R, r⟩ := h.mp x hx
  exact ⟨R, r.same s⟩), h.bad.same s, h.n1, h.n11⟩
/-- the slots -/
structure Sg (σ : L2.St) (p a : Addr) (n : Nat) (bd : V) (l4 : Addr) (k5 : Int) (l6 : Addr) (k7 : Int) : Prop where
  s0 : σ[0]? = some (some (.ref p))
  s1 : σ[1]? = some (some (.ref a))
  s2 : σ[2]? = some (some (.int (n : Int)))
  s3 : σ[3]? = some (some bd)
  s4 : σ[4]? = some (some (.ref l4))
  s5 : σ[5]? = some (some (.int k5))
  s6 : σ[6]? = some (some (.ref l6))
  s7 : σ[7]? = some (some (.int k7))
theorem ff {P : Prop} (z : false = true) : P := by cases z
theorem no_cut (h : ¬ OkCut R n xs) : (false = true → OkCut R n xs) ∧ (false = false → ¬ OkCut R n xs) := ⟨ff, fun _ => h⟩
/-- columns with one that is none -/
theorem cl_ins (S : Sit p L H) (sg : Sg σ p a n bd l4 k5 l6 k7) (sc : Sc K (offs L H) a l4 l6 bd R n gs ms) (e : ∀ H', Sit p L H' → Same (offs L H) (offs L H') → Ev p L t σ H' (Vl K c)) (hc : isCol c n = false) :
    Ev p L (tOp rCat (tOp rCat (tSl (rSlL K) (tVar 4) tNoPart (tPart (tVar 5))) (tLst (tCons t tNil))) (tSl (rSlL K) (tVar 4) (tPart (tVar 5)) tNoPart)) σ H (Ls (Cl K fun xs => (false = true → OkCut R n xs) ∧ (false = false → ¬ OkCut R n xs))) := by
  refine ev_imp (ev_ins (Ψ := fun vs H' => vs = [c] ∧ Tk K H' c ∧ Sw 4 100 K H' c) S sg.s4 sg.s5 sc.g (by rw [List.length_map]; exact sc.gl) (fun H' S' s' => eva_imp (eva1 (e H' S' s')) fun vs H'' _ ⟨x, e1, e2, e3, e4⟩ => ⟨by rw [e1, e2], e3, e4⟩) (fun s h => ⟨h.1, h.2.1.same s, h.2.2.same s⟩) (fun vs H' h => by rw [h.1]; show 1 ≤ _; decide)) fun v H' s ⟨l, ys, e, h, ln, x1, mid, x2, e2, l30, h1, h2, e3, h3, h4⟩ => ⟨l, ys, e, h, ln, l30, fun v hv => ?_, ff, fun _ o => ?_⟩
  · have gi : ∀ x ∈ gs.map V.int, Tk K H' x ∧ Sw 4 100 K H' x := fun x hx => by
      obtain ⟨i, hi, rfl⟩ := List.mem_map.mp hx
      have := sc.gr i hi
      exact int_ok (by omega) (by omega) H'
    rw [e2, e3] at hv
    rcases List.mem_append.mp hv with hv | hv
    · rcases List.mem_append.mp hv with hv | hv
      · exact gi v (h1 v hv)
      · rw [List.mem_singleton.mp hv]
        exact ⟨h3, h4⟩
    · exact gi v (h2 v hv)
  · have := o.all c (by rw [e2, e3]; simp)
    rw [hc] at this
    cases this
/-- rows, one of which is none -/
theorem sr_ins {Ψ : List V → Hp → Prop} {y0 : V} {R0 : Rw} (S : Sit p L H) (sg : Sg σ p a n bd l4 k5 l6 k7) (sc : Sc K (offs L H) a l4 l6 bd R n gs ms)
    (e : ∀ H', Sit p L H' → Same (offs L H) (offs L H') → EvA p L ts σ H' Ψ) (st : Stb Ψ) (lm : ∀ vs H', Ψ vs H' → vs.length ≤ 6 ∧ (∀ x ∈ vs, ∃ R, Rx K H' x R) ∧ ∃ y0 ∈ vs, ∃ R0, Rx K H' y0 R0 ∧ ∀ n', Wd R0 n' → ¬ OkRow c v R0 n') :
    Ev p L (tOp rCat (tOp rCat (tSl (rSlL K) (tVar 6) tNoPart (tPart (tVar 7))) (tLst ts)) (tSl (rSlL K) (tVar 6) (tPart (tVar 7)) tNoPart)) σ H (Ls (Sr K fun Rs => SumW c v Rs false)) := by
  refine ev_imp (ev_ins S sg.s6 sg.s7 sc.m sc.ml e st fun vs H' h => (lm vs H' h).1) fun w H' s ⟨l, ys, e, h, ln, x1, mid, x2, e2, l30, h1, h2, h3⟩ => ⟨l, ys, e, h, ln, l30, ?_⟩
  obtain ⟨_, a2, y0, hy0, R0, r0, no⟩ := lm _ _ h3
  have sc' := sc.same s
  obtain ⟨Rs, pr, mem⟩ := paired_with (P := Rx K H') (xs := ys) (x0 := y0) (y0 := R0) (by rw [e2]; simp [hy0]) r0 fun x hx => by
    rw [e2] at hx
    rcases List.mem_append.mp hx with hx | hx
    · rcases List.mem_append.mp hx with hx | hx
      · exact sc'.mp x (h1 x hx)
      · exact a2 x hx
    · exact sc'.mp x (h2 x hx)
  exact ⟨Rs, pr, .inr ⟨R0, mem, no⟩⟩
/-- the drawn rows, and one of the known ones -/
theorem sr_all (S : Sit p L H) (sg : Sg σ p a n bd l4 k5 l6 k7) (sc : Sc K (offs L H) a l4 l6 bd R n gs ms) (no : ∀ n', Wd R n' → ¬ OkRow c v R n') :
    Ev p L (tOp rCat (tVar 6) (tLst (tCons (tVar 1) tNil))) σ H (Ls (Sr K fun Rs => SumW c v Rs false)) := by
  refine ls_cat (Φ := fun xs H' => xs.length ≤ 12 ∧ ∀ x ∈ xs, ∃ R, Rx K H' x R) (Ψ := fun vs H' => vs = [.ref a] ∧ Rx K H' (.ref a) R) (ls_var S sg.s6 sc.m (Nat.le_trans sc.ml (by decide)) (fun s h => ⟨h.1, fun x hx => by
      obtain ⟨R, r⟩ := h.2 x hx
      exact ⟨R, r.same s⟩⟩) ⟨sc.ml, sc.mp⟩) (fun s h => ⟨h.1, fun x hx => by
      obtain ⟨R, r⟩ := h.2 x hx
      exact ⟨R, r.same s⟩⟩) (fun H' S' s' => ls_of (eva_row S' sg.s1 (sc.rx.same s')) row_stb fun vs H' h => by rw [h.1]; show 1 ≤ _; decide) row_stb ?_
  rintro xs ys H' ⟨l12, h1⟩ ⟨rfl, r⟩
  refine ⟨by rw [List.length_append]; show xs.length + 1 ≤ 1000; omega, by rw [List.length_append]; show xs.length + 1 ≤ 30; omega, ?_⟩
  obtain ⟨Rs, pr, mem⟩ := paired_with (P := Rx K H') (xs := xs ++ [.ref a]) (x0 := .ref a) (y0 := R) (by simp) r fun x hx => by
    rcases List.mem_append.mp hx with hx | hx
    · exact h1 x hx
    · rw [List.mem_singleton.mp hx]
      exact ⟨R, r⟩
  exact ⟨Rs, pr, .inr ⟨R, mem, no⟩⟩
theorem calm_c : Calm (tC v) σ v := fun H Q q => q
theorem calm_v {i : Nat} (h : σ[i]? = some (some v)) : Calm (tVar i) σ v := fun H Q q => ⟨_, h, q⟩
theorem vl0 (S : Sit p L H) : Ev p L (tC (.int 0)) σ H (Vl K (.int 0)) := vl_calm S calm_c (int_ok (by decide) (by decide))
theorem vlN (S : Sit p L H) : Ev p L (tC .non) σ H (Vl K .non) := vl_calm S calm_c ok_non
theorem vlB (S : Sit p L H) : Ev p L (tC (.bl b)) σ H (Vl K (.bl b)) := vl_calm S calm_c (ok_bl b)
theorem no_join_a {B : Rw} : (false = true → OkJoin [] B n m) ∧ (false = false → ¬ OkJoin [] B n m) := ⟨ff, fun _ o => o.a rfl⟩
/-! ### the lists -/
theorem items1 (S : Sit p L H) (sg : Sg σ p a n bd l4 k5 l6 k7) (sc : Sc K (offs L H) a l4 l6 bd R n gs ms) :
    Ev p L (tLst (tCons (tTup (tCons (tC (.str "copied")) (tCons (tLst (tCons tDNewK tNil)) tNil))) (tCons (tTup (tCons (tC (.str "cut")) (tCons (tLst (tCons tDNewK (tCons (tLst (tCons (tC (.int 0)) tNil)) tNil))) tNil))) (tCons (tTup (tCons (tC (.str "cut")) (tCons (tLst (tCons (tVar 1) (tCons (tLst tNil) tNil))) tNil))) (tCons (tTup (tCons (tC (.str "cut")) (tCons (tLst (tCons (tVar 1) (tCons (tOp rCat (tOp rCat (tSl (rSlL K) (tVar 4) tNoPart (tPart (tVar 5))) (tLst (tCons (tVar 3) tNil))) (tSl (rSlL K) (tVar 4) (tPart (tVar 5)) tNoPart)) tNil))) tNil))) tNil))))) σ H (Ls (All K false 4)) := by
  refine ls_of (all_cons (ev_item S fun H1 S1 s1 => pt_copy (ev_none S1) ff fun _ => rfl) fun H1 S1 s1 => all_cons (ev_item S1 fun H2 S2 s2 => pt_cut (n := 1) (ev_none S2) wd_nil fun H3 S3 s3 => ev_cols (eva_one S3 calm_c) (by decide) (fun v hv H => by rw [List.mem_singleton.mp hv]; exact int_ok (by decide) (by decide) H) ⟨ff, fun _ o => o.ne rfl⟩) fun H2 S2 s2 =>
    all_cons (ev_item S2 fun H3 S3 s3 => pt_cut (ev_rows S3 sg.s1 (sc.rx.same ((s1.trans s2).trans s3))) sc.wd fun H4 S4 s4 => ev_cols (vs := []) (eva_nil S4) (by decide) (fun v hv H => (List.not_mem_nil hv).elim) ⟨ff, fun _ o => absurd o.lo (by decide)⟩) fun H3 S3 s3 =>
    all_cons (ev_item S3 fun H4 S4 s4 => pt_cut (ev_rows S4 sg.s1 (sc.rx.same (((s1.trans s2).trans s3).trans s4))) sc.wd fun H5 S5 s5 => cl_ins S5 sg (sc.same ((((s1.trans s2).trans s3).trans s4).trans s5)) (fun H6 S6 s6 => vl_bad S6 sg.s3 (sc.bad.same (((((s1.trans s2).trans s3).trans s4).trans s5).trans s6))) sc.bad.no) fun H4 S4 s4 => all_nil S4) All.stb (fun vs H' h => Nat.le_trans h.1 (by decide))
theorem items2 (S : Sit p L H) (sg : Sg σ p a n bd l4 k5 l6 k7) (sc : Sc K (offs L H) a l4 l6 bd R n gs ms) :
    Ev p L (tLst (tCons (tTup (tCons (tC (.str "cut")) (tCons (tLst (tCons (tVar 1) (tCons (tOp rRep (tLst (tCons (tC (.int 0)) tNil)) (tC (.int 13))) tNil))) tNil))) (tCons (tTup (tCons (tC (.str "joined")) (tCons (tLst (tCons tDNewK (tCons (tVar 1) tNil))) tNil))) (tCons (tTup (tCons (tC (.str "joined")) (tCons (tLst (tCons (tVar 1) (tCons tDNewK tNil))) tNil))) (tCons (tTup (tCons (tC (.str "joined")) (tCons (tLst (tCons tDNewK (tCons tDNewK tNil))) tNil))) tNil))))) σ H (Ls (All K false 4)) := by
  refine ls_of (all_cons (ev_item S fun H1 S1 s1 => pt_cut (ev_rows S1 sg.s1 (sc.rx.same s1)) sc.wd fun H2 S2 s2 => ev_colsRep S2 calm_c (by decide) (by decide) (by decide) (by decide) ⟨ff, fun _ o => absurd o.hi (by decide)⟩) fun H1 S1 s1 =>
    all_cons (ev_item S1 fun H2 S2 s2 => pt_join (n := 1) (ev_none S2) wd_nil (Nat.le_refl _) fun H3 S3 s3 => ev_imp (ev_rows S3 sg.s1 (sc.rx.same ((s1.trans s2).trans s3))) fun v H' _ r => ⟨R, r, n, sc.wd, ff, fun _ o => o.a rfl⟩) fun H2 S2 s2 =>
    all_cons (ev_item S2 fun H3 S3 s3 => pt_join (ev_rows S3 sg.s1 (sc.rx.same ((s1.trans s2).trans s3))) sc.wd sc.n1 fun H4 S4 s4 => ev_imp (ev_none S4) fun v H' _ r => ⟨[], r, 1, wd_nil, ff, fun _ o => o.b rfl⟩) fun H3 S3 s3 =>
    all_cons (ev_item S3 fun H4 S4 s4 => pt_join (n := 1) (ev_none S4) wd_nil (Nat.le_refl _) fun H5 S5 s5 => ev_imp (ev_none S5) fun v H' _ r => ⟨[], r, 1, wd_nil, ff, fun _ o => o.b rfl⟩) fun H4 S4 s4 => all_nil S4) All.stb (fun vs H' h => Nat.le_trans h.1 (by decide))
theorem items3 (S : Sit p [p] H) (sg : Sg σ p a n bd l4 k5 l6 k7) (sc : Sc K (offs [p] H) a l4 l6 bd R n gs ms) :
    Ev p [p] (tLst (tCons (tTup (tCons (tC (.str "joined")) (tCons (tLst (tCons (tVar 1) (tCons (tCl (sp__law_rows K) [] ES0 (tCons (tVar 0) (tCons (tOp rSubI (tC (.int 13)) (tVar 2)) tNil))) tNil))) tNil))) (tCons (tTup (tCons (tC (.str "summed")) (tCons (tLst (tCons (tLst tNil) (tCons (tC (.int 0)) (tCons (tC .non) tNil)))) tNil))) tNil))) σ H (Ls (All K false 2)) := by
  refine ls_of (all_cons (ev_item S fun H1 S1 s1 => pt_join (ev_rows S1 sg.s1 (sc.rx.same s1)) sc.wd sc.n1 fun H2 S2 s2 => ?_) fun H1 S1 s1 =>
    all_cons (ev_item S1 fun H2 S2 s2 => pt_sum (c := .int 0) (v := .non) (sr_nil S2 (.inl fun z => absurd z.1 (by decide))) (fun H3 S3 s3 => vl0 S3) (fun H3 S3 s3 => vlN S3)) fun H2 S2 s2 => all_nil S2) All.stb (fun vs H' h => Nat.le_trans h.1 (by decide))
  have hL : ∀ b ∈ [p], ∃ xs, H2 b = some (.lst xs) := fun b hb => by
    obtain ⟨x, y, h, _⟩ := S2.pur
    rw [List.mem_singleton.mp hb]
    exact ⟨_, h⟩
  have n11 := sc.n11
  refine ev_imp (ev_drawn (m := 13 - n) S2 hL sg.s0 (fun H Q q => ⟨_, sg.s2, _, _, rfl, rfl, ?_⟩) (by omega)) fun v H' _ ⟨B, r, wB, nB⟩ => ⟨B, r, _, wB, ff, fun _ o => ?_⟩
  · have : (13 : Int) - (n : Int) = ((13 - n : Nat) : Int) := by omega
    show Q (.int ((13 : Int) - (n : Int))) H
    rw [this]
    exact q
  · have := o.most
    omega
theorem items4 (S : Sit p L H) (sg : Sg σ p a n bd l4 k5 l6 k7) (sc : Sc K (offs L H) a l4 l6 bd R n gs ms) :
    Ev p L (tLst (tCons (tTup (tCons (tC (.str "summed")) (tCons (tLst (tCons (tOp rCat (tOp rCat (tSl (rSlL K) (tVar 6) tNoPart (tPart (tVar 7))) (tLst (tCons tDNewK tNil))) (tSl (rSlL K) (tVar 6) (tPart (tVar 7)) tNoPart)) (tCons (tC (.int 0)) (tCons (tC .non) tNil)))) tNil))) (tCons (tTup (tCons (tC (.str "summed")) (tCons (tLst (tCons (tOp rRep (tLst (tCons (tVar 1) tNil)) (tC (.int 9))) (tCons (tC (.int 0)) (tCons (tC .non) tNil)))) tNil))) tNil))) σ H (Ls (All K false 2)) := by
  refine ls_of (all_cons (ev_item S fun H1 S1 s1 => pt_sum (c := .int 0) (v := .non) (sr_ins (Ψ := fun vs H' => ∃ y, vs = [y] ∧ Rx K H' y []) (y0 := .non) (R0 := []) S1 sg (sc.same s1) (fun H2 S2 s2 => eva1 (ev_none S2)) (fun s ⟨y, e, r⟩ => ⟨y, e, r.same s⟩) (fun vs H' ⟨y, e, r⟩ => by
      rw [e]
      exact ⟨(by show 1 ≤ 6; decide), fun x hx => by rw [List.mem_singleton.mp hx]; exact ⟨_, r⟩, y, List.mem_singleton.mpr rfl, [], r, fun n' _ o => o.ne rfl⟩)) (fun H3 S3 s3 => vl0 S3) (fun H3 S3 s3 => vlN S3)) fun H1 S1 s1 =>
    all_cons (ev_item S1 fun H2 S2 s2 => pt_sum (c := .int 0) (v := .non) (sr_rep S2 sg.s1 (sc.rx.same (s1.trans s2)) (by decide) (by decide) (.inl fun z => absurd z.2 (by rw [List.length_replicate]; decide))) (fun H3 S3 s3 => vl0 S3) (fun H3 S3 s3 => vlN S3)) fun H2 S2 s2 => all_nil S2) All.stb (fun vs H' h => Nat.le_trans h.1 (by decide))
theorem items5 (S : Sit p L H) (sg : Sg σ p a n bd l4 k5 l6 k7) (sc : Sc K (offs L H) a l4 l6 bd R n gs ms) :
    Ev p L (tLst (tCons (tTup (tCons (tC (.str "summed")) (tCons (tLst (tCons (tOp rCat (tVar 6) (tLst (tCons (tVar 1) tNil))) (tCons (tVar 3) (tCons (tC .non) tNil)))) tNil))) (tCons (tTup (tCons (tC (.str "summed")) (tCons (tLst (tCons (tOp rCat (tVar 6) (tLst (tCons (tVar 1) tNil))) (tCons (tC (.int 0)) (tCons (tVar 3) tNil)))) tNil))) tNil))) σ H (Ls (All K false 2)) := by
  refine ls_of (all_cons (ev_item S fun H1 S1 s1 => pt_sum (c := bd) (v := .non) (sr_all S1 sg (sc.same s1) (no_row sc.ne sc.wd fun h _ => by rw [sc.bad.no] at h; cases h)) (fun H3 S3 s3 => vl_bad S3 sg.s3 (sc.bad.same (s1.trans s3))) (fun H3 S3 s3 => vlN S3)) fun H1 S1 s1 =>
    all_cons (ev_item S1 fun H2 S2 s2 => pt_sum (c := .int 0) (v := bd) (sr_all S2 sg (sc.same (s1.trans s2)) (no_row sc.ne sc.wd fun _ h => ?_)) (fun H3 S3 s3 => vl0 S3) (fun H3 S3 s3 => vl_bad S3 sg.s3 (sc.bad.same ((s1.trans s2).trans s3)))) fun H2 S2 s2 => all_nil S2) All.stb (fun vs H' h => Nat.le_trans h.1 (by decide))
  rcases h with h | h
  · exact sc.bad.nn h
  · rw [sc.bad.no] at h
    cases h
theorem items6 (S : Sit p L H) (sg : Sg σ p a n bd l4 k5 l6 k7) (sc : Sc K (offs L H) a l4 l6 bd R n gs ms) :
    Ev p L (tLst (tCons (tTup (tCons (tC (.str "summed")) (tCons (tLst (tCons (tLst (tCons (tVar 1) tNil)) (tCons (tC .non) (tCons (tC .non) tNil)))) tNil))) (tCons (tTup (tCons (tC (.str "summed")) (tCons (tLst (tCons (tLst (tCons (tVar 1) tNil)) (tCons (tC (.bl true)) (tCons (tC .non) tNil)))) tNil))) (tCons (tTup (tCons (tC (.str "summed")) (tCons (tLst (tCons (tLst (tCons (tVar 1) tNil)) (tCons (tC (.int 0)) (tCons (tC (.bl false)) tNil)))) tNil))) tNil)))) σ H (Ls (All K false 3)) := by
  have one : ∀ {c v : V}, (isCol c n = true → v = .non ∨ isCol v n = true → False) → SumW c v [R] false := fun h => .inr ⟨R, List.mem_singleton.mpr rfl, no_row sc.ne sc.wd h⟩
  refine ls_of (all_cons (ev_item S fun H1 S1 s1 => pt_sum (c := .non) (v := .non) (sr_one S1 sg.s1 (sc.rx.same s1) (one fun h _ => by cases h)) (fun H3 S3 s3 => vlN S3) (fun H3 S3 s3 => vlN S3)) fun H1 S1 s1 =>
    all_cons (ev_item S1 fun H2 S2 s2 => pt_sum (c := .bl true) (v := .non) (sr_one S2 sg.s1 (sc.rx.same (s1.trans s2)) (one fun h _ => by cases h)) (fun H3 S3 s3 => vlB S3) (fun H3 S3 s3 => vlN S3)) fun H2 S2 s2 =>
    all_cons (ev_item S2 fun H3 S3 s3 => pt_sum (c := .int 0) (v := .bl false) (sr_one S3 sg.s1 (sc.rx.same ((s1.trans s2).trans s3)) (one fun _ h => by rcases h with h | h <;> cases h)) (fun H3 S3 s3 => vl0 S3) (fun H3 S3 s3 => vlB S3)) fun H3 S3 s3 => all_nil S3) All.stb (fun vs H' h => Nat.le_trans h.1 (by decide))
/-- a cut by None -/
theorem item7 (S : Sit p L H) (sg : Sg σ p a n bd l4 k5 l6 k7) (sc : Sc K (offs L H) a l4 l6 bd R n gs ms) :
    Ev p L (tTup (tCons (tC (.str "cut")) (tCons (tLst (tCons (tVar 1) (tCons (tOp rCat (tOp rCat (tSl (rSlL K) (tVar 4) tNoPart (tPart (tVar 5))) (tLst (tCons (tC .non) tNil))) (tSl (rSlL K) (tVar 4) (tPart (tVar 5)) tNoPart)) tNil))) tNil))) σ H (It K false) :=
  ev_item S fun H1 S1 s1 => pt_cut (ev_rows S1 sg.s1 (sc.rx.same s1)) sc.wd fun H2 S2 s2 => cl_ins S2 sg (sc.same (s1.trans s2)) (fun H3 S3 s3 => vlN S3) rfl
theorem eva_two {i j : Nat} {x y : Addr} {A B : Rw} (S : Sit p L H) (h : σ[i]? = some (some (.ref x))) (h2 : σ[j]? = some (some (.ref y))) (rx : Rx K (offs L H) (.ref x) A) (ry : Rx K (offs L H) (.ref y) B) : EvA p L (tCons (tVar i) (tCons (tVar j) tNil)) σ H (fun vs H' => vs = [.ref x, .ref y] ∧ Rx K H' (.ref x) A ∧ Rx K H' (.ref y) B) :=
  eva_imp (eva_cons (ev_var S h) (fun _ h => h) fun H' S' s' => eva1 (ev_var S' h2)) fun vs H' s ⟨v, r, e, e2, w, e3, e4⟩ => ⟨by rw [e, e2, e3, e4], rx.same s, ry.same s⟩
/-- too few columns -/
theorem item8 {x : Addr} {A : Rw} {m : Nat} {k : Int} (S : Sit p L H) (sg : Sg σ p a n bd l4 k5 l6 k7) (s9 : σ[9]? = some (some (.ref x))) (s10 : σ[10]? = some (some (.int k))) (sc : Sc K (offs L H) a l4 l6 bd R n gs ms) (rA : Rx K (offs L H) (.ref x) A) (nA : A ≠ []) (wA : Wd A m) (hk : (m : Int) ≤ k) (k0 : 0 ≤ k) (k1 : k < 100) :
    Ev p L (tTup (tCons (tC (.str "summed")) (tCons (tLst (tCons (tOp rCat (tOp rCat (tSl (rSlL K) (tVar 6) tNoPart (tPart (tVar 7))) (tLst (tCons (tVar 9) (tCons (tVar 1) tNil)))) (tSl (rSlL K) (tVar 6) (tPart (tVar 7)) tNoPart)) (tCons (tVar 10) (tCons (tC .non) tNil)))) tNil))) σ H (It K false) :=
  ev_item S fun H1 S1 s1 => pt_sum (c := .int k) (v := .non) (sr_ins (y0 := .non) (R0 := []) S1 sg (sc.same s1) (fun H2 S2 s2 => eva_two S2 s9 sg.s1 (rA.same (s1.trans s2)) (sc.rx.same (s1.trans s2))) (fun s h => ⟨h.1, h.2.1.same s, h.2.2.same s⟩) (fun vs H' ⟨e, r1, r2⟩ => by
      rw [e]
      refine ⟨(by show 2 ≤ 6; decide), fun y hy => ?_, .ref x, by simp, A, r1, no_row nA wA fun h _ => ?_⟩
      · rcases List.mem_cons.mp hy with rfl | hy
        · exact ⟨_, r1⟩
        · rw [List.mem_singleton.mp hy]
          exact ⟨_, r2⟩
      · rw [noCol (.inr hk)] at h
        cases h)) (fun H3 S3 s3 => vl_calm S3 (calm_v s10) (int_ok (by omega) (by omega))) (fun H3 S3 s3 => vlN S3)
theorem item9 {x : Addr} {A : Rw} {m : Nat} {k : Int} (S : Sit p L H) (sg : Sg σ p a n bd l4 k5 l6 k7) (s9 : σ[9]? = some (some (.ref x))) (s10 : σ[10]? = some (some (.int k))) (sc : Sc K (offs L H) a l4 l6 bd R n gs ms) (rA : Rx K (offs L H) (.ref x) A) (nA : A ≠ []) (wA : Wd A m) (hk : (m : Int) ≤ k) (k0 : 0 ≤ k) (k1 : k < 100) :
    Ev p L (tTup (tCons (tC (.str "summed")) (tCons (tLst (tCons (tOp rCat (tOp rCat (tSl (rSlL K) (tVar 6) tNoPart (tPart (tVar 7))) (tLst (tCons (tVar 1) (tCons (tVar 9) tNil)))) (tSl (rSlL K) (tVar 6) (tPart (tVar 7)) tNoPart)) (tCons (tC (.int 0)) (tCons (tVar 10) tNil)))) tNil))) σ H (It K false) :=
  ev_item S fun H1 S1 s1 => pt_sum (c := .int 0) (v := .int k) (sr_ins (y0 := .non) (R0 := []) S1 sg (sc.same s1) (fun H2 S2 s2 => eva_two S2 sg.s1 s9 (sc.rx.same (s1.trans s2)) (rA.same (s1.trans s2))) (fun s h => ⟨h.1, h.2.1.same s, h.2.2.same s⟩) (fun vs H' ⟨e, r1, r2⟩ => by
      rw [e]
      refine ⟨(by show 2 ≤ 6; decide), fun y hy => ?_, .ref x, by simp, A, r2, no_row nA wA fun _ h => ?_⟩
      · rcases List.mem_cons.mp hy with rfl | hy
        · exact ⟨_, r1⟩
        · rw [List.mem_singleton.mp hy]
          exact ⟨_, r2⟩
      · rcases h with h | h
        · cases h
        · rw [noCol (.inr hk)] at h
          cases h)) (fun H3 S3 s3 => vl0 S3) (fun H3 S3 s3 => vl_calm S3 (calm_v s10) (int_ok (by omega) (by omega)))
/-! ### lists laid one behind another -/
theorem all_app {n m : Nat} {xs ys : List V} (h1 : All K b n xs H) (h2 : All K b m ys H) : All K b (n + m) (xs ++ ys) H := ⟨by rw [List.length_append]; have := h1.1; have := h2.1; omega, fun v hv => by
  rcases List.mem_append.mp hv with hv | hv
  · exact h1.2 v hv
  · exact h2.2 v hv⟩
theorem cat8 {n m : Nat} {l8 : Addr} {xs : List V} (S : Sit p L H) (s8 : σ[8]? = some (some (.ref l8))) (hl : offs L H l8 = some (.lst xs)) (al : All K b n xs (offs L H)) (nm : n + m ≤ 1000) (e' : ∀ H', Sit p L H' → Same (offs L H) (offs L H') → Ev p L u σ H' (Ls (All K b m))) : Ev p L (tOp rCat (tVar 8) u) σ H (Ls (All K b (n + m))) :=
  ls_cat (Φ := All K b n) (Ψ := All K b m) (ls_var S s8 hl (by have := al.1; omega) All.stb al) All.stb e' All.stb fun xs ys H' h1 h2 => ⟨Nat.le_trans (all_app h1 h2).1 nm, all_app h1 h2⟩
/-- the list is set aside -/
theorem catN {n m : Nat} {l8 : Addr} {xs : List V} {Q : VK} (S : Sit p L H) (s8 : σ[8]? = some (some (.ref l8))) (hl : offs L H l8 = some (.lst xs)) (al : All K b n xs (offs L H)) (nm : n + m ≤ 1000) (e : Ev p L u σ H (Ls (All K b m)))
    (q : ∀ l ys H', H l = none → l ≠ p → Sit p (l :: L) H' → Keep [p] H H' → Same (offs L H) (offs (l :: L) H') → H' l = some (.lst ys) → All K b (n + m) ys (offs (l :: L) H') → Q (.ref l) H') : tOp rCat (tVar 8) u σ H Q := by
  refine ⟨_, s8, e _ fun v H2 S2 k2 s2 ⟨l2, ys, e2, h2, ln, al2⟩ => ?_⟩
  subst e2
  have := al.1
  have := al2.1
  refine ⟨l8, l2, xs, ys, rfl, rfl, offs_same _ _ (s2 _ _ hl), offs_same _ _ h2, by rw [sizeLine_eq]; omega, fun l nl => ?_⟩
  have lp : l ≠ p := fun z => by
    obtain ⟨x, y, e, _⟩ := S2.pur
    rw [z, e] at nl
    cases nl
  have sn := offs_new (L := L) (o := .lst (xs ++ ys)) nl
  have S3 := S2.new (o := .lst (xs ++ ys)) nl
  refine q l _ _ (k2.free (by simp [lp]) nl) lp ⟨S3.pur, List.mem_cons_of_mem _ S3.mem, fun b hb => ?_⟩ (k2.trans (.same (same_new nl))) (s2.trans sn) upd_same (all_app (All.stb (s2.trans sn) al) (All.stb sn al2))
  rcases List.mem_cons.mp hb with rfl | hb
  · rw [upd_same]
    exact fun z => by cases z
  · exact S3.live b hb
/-- one more -/
theorem app8 {n : Nat} {l8 : Addr} {xs : List V} {Q : VK} (S : Sit p (l8 :: L) H) (s8 : σ[8]? = some (some (.ref l8))) (lp : l8 ≠ p) (hl : H l8 = some (.lst xs)) (al : All K b n xs (offs (l8 :: L) H)) (nm : n < 1000) (e : Ev p (l8 :: L) u σ H (It K b))
    (q : ∀ ys H', Sit p (l8 :: L) H' → Keep [l8, p] H H' → Same (offs (l8 :: L) H) (offs (l8 :: L) H') → H' l8 = some (.lst ys) → All K b (n + 1) ys (offs (l8 :: L) H') → Q .non H') : (tBM K "list" rAppend (tVar 8) (tCons u tNil)) σ H Q := by
  have := al.1
  refine ⟨_, s8, .inl ⟨rfl, _, SqL.of hl⟩, e _ fun v H2 S2 k2 s2 it => ?_⟩
  have hl2 := k2.k _ _ hl (by simp [lp] : l8 ∉ [p])
  refine ⟨l8, xs, v, rfl, rfl, hl2, by rw [sizeLine_eq]; omega, ?_⟩
  have kk : Keep [l8] H2 (upd H2 l8 (.lst (xs ++ [v]))) := Keep.refl.put (by simp)
  have sn : Same (offs (l8 :: L) H2) (offs (l8 :: L) (upd H2 l8 (.lst (xs ++ [v])))) := kk.offs fun x hx => by rw [List.mem_singleton.mp hx]; exact List.mem_cons_self ..
  refine q (xs ++ [v]) _ ⟨S2.pur.keep kk (by simp [lp.symm]), S2.mem, fun b hb => ?_⟩ ((k2.mono (by simp)).trans (kk.mono (by simp))) (s2.trans sn) upd_same ⟨by rw [List.length_append]; show xs.length + 1 ≤ n + 1; omega, fun y hy => ?_⟩
  · by_cases z : b = l8
    · rw [z, upd_same]
      exact fun z => by cases z
    · rw [upd_ne z]
      exact S2.live b hb
  · rcases List.mem_append.mp hy with hy | hy
    · exact (al.2 y hy).same (s2.trans sn)
    · rw [List.mem_singleton.mp hy]
      exact it.same sn
theorem keep_new {l : Addr} {L : List Addr} {H0 H H' : Hp} (k : Keep L H0 H) (n : H0 l = none) (k' : Keep (l :: L) H H') : Keep L H0 H' := ⟨fun b o e nb => k'.k b o (k.k b o e nb) fun z => by
  rcases List.mem_cons.mp z with rfl | z
  · rw [n] at e
    cases e
  · exact nb z⟩
end

/-- from the lists on -/
theorem refused_rest {p a D D2 : Addr} {bd : V} {R : Rw} {n : Nat} {gs : List Int} {ms : List V} {k5 k7 : Int} {H : Hp} {Dn : Ends} {v8 v9 v10 v11 : Option V} (EK : ErrK K) (S0 : Sit p [p] H) (sc : Sc K (offs [p] H) a D D2 bd R n gs ms) (n1 : 1 ≤ n) (n11 : n ≤ 11) (q : ∀ H', PurAt H' p → Keep [p] H H' → Dn.rt (.bl true) H') :
    (tSeq (tAsg (tLst (tCons (tTup (tCons (tC (.str "copied")) (tCons (tLst (tCons tDNewK tNil)) tNil))) (tCons (tTup (tCons (tC (.str "cut")) (tCons (tLst (tCons tDNewK (tCons (tLst (tCons (tC (.int 0)) tNil)) tNil))) tNil))) (tCons (tTup (tCons (tC (.str "cut")) (tCons (tLst (tCons (tVar 1) (tCons (tLst tNil) tNil))) tNil))) (tCons (tTup (tCons (tC (.str "cut")) (tCons (tLst (tCons (tVar 1) (tCons (tOp rCat (tOp rCat (tSl (rSlL K) (tVar 4) tNoPart (tPart (tVar 5))) (tLst (tCons (tVar 3) tNil))) (tSl (rSlL K) (tVar 4) (tPart (tVar 5)) tNoPart)) tNil))) tNil))) tNil))))) (gName 8))
  (tSeq (tAsg (tOp rCat (tVar 8) (tLst (tCons (tTup (tCons (tC (.str "cut")) (tCons (tLst (tCons (tVar 1) (tCons (tOp rRep (tLst (tCons (tC (.int 0)) tNil)) (tC (.int 13))) tNil))) tNil))) (tCons (tTup (tCons (tC (.str "joined")) (tCons (tLst (tCons tDNewK (tCons (tVar 1) tNil))) tNil))) (tCons (tTup (tCons (tC (.str "joined")) (tCons (tLst (tCons (tVar 1) (tCons tDNewK tNil))) tNil))) (tCons (tTup (tCons (tC (.str "joined")) (tCons (tLst (tCons tDNewK (tCons tDNewK tNil))) tNil))) tNil)))))) (gName 8))
  (tSeq (tAsg (tOp rCat (tVar 8) (tLst (tCons (tTup (tCons (tC (.str "joined")) (tCons (tLst (tCons (tVar 1) (tCons (tCl (sp__law_rows K) [] ES0 (tCons (tVar 0) (tCons (tOp rSubI (tC (.int 13)) (tVar 2)) tNil))) tNil))) tNil))) (tCons (tTup (tCons (tC (.str "summed")) (tCons (tLst (tCons (tLst tNil) (tCons (tC (.int 0)) (tCons (tC .non) tNil)))) tNil))) tNil)))) (gName 8))
  (tSeq (tAsg (tOp rCat (tVar 8) (tLst (tCons (tTup (tCons (tC (.str "summed")) (tCons (tLst (tCons (tOp rCat (tOp rCat (tSl (rSlL K) (tVar 6) tNoPart (tPart (tVar 7))) (tLst (tCons tDNewK tNil))) (tSl (rSlL K) (tVar 6) (tPart (tVar 7)) tNoPart)) (tCons (tC (.int 0)) (tCons (tC .non) tNil)))) tNil))) (tCons (tTup (tCons (tC (.str "summed")) (tCons (tLst (tCons (tOp rRep (tLst (tCons (tVar 1) tNil)) (tC (.int 9))) (tCons (tC (.int 0)) (tCons (tC .non) tNil)))) tNil))) tNil)))) (gName 8))
  (tSeq (tAsg (tOp rCat (tVar 8) (tLst (tCons (tTup (tCons (tC (.str "summed")) (tCons (tLst (tCons (tOp rCat (tVar 6) (tLst (tCons (tVar 1) tNil))) (tCons (tVar 3) (tCons (tC .non) tNil)))) tNil))) (tCons (tTup (tCons (tC (.str "summed")) (tCons (tLst (tCons (tOp rCat (tVar 6) (tLst (tCons (tVar 1) tNil))) (tCons (tC (.int 0)) (tCons (tVar 3) tNil)))) tNil))) tNil)))) (gName 8))
  (tSeq (tAsg (tOp rCat (tVar 8) (tLst (tCons (tTup (tCons (tC (.str "summed")) (tCons (tLst (tCons (tLst (tCons (tVar 1) tNil)) (tCons (tC .non) (tCons (tC .non) tNil)))) tNil))) (tCons (tTup (tCons (tC (.str "summed")) (tCons (tLst (tCons (tLst (tCons (tVar 1) tNil)) (tCons (tC (.bl true)) (tCons (tC .non) tNil)))) tNil))) (tCons (tTup (tCons (tC (.str "summed")) (tCons (tLst (tCons (tLst (tCons (tVar 1) tNil)) (tCons (tC (.int 0)) (tCons (tC (.bl false)) tNil)))) tNil))) tNil))))) (gName 8))
  (tSeq (tDrop (tBM K "list" rAppend (tVar 8) (tCons (tTup (tCons (tC (.str "cut")) (tCons (tLst (tCons (tVar 1) (tCons (tOp rCat (tOp rCat (tSl (rSlL K) (tVar 4) tNoPart (tPart (tVar 5))) (tLst (tCons (tC .non) tNil))) (tSl (rSlL K) (tVar 4) (tPart (tVar 5)) tNoPart)) tNil))) tNil))) tNil)))
  (tSeq (tIfS (tTest (tOp rGtI (tVar 2) (tC (.int 1)))) (tSeq (tAsg (tCl (sp__law_rows K) [] ES0 (tCons (tVar 0) (tCons (tOp rAddI (tC (.int 1)) (tCl (sp__law_take K) [] ES0 (tCons (tVar 0) (tCons (tOp rSubI (tVar 2) (tC (.int 1))) tNil)))) tNil))) (gName 9))
  (tSeq (tAsg (tOp rSubI (tVar 2) (tC (.int 1))) (gName 10))
  (tSeq (tDrop (tBM K "list" rAppend (tVar 8) (tCons (tTup (tCons (tC (.str "summed")) (tCons (tLst (tCons (tOp rCat (tOp rCat (tSl (rSlL K) (tVar 6) tNoPart (tPart (tVar 7))) (tLst (tCons (tVar 9) (tCons (tVar 1) tNil)))) (tSl (rSlL K) (tVar 6) (tPart (tVar 7)) tNoPart)) (tCons (tVar 10) (tCons (tC .non) tNil)))) tNil))) tNil)))
  (tDrop (tBM K "list" rAppend (tVar 8) (tCons (tTup (tCons (tC (.str "summed")) (tCons (tLst (tCons (tOp rCat (tOp rCat (tSl (rSlL K) (tVar 6) tNoPart (tPart (tVar 7))) (tLst (tCons (tVar 1) (tCons (tVar 9) tNil)))) (tSl (rSlL K) (tVar 6) (tPart (tVar 7)) tNoPart)) (tCons (tC (.int 0)) (tCons (tVar 10) tNil)))) tNil))) tNil)))))) tNext)
  (tRet (tCl (sp__law_all K) [] ES0 (tCons (tVar 8) (tCons (tC (.str "refused")) tNil)))))))))))) Dn [some (.ref p), some (.ref a), some (.int (n : Int)), some bd, some (.ref D), some (.int k5), some (.ref D2), some (.int k7), v8, v9, v10, v11] H := by
  have sg : ∀ {x8 x9 x10 x11 : Option V}, Sg [some (.ref p), some (.ref a), some (.int (n : Int)), some bd, some (.ref D), some (.int k5), some (.ref D2), some (.int k7), x8, x9, x10, x11] p a n bd D k5 D2 k7 := ⟨rfl, rfl, rfl, rfl, rfl, rfl, rfl, rfl⟩
  refine go_seq ?_
  refine go_asg ?_
  refine items1 S0 sg sc _ fun v H1 S1 k1 s1 ⟨l, xs, e, hl, _, al⟩ => ?_
  subst e
  refine go_name ?_
  dsimp only
  refine go_seq ?_
  refine go_asg ?_
  refine cat8 (m := 4) S1 rfl hl al (by decide) (fun H' S' s' => items2 S' sg (sc.same (s1.trans s'))) _ fun v H2 S2 k2 s2 ⟨l, xs, e, hl, _, al⟩ => ?_
  subst e
  have s02 := s1.trans s2
  have k02 := k1.trans k2
  refine go_name ?_
  dsimp only
  refine go_seq ?_
  refine go_asg ?_
  refine cat8 (m := 2) S2 rfl hl al (by decide) (fun H' S' s' => items3 S' sg (sc.same (s02.trans s'))) _ fun v H3 S3 k3 s3 ⟨l, xs, e, hl, _, al⟩ => ?_
  subst e
  have s03 := s02.trans s3
  have k03 := k02.trans k3
  refine go_name ?_
  dsimp only
  refine go_seq ?_
  refine go_asg ?_
  refine cat8 (m := 2) S3 rfl hl al (by decide) (fun H' S' s' => items4 S' sg (sc.same (s03.trans s'))) _ fun v H4 S4 k4 s4 ⟨l, xs, e, hl, _, al⟩ => ?_
  subst e
  have s04 := s03.trans s4
  have k04 := k03.trans k4
  refine go_name ?_
  dsimp only
  refine go_seq ?_
  refine go_asg ?_
  refine cat8 (m := 2) S4 rfl hl al (by decide) (fun H' S' s' => items5 S' sg (sc.same (s04.trans s'))) _ fun v H5 S5 k5 s5 ⟨l, xs, e, hl, _, al⟩ => ?_
  subst e
  have s05 := s04.trans s5
  have k05 := k04.trans k5
  refine go_name ?_
  dsimp only
  refine go_seq ?_
  refine go_asg ?_
  refine catN (m := 3) S5 rfl hl al (by decide) (items6 S5 sg (sc.same s05)) fun l8 ys H6 n8 np8 S6 k6 s6 hl6 al6 => ?_
  have n80 : H l8 = none := k05.free (by simp [np8]) n8
  have s06 := s05.trans s6
  have k06 := k05.trans k6
  refine go_name ?_
  dsimp only
  refine go_seq ?_
  refine app8 S6 rfl np8 hl6 al6 (by decide) (item7 S6 sg (sc.same s06)) fun ys7 H7 S7 k7 s7 hl7 al7 => ?_
  have s07 := s06.trans s7
  have k07 := keep_new k06 n80 k7
  dsimp only
  have fin : ∀ (σ : L2.St) (m : Nat) (ys : List V) (H' : Hp), σ[8]? = some (some (.ref l8)) → m ≤ 1000 → PurAt H' p → Keep [p] H H' → H' l8 = some (.lst ys) → All K false m ys (offs [l8, p] H') → (tRet (tCl (sp__law_all K) [] ES0 (tCons (tVar 8) (tCons (tC (.str "refused")) tNil)))) Dn σ H' := fun σ m ys H' h8 hm P' k' hl' al' => by
    refine ⟨_, h8, EK, ys, false, rfl, SqL.of hl', Nat.le_trans al'.1 hm, fun v hv => (al'.2 v hv).same offs_same, fun H3 s3 => ?_⟩
    exact q _ (P'.same s3) (k'.trans (.same s3))
  refine go_seq ?_
  refine ⟨_, rfl, _, _, rfl, rfl, _, rfl, ?_⟩
  by_cases c1 : (1 : Int) < (n : Int)
  · rw [decide_eq_true c1]
    refine iteT ?_
    refine go_seq ?_
    refine go_asg ?_
    refine ⟨_, rfl, _, rfl, _, rfl, _, _, rfl, rfl, S7.pur, by omega, by omega, fun d H8 d0 d1 P8 k8 => ⟨_, _, rfl, rfl, P8, (1 + d).toNat, (by show 1 + d = _; omega), by omega, fun x A H9 rA wA nA fA smA P9 _ k9 => ?_⟩⟩
    have k89 := k8.trans k9
    have S9 : Sit p [l8, p] H9 := S7.keep P9 k89
    have s9 := S7.same k89
    have hl9 := k89.k _ _ hl7 (by simp [np8] : l8 ∉ [p])
    have al9 := All.stb s9 al7
    have sc9 := sc.same (s07.trans s9)
    have rA9 : Rx K (offs [l8, p] H9) (.ref x) A := ⟨⟨x, rfl, rows_offs (fun b hb => by
      rcases List.mem_cons.mp hb with rfl | hb
      · exact ⟨_, hl9⟩
      · rw [List.mem_singleton.mp hb]
        obtain ⟨x, y, e, _⟩ := P9
        exact ⟨_, e⟩) rA⟩, smA, fA, _, by omega, wA⟩
    have k09 := k07.trans k89
    refine go_name ?_
    dsimp only
    refine go_seq ?_
    refine ⟨_, rfl, _, _, rfl, rfl, ?_⟩
    refine go_name ?_
    dsimp only
    refine go_seq ?_
    refine app8 S9 rfl np8 hl9 al9 (by decide) (item8 (k := (n : Int) - 1) S9 sg rfl rfl sc9 rA9 nA wA (by omega) (by omega) (by omega)) fun ysA HA SA kA sA hlA alA => ?_
    have k0A := keep_new k09 n80 kA
    dsimp only
    refine app8 SA rfl np8 hlA alA (by decide) (item9 (k := (n : Int) - 1) SA sg rfl rfl (sc9.same sA) (rA9.same sA) nA wA (by omega) (by omega) (by omega)) fun ysB HB SB kB sB hlB alB => ?_
    exact fin _ _ _ _ rfl (by decide) SB.pur (keep_new k0A n80 kB) hlB alB
  · rw [decide_eq_false c1]
    refine iteF ?_
    exact fin _ _ _ _ rfl (by decide) S7.pur k07 hl7 al7
theorem pure__law_refused (vs : List V) (H : Hp) (Q : VK) (E : XK) (h : sp__law_refused K vs H Q E) : t__law_refused K { nx := fun _ H' => Q .non H', rt := Q } (start N__law_refused vs) H := by
  unfold sp__law_refused at h
  split at h
  · rename_i p a w
    obtain ⟨EK, R, n, rfl, P0, rx, wd, ne, n1, n11, q⟩ := h
    rw [off_offs] at rx
    have S0 := sit_one P0
    refine ⟨_, rfl, _, rfl, n, rfl, n1, n11, P0, fun bd H1 hbd P1 k1 => ?_⟩
    rw [off_offs] at hbd
    have s1 := S0.same k1
    have S1 := sit_one P1
    -- columns that there are
    refine ⟨_, rfl, P1, by decide, by decide, fun c2 H2 c0 c11 P2 k2 => ?_⟩
    have S2 := sit_one P2
    have s2 := s1.trans (S1.same k2)
    refine ⟨_, rfl, by omega, by omega, fun D hD => ?_⟩
    have pD := P2.ne hD
    refine lc_range (g := gName 11) (vs := [11]) (lo := 0) (n := c2.toNat) (fun j H' => PurAt H' p ∧ Keep [p] H H' ∧ Same (offs [p] H2) (offs [D, p] H') ∧ ∃ xs : List Int, xs.length = j ∧ (∀ x ∈ xs, 0 ≤ x ∧ x < 100) ∧ H' D = some (.lst (xs.map V.int)))
      ⟨P2.same (same_new hD), (k1.trans k2).trans (.same (same_new hD)), offs_new hD, [], rfl, (fun x hx => (List.not_mem_nil hx).elim), upd_same⟩ (fun j H3 hj ⟨P3, k3, s3, xs, hx, hb, hd3⟩ => ?_) (fun H3 ⟨P3, k3, s3, gs, hx, hb, hd3⟩ => ?_)
    · refine ⟨wipe1, _, rfl, _, rfl, P3, by omega, by omega, fun c H4 d0 d1 P4 k4 => ?_⟩
      have hd4 := k4.k _ _ hd3 (by simp [pD.symm] : D ∉ [p])
      refine ⟨_, hd4, by rw [List.length_map, sizeLine_eq]; omega, ?_⟩
      have hD0 : H D = none := (k1.trans k2).free (by simp [pD.symm]) hD
      have kk : Keep [D] H4 (upd H4 D (.lst (xs.map V.int ++ [V.int c]))) := Keep.refl.put (by simp)
      refine ⟨P4.keep kk (by simp [pD]), (k3.trans k4).new hD0, (s3.trans (k4.offs (by simp))).trans (kk.offs (by simp)), xs ++ [c], by simp [hx], (fun x hx => by
          rcases List.mem_append.mp hx with hx | hx
          · exact hb x hx
          · rw [List.mem_singleton.mp hx]
            omega), by rw [upd_same, List.map_append]; rfl⟩
    · have S3 := sit_one P3
      have s23 : Same (offs [p] H2) (offs [p] H3) := s3.trans offs_cons
      have hg3 : offs [p] H3 D = some (.lst (gs.map V.int)) := offs_at hd3 (by simp [pD.symm])
      have gl : gs.length ≤ 10 := by omega
      refine ⟨_, rfl, _, rfl, D, _, rfl, .inl (SqL.of hd3), _, _, rfl, rfl, P3, by omega, by rw [List.length_map]; omega, fun k5 H4 _ _ P4 k4 => ?_⟩
      have S4 := sit_one P4
      have s4 := S3.same k4
      -- rows
      refine ⟨_, rfl, P4, by decide, by decide, fun c5 H5 e0 e7 P5 k5' => ?_⟩
      have S5 := sit_one P5
      have s5 := S4.same k5'
      refine ⟨_, rfl, by omega, by omega, fun D2 hD2 => ?_⟩
      have pD2 := P5.ne hD2
      have k05 : Keep [p] H H5 := (k3.trans k4).trans k5'
      have hD20 : H D2 = none := k05.free (by simp [pD2.symm]) hD2
      refine lc_range (g := gName 11) (vs := [11]) (lo := 0) (n := c5.toNat) (fun j H' => PurAt H' p ∧ Keep [p] H H' ∧ Same (offs [p] H5) (offs [D2, p] H') ∧ ∃ ms : List V, ms.length = j ∧ (∀ x ∈ ms, ∃ R, Rx K (offs [D2, p] H') x R) ∧ H' D2 = some (.lst ms))
        ⟨P5.same (same_new hD2), k05.trans (.same (same_new hD2)), offs_new hD2, [], rfl, (fun x hx => (List.not_mem_nil hx).elim), upd_same⟩ (fun j H6 hj ⟨P6, k6, s6, ms, hm, hb6, hd6⟩ => ?_) (fun H6 ⟨P6, k6, s6, ms, hm, hb6, hd6⟩ => ?_)
      · refine ⟨wipe1, _, rfl, _, rfl, P6, n, rfl, by omega, fun x R' H7 rx' w' ne' few' sml' P7 _ k7 => ?_⟩
        have hd7 := k7.k _ _ hd6 (by simp [pD2.symm] : D2 ∉ [p])
        refine ⟨_, hd7, by rw [sizeLine_eq]; omega, ?_⟩
        have kk : Keep [D2] H7 (upd H7 D2 (.lst (ms ++ [V.ref x]))) := Keep.refl.put (by simp)
        have s67 : Same (offs [D2, p] H6) (offs [D2, p] H7) := k7.offs (by simp)
        have s78 : Same (offs [D2, p] H7) (offs [D2, p] (upd H7 D2 (.lst (ms ++ [V.ref x])))) := kk.offs (by simp)
        have r7 : Rx K (offs [D2, p] H7) (.ref x) R' := ⟨⟨x, rfl, rows_offs (fun b hb => by
          rcases List.mem_cons.mp hb with rfl | hb
          · exact ⟨_, hd7⟩
          · rw [List.mem_singleton.mp hb]
            obtain ⟨x, y, e, _⟩ := P7
            exact ⟨_, e⟩) rx'⟩, sml', few', n, by omega, w'⟩
        refine ⟨P7.keep kk (by simp [pD2]), (k6.trans k7).new hD20, (s6.trans s67).trans s78, ms ++ [V.ref x], by simp [hm], (fun y hy => ?_), upd_same⟩
        rcases List.mem_append.mp hy with hy | hy
        · obtain ⟨R2, r2⟩ := hb6 y hy
          exact ⟨R2, r2.same (s67.trans s78)⟩
        · rw [List.mem_singleton.mp hy]
          exact ⟨_, r7.same s78⟩
      · have S6 := sit_one P6
        have s56 : Same (offs [p] H5) (offs [p] H6) := s6.trans offs_cons
        have hm6 : offs [p] H6 D2 = some (.lst ms) := offs_at hd6 (by simp [pD2.symm])
        refine ⟨_, rfl, _, rfl, D2, _, rfl, .inl (SqL.of hd6), _, _, rfl, rfl, P6, by omega, by omega, fun k7 H7 _ _ P7 k7' => ?_⟩
        have S7 := sit_one P7
        have s7 := S6.same k7'
        have k07 : Keep [p] H H7 := k6.trans k7'
        have s37 := ((s4.trans s5).trans s56).trans s7
        have sc : Sc K (offs [p] H7) a D D2 bd R n gs ms := ⟨rx.same ((s2.trans s23).trans s37), wd, ne, s37 _ _ hg3, by omega, hb, s7 _ _ hm6, by omega, (fun x hx => by
          obtain ⟨R2, r2⟩ := hb6 x hx
          exact ⟨R2, r2.same (offs_cons.trans s7)⟩), hbd.same (((S1.same k2).trans s23).trans s37), n1, n11⟩
        clear hbd rx s1 s2 s3 s23 hg3 s4 s5 s6 s56 hm6 s7 s37 S0 S1 S2 S3 S4 S5 S6 k6 k7' k05
        exact refused_rest EK S7 sc n1 n11 fun H' P' k' => q H' P' (k07.trans k')
  · exact h.elim
end G22

set_option Elab.async false
set_option linter.all false
set_option maxRecDepth 100000
set_option maxHeartbeats 4000000
/-! k22: the law. -/
namespace G22
open PySem PySem.Spec PyProof.Rows L2 U G
variable {K : PySem.W.Frag}
theorem rx_off {p a : Addr} {H : Hp} {R : Rw} {n : Nat} (P : PurAt H p) (r : RowsAt K H a R) (w : Wd R n) (h : n ≤ 13) (few : ∀ r ∈ R, r.1 ≤ 12) (sml : Sml R) : Rx K (off p H) (.ref a) R := by
  rw [off_offs]
  exact ⟨⟨a, rfl, rows_offs (fun b hb => by
    rw [List.mem_singleton.mp hb]
    obtain ⟨x, y, e, _⟩ := P
    exact ⟨_, e⟩) r⟩, sml, few, n, h, w⟩
theorem pure_law (vs : List V) (H : Hp) (Q : VK) (E : XK) (h : sp_law K vs H Q E) : t_law K { nx := fun _ H' => Q .non H', rt := Q } (start N_law vs) H := by
  unfold sp_law at h
  split at h
  · rename_i a
    obtain ⟨EK, ns, hS, hlen, q⟩ := h
    refine ⟨_, rfl, a, _, rfl, .inl hS, _, _, rfl, _, _, rfl, _, rfl, by split <;> split <;> omega, by split <;> split <;> omega, ?_⟩
    refine for_range (lo := 0) (fun i σ H' => ∃ v1 v2 v3 v4, σ = [some (.ref a), v1, v2, v3, v4] ∧ Same H H') ⟨_, _, _, _, rfl, Same.refl H⟩ ?_ ?_
    · rintro i σ H0 hi ⟨v1, v2, v3, v4, rfl, s0⟩
      refine ⟨_, rfl, _, rfl, by omega, ns, s0.seq hS, fun c p H1 np P1 s1 => ?_⟩
      refine ⟨(by show 6 ≤ sizeLine; decide), fun lm nlm => ?_⟩
      have sm := same_new (o := .lst [V.int 1, V.int 2, V.int 3, V.int 5, V.int 8, V.int 11]) nlm
      have hlm : (upd H1 lm (.lst [V.int 1, V.int 2, V.int 3, V.int 5, V.int 8, V.int 11])) lm = _ := upd_same
      have P1m := P1.same sm
      have nlp : lm ≠ p := (P1.ne nlm).symm
      have s1m := s1.trans sm
      generalize upd H1 lm (.lst [V.int 1, V.int 2, V.int 3, V.int 5, V.int 8, V.int 11]) = H1m at sm hlm P1m s1m ⊢
      refine ⟨_, rfl, P1m, by decide, by decide, fun u H2 u0 u6 P2 k2 => ?_⟩
      have hlm2 := k2.k _ _ hlm (by simp [nlp] : lm ∉ [p])
      obtain ⟨v, ev, n, rfl, n1, n11⟩ := menu (xs := [V.int 1, V.int 2, V.int 3, V.int 5, V.int 8, V.int 11]) (n := 6) (d := u) (fun v => ∃ n : Nat, v = V.int (n : Int) ∧ 1 ≤ n ∧ n ≤ 11) rfl u0 u6 (by
        intro v hv
        simp only [List.mem_cons, List.not_mem_nil, or_false] at hv
        rcases hv with rfl | rfl | rfl | rfl | rfl | rfl
        · exact ⟨1, rfl, by decide, by decide⟩
        · exact ⟨2, rfl, by decide, by decide⟩
        · exact ⟨3, rfl, by decide, by decide⟩
        · exact ⟨5, rfl, by decide, by decide⟩
        · exact ⟨8, rfl, by decide, by decide⟩
        · exact ⟨11, rfl, by decide, by decide⟩)
      refine ⟨lm, _, _, _, rfl, rfl, SqL.of hlm2, ev, ?_⟩
      have k02 : Keep [p] H0 H2 := (Keep.same s1m).trans k2
      refine ⟨_, rfl, _, rfl, P2, n, rfl, by omega, fun r R H3 rR wR neR fR smR P3 _ k3 => ?_⟩
      refine ⟨_, rfl, _, rfl, _, rfl, EK, R, n, rfl, P3, rx_off P3 rR wR (by omega) fR smR, wR, neR, n1, n11, fun H4 P4 k4 => ⟨true, rfl, iteF ?_⟩⟩
      refine ⟨_, rfl, _, rfl, _, rfl, EK, R, n, rfl, P4, rx_off P4 (RowsAt.keepP P3 k4 rR) wR (by omega) fR smR, wR, neR, n1, n11, fun H5 P5 k5 => ⟨true, rfl, iteF ?_⟩⟩
      exact ⟨_, _, _, _, rfl, s0.trans ((((k02.trans k3).trans k4).trans k5).drop (Same.refl H0) np)⟩
    · rintro σ H' ⟨v1, v2, v3, v4, rfl, s0⟩
      exact q _
  · exact h.elim
theorem law_asks (K : PySem.W.Frag) (EK : ErrK K) (H : Hp) (a : Addr) (ns : List Int) (hl : ns.length ≤ 63) (hO : Only H) (hS : SqL K H a (ns.map V.int)) : sp_law K [.ref a] H (fun v _ => v = .bl true) (fun _ _ _ => False) := ⟨EK, ns, hS, hl, fun _ => rfl⟩
end G22

set_option Elab.async false
set_option linter.all false
set_option maxRecDepth 100000
set_option maxHeartbeats 4000000

namespace G22
open PySem PySem.Spec PyProof.Rows L2 U G
def top (i : Nat) : Stmt := PySem.Challenge.pw_forgethall_k22_ways_refused.main.body.getD i (.Pass ⟨0, 0, 0, 0⟩)
abbrev s__law_at : Stmt := top 29
abbrev M__law_at : List Str := ["_law_script", "_law_k"]
theorem sc__law_at : FnScope M__law_at ["_law_script", "_law_k"] (defScope s__law_at) := ⟨rfl, rfl, rfl, by decide +kernel, rfl, by decide +kernel, by decide +kernel⟩
abbrev s_need : Stmt := top 20
abbrev M_need : List Str := ["truth"]
theorem sc_need : FnScope M_need ["truth"] (defScope s_need) := ⟨rfl, rfl, rfl, by decide +kernel, rfl, by decide +kernel, by decide +kernel⟩
abbrev s_copied : Stmt := top 23
abbrev M_copied : List Str := ["rows", "found", "person"]
theorem sc_copied : FnScope M_copied ["rows"] (defScope s_copied) := ⟨rfl, rfl, rfl, by decide +kernel, rfl, by decide +kernel, by decide +kernel⟩
abbrev s_is_columnW : Stmt := top 21
abbrev M_is_columnW : List Str := ["thing", "width"]
theorem sc_is_columnW : FnScope M_is_columnW ["thing", "width"] (defScope s_is_columnW) := ⟨rfl, rfl, rfl, by decide +kernel, rfl, by decide +kernel, by decide +kernel⟩
abbrev s_width_of : Stmt := top 22
abbrev M_width_of : List Str := ["rows", "row"]
theorem sc_width_of : FnScope M_width_of ["rows"] (defScope s_width_of) := ⟨rfl, rfl, rfl, by decide +kernel, rfl, by decide +kernel, by decide +kernel⟩
abbrev s_cutW : Stmt := top 24
abbrev M_cutW : List Str := ["rows", "columns", "width", "found", "person", "column"]
theorem sc_cutW : FnScope M_cutW ["rows", "columns"] (defScope s_cutW) := ⟨rfl, rfl, rfl, by decide +kernel, rfl, by decide +kernel, by decide +kernel⟩
abbrev s_joinedW : Stmt := top 25
abbrev M_joinedW : List Str := ["one", "other", "found", "person"]
theorem sc_joinedW : FnScope M_joinedW ["one", "other"] (defScope s_joinedW) := ⟨rfl, rfl, rfl, by decide +kernel, rfl, by decide +kernel, by decide +kernel⟩
abbrev s_key_of : Stmt := top 26
abbrev M_key_of : List Str := ["row", "by"]
theorem sc_key_of : FnScope M_key_of ["row", "by"] (defScope s_key_of) := ⟨rfl, rfl, rfl, by decide +kernel, rfl, by decide +kernel, by decide +kernel⟩
abbrev s_summedW : Stmt := top 27
abbrev M_summedW : List Str := ["some", "column", "by", "rows", "found", "person", "key", "people", "number"]
theorem sc_summedW : FnScope M_summedW ["some", "column", "by"] (defScope s_summedW) := ⟨rfl, rfl, rfl, by decide +kernel, rfl, by decide +kernel, by decide +kernel⟩
abbrev s__law_word : Stmt := top 34
abbrev M__law_word : List Str := ["_law_call", "_law_parts", "_law_word_here", "e", "_law_kinds"]
theorem sc__law_word : FnScope M__law_word ["_law_call", "_law_parts"] (defScope s__law_word) := ⟨rfl, rfl, rfl, by decide +kernel, rfl, by decide +kernel, by decide +kernel⟩
abbrev s__law_all : Stmt := top 36
abbrev M__law_all : List Str := ["_law_some", "_law_due", "_law_call", "_law_parts", "_law_kept"]
theorem sc__law_all : FnScope M__law_all ["_law_some", "_law_due"] (defScope s__law_all) := ⟨rfl, rfl, rfl, by decide +kernel, rfl, by decide +kernel, by decide +kernel⟩
abbrev s__law_take : Stmt := top 31
abbrev M__law_take : List Str := ["_law_purse_here", "_law_many", "_law_number_here"]
theorem sc__law_take : FnScope M__law_take ["_law_purse_here", "_law_many"] (defScope s__law_take) := ⟨rfl, rfl, rfl, by decide +kernel, rfl, by decide +kernel, by decide +kernel⟩
abbrev s__law_number : Stmt := top 32
abbrev M__law_number : List Str := ["_law_purse_here", "_law_way"]
theorem sc__law_number : FnScope M__law_number ["_law_purse_here"] (defScope s__law_number) := ⟨rfl, rfl, rfl, by decide +kernel, rfl, by decide +kernel, by decide +kernel⟩
abbrev s__law_rows : Stmt := top 33
abbrev M__law_rows : List Str := ["_law_purse_here", "_law_width", "_law_rows_here", "_law_k", "_law_person", "_law_j"]
theorem sc__law_rows : FnScope M__law_rows ["_law_purse_here", "_law_width"] (defScope s__law_rows) := ⟨rfl, rfl, rfl, by decide +kernel, rfl, by decide +kernel, by decide +kernel⟩
abbrev s__law_let : Stmt := top 38
abbrev M__law_let : List Str := ["_law_purse_here", "_law_rows_here", "_law_width", "_law_last", "_law_some"]
theorem sc__law_let : FnScope M__law_let ["_law_purse_here", "_law_rows_here", "_law_width"] (defScope s__law_let) := ⟨rfl, rfl, rfl, by decide +kernel, rfl, by decide +kernel, by decide +kernel⟩
abbrev s__law_purse : Stmt := top 30
abbrev M__law_purse : List Str := ["_law_cell"]
theorem sc__law_purse : FnScope M__law_purse ["_law_cell"] (defScope s__law_purse) := ⟨rfl, rfl, rfl, by decide +kernel, rfl, by decide +kernel, by decide +kernel⟩
abbrev s__law_no_column : Stmt := top 35
abbrev M__law_no_column : List Str := ["_law_purse_here", "_law_width", "_law_far", "_law_some"]
theorem sc__law_no_column : FnScope M__law_no_column ["_law_purse_here", "_law_width"] (defScope s__law_no_column) := ⟨rfl, rfl, rfl, by decide +kernel, rfl, by decide +kernel, by decide +kernel⟩
abbrev s__law_refused : Stmt := top 37
abbrev M__law_refused : List Str := ["_law_purse_here", "_law_rows_here", "_law_width", "_law_bad", "_law_good", "_law_at_here", "_law_many", "_law_spot", "_law_some", "_law_less", "_law_last", "_law_k"]
theorem sc__law_refused : FnScope M__law_refused ["_law_purse_here", "_law_rows_here", "_law_width"] (defScope s__law_refused) := ⟨rfl, rfl, rfl, by decide +kernel, rfl, by decide +kernel, by decide +kernel⟩
abbrev s_law : Stmt := top 39
abbrev M_law : List Str := ["_law_script", "_law_k", "_law_purse_here", "_law_width", "_law_rows_here"]
theorem sc_law : FnScope M_law ["_law_script"] (defScope s_law) := ⟨rfl, rfl, rfl, by decide +kernel, rfl, by decide +kernel, by decide +kernel⟩
def df__law_at : He.DefD := ⟨("_law_at", none), "_law_at", "_law_at", defArgs s__law_at, defBody s__law_at, defScope s__law_at, [], []⟩
def df_need : He.DefD := ⟨("need", none), "need", "need", defArgs s_need, defBody s_need, defScope s_need, [], []⟩
def df_copied : He.DefD := ⟨("copied", none), "copied", "copied", defArgs s_copied, defBody s_copied, defScope s_copied, [], []⟩
def df_is_column : He.DefD := ⟨("is_column", none), "is_column", "is_column", defArgs s_is_columnW, defBody s_is_columnW, defScope s_is_columnW, [], []⟩
def df_width_of : He.DefD := ⟨("width_of", none), "width_of", "width_of", defArgs s_width_of, defBody s_width_of, defScope s_width_of, [], []⟩
def df_cut : He.DefD := ⟨("cut", none), "cut", "cut", defArgs s_cutW, defBody s_cutW, defScope s_cutW, [], []⟩
def df_joined : He.DefD := ⟨("joined", none), "joined", "joined", defArgs s_joinedW, defBody s_joinedW, defScope s_joinedW, [], []⟩
def df_key_of : He.DefD := ⟨("key_of", none), "key_of", "key_of", defArgs s_key_of, defBody s_key_of, defScope s_key_of, [], []⟩
def df_summed : He.DefD := ⟨("summed", none), "summed", "summed", defArgs s_summedW, defBody s_summedW, defScope s_summedW, [.non], []⟩
def df__law_word : He.DefD := ⟨("_law_word", none), "_law_word", "_law_word", defArgs s__law_word, defBody s__law_word, defScope s__law_word, [], []⟩
def df__law_all : He.DefD := ⟨("_law_all", none), "_law_all", "_law_all", defArgs s__law_all, defBody s__law_all, defScope s__law_all, [], []⟩
def df__law_take : He.DefD := ⟨("_law_take", none), "_law_take", "_law_take", defArgs s__law_take, defBody s__law_take, defScope s__law_take, [], []⟩
def df__law_number : He.DefD := ⟨("_law_number", none), "_law_number", "_law_number", defArgs s__law_number, defBody s__law_number, defScope s__law_number, [], []⟩
def df__law_rows : He.DefD := ⟨("_law_rows", none), "_law_rows", "_law_rows", defArgs s__law_rows, defBody s__law_rows, defScope s__law_rows, [], []⟩
def df__law_let : He.DefD := ⟨("_law_let", none), "_law_let", "_law_let", defArgs s__law_let, defBody s__law_let, defScope s__law_let, [], []⟩
def df__law_purse : He.DefD := ⟨("_law_purse", none), "_law_purse", "_law_purse", defArgs s__law_purse, defBody s__law_purse, defScope s__law_purse, [], []⟩
def df__law_no_column : He.DefD := ⟨("_law_no_column", none), "_law_no_column", "_law_no_column", defArgs s__law_no_column, defBody s__law_no_column, defScope s__law_no_column, [], []⟩
def df__law_refused : He.DefD := ⟨("_law_refused", none), "_law_refused", "_law_refused", defArgs s__law_refused, defBody s__law_refused, defScope s__law_refused, [], []⟩
def df_law : He.DefD := ⟨("law", none), "law", "law", defArgs s_law, defBody s_law, defScope s_law, [], []⟩
def fa : List He.Fa := [.free "len", .free "min", .free "max", .free "range", .free "repr", .glo "HallError", .free "isinstance", .glo "NoWay", .free "ValueError", .glo "Answered", .glo "BadKind", .glo "NoAnswer", .glo "NoDay", .glo "NoHold", .glo "NoKind", .glo "NoMatter", .glo "NoName", .glo "NoPerson", .glo "NoRows", .glo "NoTelling", .glo "NoText", .glo "NoThing", .glo "Taken", .free "int", .free "sorted", .exc "NoWay", .free "list", .free "tuple", .int "MOST_COLUMNS" 12, .free "all", .free "bool", .int "MOST_SUMMED" 8, .free "set", .free "abs", .glo "_law_at", .glo "need", .glo "copied", .glo "is_column", .glo "width_of", .glo "cut", .glo "joined", .glo "key_of", .glo "summed", .glo "_law_word", .glo "_law_all", .glo "_law_take", .glo "_law_number", .glo "_law_rows", .glo "_law_let", .glo "_law_purse", .glo "_law_no_column", .glo "_law_refused", .glo "law"]
def fn : List He.DefD := [df__law_at, df_need, df_copied, df_is_column, df_width_of, df_cut, df_joined, df_key_of, df_summed, df__law_word, df__law_all, df__law_take, df__law_number, df__law_rows, df__law_let, df__law_purse, df__law_no_column, df__law_refused, df_law]
def ex : PySem.W.Frag → Bool := errB
structure Txt (w : World) (K : PySem.W.Frag) (mg : Str → Option Value) : Prop where
  ex : ∃ h : Heap, K.In h ∧ h.Ns mainGlobals mg ∧ He.SaysX fa fn [] [] ex w h K
section
variable {P : Program} {w : World} {K : PySem.W.Frag} {mg : Str → Option Value} {base : Heap}
theorem Txt.b_len (T : Txt w K mg) : mg "len" = none := by
  obtain ⟨h, X, G, c⟩ := T.ex
  exact He.free_ok X G (c.t.d.fact 0 (f := .free "len") rfl)
theorem Txt.b_min (T : Txt w K mg) : mg "min" = none := by
  obtain ⟨h, X, G, c⟩ := T.ex
  exact He.free_ok X G (c.t.d.fact 1 (f := .free "min") rfl)
theorem Txt.b_max (T : Txt w K mg) : mg "max" = none := by
  obtain ⟨h, X, G, c⟩ := T.ex
  exact He.free_ok X G (c.t.d.fact 2 (f := .free "max") rfl)
theorem Txt.b_range (T : Txt w K mg) : mg "range" = none := by
  obtain ⟨h, X, G, c⟩ := T.ex
  exact He.free_ok X G (c.t.d.fact 3 (f := .free "range") rfl)
theorem Txt.b_repr (T : Txt w K mg) : mg "repr" = none := by
  obtain ⟨h, X, G, c⟩ := T.ex
  exact He.free_ok X G (c.t.d.fact 4 (f := .free "repr") rfl)
theorem Txt.g_HallError (T : Txt w K mg) : mg "HallError" = some (.ref (He.ga K "HallError")) := by
  obtain ⟨h, X, G, c⟩ := T.ex
  exact He.glo_ok X G (c.t.d.fact 5 (f := .glo "HallError") rfl)
theorem Txt.b_isinstance (T : Txt w K mg) : mg "isinstance" = none := by
  obtain ⟨h, X, G, c⟩ := T.ex
  exact He.free_ok X G (c.t.d.fact 6 (f := .free "isinstance") rfl)
theorem Txt.g_NoWay (T : Txt w K mg) : mg "NoWay" = some (.ref (He.ga K "NoWay")) := by
  obtain ⟨h, X, G, c⟩ := T.ex
  exact He.glo_ok X G (c.t.d.fact 7 (f := .glo "NoWay") rfl)
theorem Txt.b_ValueError (T : Txt w K mg) : mg "ValueError" = none := by
  obtain ⟨h, X, G, c⟩ := T.ex
  exact He.free_ok X G (c.t.d.fact 8 (f := .free "ValueError") rfl)
theorem Txt.g_Answered (T : Txt w K mg) : mg "Answered" = some (.ref (He.ga K "Answered")) := by
  obtain ⟨h, X, G, c⟩ := T.ex
  exact He.glo_ok X G (c.t.d.fact 9 (f := .glo "Answered") rfl)
theorem Txt.g_BadKind (T : Txt w K mg) : mg "BadKind" = some (.ref (He.ga K "BadKind")) := by
  obtain ⟨h, X, G, c⟩ := T.ex
  exact He.glo_ok X G (c.t.d.fact 10 (f := .glo "BadKind") rfl)
theorem Txt.g_NoAnswer (T : Txt w K mg) : mg "NoAnswer" = some (.ref (He.ga K "NoAnswer")) := by
  obtain ⟨h, X, G, c⟩ := T.ex
  exact He.glo_ok X G (c.t.d.fact 11 (f := .glo "NoAnswer") rfl)
theorem Txt.g_NoDay (T : Txt w K mg) : mg "NoDay" = some (.ref (He.ga K "NoDay")) := by
  obtain ⟨h, X, G, c⟩ := T.ex
  exact He.glo_ok X G (c.t.d.fact 12 (f := .glo "NoDay") rfl)
theorem Txt.g_NoHold (T : Txt w K mg) : mg "NoHold" = some (.ref (He.ga K "NoHold")) := by
  obtain ⟨h, X, G, c⟩ := T.ex
  exact He.glo_ok X G (c.t.d.fact 13 (f := .glo "NoHold") rfl)
theorem Txt.g_NoKind (T : Txt w K mg) : mg "NoKind" = some (.ref (He.ga K "NoKind")) := by
  obtain ⟨h, X, G, c⟩ := T.ex
  exact He.glo_ok X G (c.t.d.fact 14 (f := .glo "NoKind") rfl)
theorem Txt.g_NoMatter (T : Txt w K mg) : mg "NoMatter" = some (.ref (He.ga K "NoMatter")) := by
  obtain ⟨h, X, G, c⟩ := T.ex
  exact He.glo_ok X G (c.t.d.fact 15 (f := .glo "NoMatter") rfl)
theorem Txt.g_NoName (T : Txt w K mg) : mg "NoName" = some (.ref (He.ga K "NoName")) := by
  obtain ⟨h, X, G, c⟩ := T.ex
  exact He.glo_ok X G (c.t.d.fact 16 (f := .glo "NoName") rfl)
theorem Txt.g_NoPerson (T : Txt w K mg) : mg "NoPerson" = some (.ref (He.ga K "NoPerson")) := by
  obtain ⟨h, X, G, c⟩ := T.ex
  exact He.glo_ok X G (c.t.d.fact 17 (f := .glo "NoPerson") rfl)
theorem Txt.g_NoRows (T : Txt w K mg) : mg "NoRows" = some (.ref (He.ga K "NoRows")) := by
  obtain ⟨h, X, G, c⟩ := T.ex
  exact He.glo_ok X G (c.t.d.fact 18 (f := .glo "NoRows") rfl)
theorem Txt.g_NoTelling (T : Txt w K mg) : mg "NoTelling" = some (.ref (He.ga K "NoTelling")) := by
  obtain ⟨h, X, G, c⟩ := T.ex
  exact He.glo_ok X G (c.t.d.fact 19 (f := .glo "NoTelling") rfl)
theorem Txt.g_NoText (T : Txt w K mg) : mg "NoText" = some (.ref (He.ga K "NoText")) := by
  obtain ⟨h, X, G, c⟩ := T.ex
  exact He.glo_ok X G (c.t.d.fact 20 (f := .glo "NoText") rfl)
theorem Txt.g_NoThing (T : Txt w K mg) : mg "NoThing" = some (.ref (He.ga K "NoThing")) := by
  obtain ⟨h, X, G, c⟩ := T.ex
  exact He.glo_ok X G (c.t.d.fact 21 (f := .glo "NoThing") rfl)
theorem Txt.g_Taken (T : Txt w K mg) : mg "Taken" = some (.ref (He.ga K "Taken")) := by
  obtain ⟨h, X, G, c⟩ := T.ex
  exact He.glo_ok X G (c.t.d.fact 22 (f := .glo "Taken") rfl)
theorem Txt.b_int (T : Txt w K mg) : mg "int" = none := by
  obtain ⟨h, X, G, c⟩ := T.ex
  exact He.free_ok X G (c.t.d.fact 23 (f := .free "int") rfl)
theorem Txt.b_sorted (T : Txt w K mg) : mg "sorted" = none := by
  obtain ⟨h, X, G, c⟩ := T.ex
  exact He.free_ok X G (c.t.d.fact 24 (f := .free "sorted") rfl)
theorem Txt.e_NoWay (T : Txt w K mg) : ErrC K (He.ga K "NoWay") := by
  obtain ⟨h, X, G, c⟩ := T.ex
  exact (fun z => ⟨z.1, z.2.1, z.2.2.1, z.2.2.2⟩ : _ → ErrC K (He.ga K "NoWay")) (He.exc_ok (c.t.d.fact 25 (f := .exc "NoWay") rfl))
theorem Txt.b_list (T : Txt w K mg) : mg "list" = none := by
  obtain ⟨h, X, G, c⟩ := T.ex
  exact He.free_ok X G (c.t.d.fact 26 (f := .free "list") rfl)
theorem Txt.b_tuple (T : Txt w K mg) : mg "tuple" = none := by
  obtain ⟨h, X, G, c⟩ := T.ex
  exact He.free_ok X G (c.t.d.fact 27 (f := .free "tuple") rfl)
theorem Txt.v_MOST_COLUMNS (T : Txt w K mg) : ∃ t, mg "MOST_COLUMNS" = some (.int 12 t) := by
  obtain ⟨h, X, G, c⟩ := T.ex
  exact He.int_ok X G (c.t.d.fact 28 (f := .int "MOST_COLUMNS" 12) rfl)
theorem Txt.b_all (T : Txt w K mg) : mg "all" = none := by
  obtain ⟨h, X, G, c⟩ := T.ex
  exact He.free_ok X G (c.t.d.fact 29 (f := .free "all") rfl)
theorem Txt.b_bool (T : Txt w K mg) : mg "bool" = none := by
  obtain ⟨h, X, G, c⟩ := T.ex
  exact He.free_ok X G (c.t.d.fact 30 (f := .free "bool") rfl)
theorem Txt.v_MOST_SUMMED (T : Txt w K mg) : ∃ t, mg "MOST_SUMMED" = some (.int 8 t) := by
  obtain ⟨h, X, G, c⟩ := T.ex
  exact He.int_ok X G (c.t.d.fact 31 (f := .int "MOST_SUMMED" 8) rfl)
theorem Txt.b_set (T : Txt w K mg) : mg "set" = none := by
  obtain ⟨h, X, G, c⟩ := T.ex
  exact He.free_ok X G (c.t.d.fact 32 (f := .free "set") rfl)
theorem Txt.b_abs (T : Txt w K mg) : mg "abs" = none := by
  obtain ⟨h, X, G, c⟩ := T.ex
  exact He.free_ok X G (c.t.d.fact 33 (f := .free "abs") rfl)
theorem Txt.g__law_at (T : Txt w K mg) : mg "_law_at" = some (.ref (He.ga K "_law_at")) := by
  obtain ⟨h, X, G, c⟩ := T.ex
  exact He.glo_ok X G (c.t.d.fact 34 (f := .glo "_law_at") rfl)
theorem Txt.g_need (T : Txt w K mg) : mg "need" = some (.ref (He.ga K "need")) := by
  obtain ⟨h, X, G, c⟩ := T.ex
  exact He.glo_ok X G (c.t.d.fact 35 (f := .glo "need") rfl)
theorem Txt.g_copied (T : Txt w K mg) : mg "copied" = some (.ref (He.ga K "copied")) := by
  obtain ⟨h, X, G, c⟩ := T.ex
  exact He.glo_ok X G (c.t.d.fact 36 (f := .glo "copied") rfl)
theorem Txt.g_is_column (T : Txt w K mg) : mg "is_column" = some (.ref (He.ga K "is_column")) := by
  obtain ⟨h, X, G, c⟩ := T.ex
  exact He.glo_ok X G (c.t.d.fact 37 (f := .glo "is_column") rfl)
theorem Txt.g_width_of (T : Txt w K mg) : mg "width_of" = some (.ref (He.ga K "width_of")) := by
  obtain ⟨h, X, G, c⟩ := T.ex
  exact He.glo_ok X G (c.t.d.fact 38 (f := .glo "width_of") rfl)
theorem Txt.g_cut (T : Txt w K mg) : mg "cut" = some (.ref (He.ga K "cut")) := by
  obtain ⟨h, X, G, c⟩ := T.ex
  exact He.glo_ok X G (c.t.d.fact 39 (f := .glo "cut") rfl)
theorem Txt.g_joined (T : Txt w K mg) : mg "joined" = some (.ref (He.ga K "joined")) := by
  obtain ⟨h, X, G, c⟩ := T.ex
  exact He.glo_ok X G (c.t.d.fact 40 (f := .glo "joined") rfl)
theorem Txt.g_key_of (T : Txt w K mg) : mg "key_of" = some (.ref (He.ga K "key_of")) := by
  obtain ⟨h, X, G, c⟩ := T.ex
  exact He.glo_ok X G (c.t.d.fact 41 (f := .glo "key_of") rfl)
theorem Txt.g_summed (T : Txt w K mg) : mg "summed" = some (.ref (He.ga K "summed")) := by
  obtain ⟨h, X, G, c⟩ := T.ex
  exact He.glo_ok X G (c.t.d.fact 42 (f := .glo "summed") rfl)
theorem Txt.g__law_word (T : Txt w K mg) : mg "_law_word" = some (.ref (He.ga K "_law_word")) := by
  obtain ⟨h, X, G, c⟩ := T.ex
  exact He.glo_ok X G (c.t.d.fact 43 (f := .glo "_law_word") rfl)
theorem Txt.g__law_all (T : Txt w K mg) : mg "_law_all" = some (.ref (He.ga K "_law_all")) := by
  obtain ⟨h, X, G, c⟩ := T.ex
  exact He.glo_ok X G (c.t.d.fact 44 (f := .glo "_law_all") rfl)
theorem Txt.g__law_take (T : Txt w K mg) : mg "_law_take" = some (.ref (He.ga K "_law_take")) := by
  obtain ⟨h, X, G, c⟩ := T.ex
  exact He.glo_ok X G (c.t.d.fact 45 (f := .glo "_law_take") rfl)
theorem Txt.g__law_number (T : Txt w K mg) : mg "_law_number" = some (.ref (He.ga K "_law_number")) := by
  obtain ⟨h, X, G, c⟩ := T.ex
  exact He.glo_ok X G (c.t.d.fact 46 (f := .glo "_law_number") rfl)
theorem Txt.g__law_rows (T : Txt w K mg) : mg "_law_rows" = some (.ref (He.ga K "_law_rows")) := by
  obtain ⟨h, X, G, c⟩ := T.ex
  exact He.glo_ok X G (c.t.d.fact 47 (f := .glo "_law_rows") rfl)
theorem Txt.g__law_let (T : Txt w K mg) : mg "_law_let" = some (.ref (He.ga K "_law_let")) := by
  obtain ⟨h, X, G, c⟩ := T.ex
  exact He.glo_ok X G (c.t.d.fact 48 (f := .glo "_law_let") rfl)
theorem Txt.g__law_purse (T : Txt w K mg) : mg "_law_purse" = some (.ref (He.ga K "_law_purse")) := by
  obtain ⟨h, X, G, c⟩ := T.ex
  exact He.glo_ok X G (c.t.d.fact 49 (f := .glo "_law_purse") rfl)
theorem Txt.g__law_no_column (T : Txt w K mg) : mg "_law_no_column" = some (.ref (He.ga K "_law_no_column")) := by
  obtain ⟨h, X, G, c⟩ := T.ex
  exact He.glo_ok X G (c.t.d.fact 50 (f := .glo "_law_no_column") rfl)
theorem Txt.g__law_refused (T : Txt w K mg) : mg "_law_refused" = some (.ref (He.ga K "_law_refused")) := by
  obtain ⟨h, X, G, c⟩ := T.ex
  exact He.glo_ok X G (c.t.d.fact 51 (f := .glo "_law_refused") rfl)
theorem Txt.g_law (T : Txt w K mg) : mg "law" = some (.ref (He.ga K "law")) := by
  obtain ⟨h, X, G, c⟩ := T.ex
  exact He.glo_ok X G (c.t.d.fact 52 (f := .glo "law") rfl)
theorem Txt.dd__law_at (T : Txt w K mg) : ∃ fd, FunD K "_law_at" "_law_at" (defArgs s__law_at) (defBody s__law_at) (defScope s__law_at) [] [] (He.fAd K ("_law_at", none)) fd := by
  obtain ⟨h, X, G, c⟩ := T.ex
  exact c.t.d.def_ 0 (d := df__law_at) rfl
theorem Txt.dd_need (T : Txt w K mg) : ∃ fd, FunD K "need" "need" (defArgs s_need) (defBody s_need) (defScope s_need) [] [] (He.fAd K ("need", none)) fd := by
  obtain ⟨h, X, G, c⟩ := T.ex
  exact c.t.d.def_ 1 (d := df_need) rfl
theorem Txt.dd_copied (T : Txt w K mg) : ∃ fd, FunD K "copied" "copied" (defArgs s_copied) (defBody s_copied) (defScope s_copied) [] [] (He.fAd K ("copied", none)) fd := by
  obtain ⟨h, X, G, c⟩ := T.ex
  exact c.t.d.def_ 2 (d := df_copied) rfl
theorem Txt.dd_is_column (T : Txt w K mg) : ∃ fd, FunD K "is_column" "is_column" (defArgs s_is_columnW) (defBody s_is_columnW) (defScope s_is_columnW) [] [] (He.fAd K ("is_column", none)) fd := by
  obtain ⟨h, X, G, c⟩ := T.ex
  exact c.t.d.def_ 3 (d := df_is_column) rfl
theorem Txt.dd_width_of (T : Txt w K mg) : ∃ fd, FunD K "width_of" "width_of" (defArgs s_width_of) (defBody s_width_of) (defScope s_width_of) [] [] (He.fAd K ("width_of", none)) fd := by
  obtain ⟨h, X, G, c⟩ := T.ex
  exact c.t.d.def_ 4 (d := df_width_of) rfl
theorem Txt.dd_cut (T : Txt w K mg) : ∃ fd, FunD K "cut" "cut" (defArgs s_cutW) (defBody s_cutW) (defScope s_cutW) [] [] (He.fAd K ("cut", none)) fd := by
  obtain ⟨h, X, G, c⟩ := T.ex
  exact c.t.d.def_ 5 (d := df_cut) rfl
theorem Txt.dd_joined (T : Txt w K mg) : ∃ fd, FunD K "joined" "joined" (defArgs s_joinedW) (defBody s_joinedW) (defScope s_joinedW) [] [] (He.fAd K ("joined", none)) fd := by
  obtain ⟨h, X, G, c⟩ := T.ex
  exact c.t.d.def_ 6 (d := df_joined) rfl
theorem Txt.dd_key_of (T : Txt w K mg) : ∃ fd, FunD K "key_of" "key_of" (defArgs s_key_of) (defBody s_key_of) (defScope s_key_of) [] [] (He.fAd K ("key_of", none)) fd := by
  obtain ⟨h, X, G, c⟩ := T.ex
  exact c.t.d.def_ 7 (d := df_key_of) rfl
theorem Txt.dd_summed (T : Txt w K mg) : ∃ fd, FunD K "summed" "summed" (defArgs s_summedW) (defBody s_summedW) (defScope s_summedW) [.non] [] (He.fAd K ("summed", none)) fd := by
  obtain ⟨h, X, G, c⟩ := T.ex
  exact c.t.d.def_ 8 (d := df_summed) rfl
theorem Txt.dd__law_word (T : Txt w K mg) : ∃ fd, FunD K "_law_word" "_law_word" (defArgs s__law_word) (defBody s__law_word) (defScope s__law_word) [] [] (He.fAd K ("_law_word", none)) fd := by
  obtain ⟨h, X, G, c⟩ := T.ex
  exact c.t.d.def_ 9 (d := df__law_word) rfl
theorem Txt.dd__law_all (T : Txt w K mg) : ∃ fd, FunD K "_law_all" "_law_all" (defArgs s__law_all) (defBody s__law_all) (defScope s__law_all) [] [] (He.fAd K ("_law_all", none)) fd := by
  obtain ⟨h, X, G, c⟩ := T.ex
  exact c.t.d.def_ 10 (d := df__law_all) rfl
theorem Txt.dd__law_take (T : Txt w K mg) : ∃ fd, FunD K "_law_take" "_law_take" (defArgs s__law_take) (defBody s__law_take) (defScope s__law_take) [] [] (He.fAd K ("_law_take", none)) fd := by
  obtain ⟨h, X, G, c⟩ := T.ex
  exact c.t.d.def_ 11 (d := df__law_take) rfl
theorem Txt.dd__law_number (T : Txt w K mg) : ∃ fd, FunD K "_law_number" "_law_number" (defArgs s__law_number) (defBody s__law_number) (defScope s__law_number) [] [] (He.fAd K ("_law_number", none)) fd := by
  obtain ⟨h, X, G, c⟩ := T.ex
  exact c.t.d.def_ 12 (d := df__law_number) rfl
theorem Txt.dd__law_rows (T : Txt w K mg) : ∃ fd, FunD K "_law_rows" "_law_rows" (defArgs s__law_rows) (defBody s__law_rows) (defScope s__law_rows) [] [] (He.fAd K ("_law_rows", none)) fd := by
  obtain ⟨h, X, G, c⟩ := T.ex
  exact c.t.d.def_ 13 (d := df__law_rows) rfl
theorem Txt.dd__law_let (T : Txt w K mg) : ∃ fd, FunD K "_law_let" "_law_let" (defArgs s__law_let) (defBody s__law_let) (defScope s__law_let) [] [] (He.fAd K ("_law_let", none)) fd := by
  obtain ⟨h, X, G, c⟩ := T.ex
  exact c.t.d.def_ 14 (d := df__law_let) rfl
theorem Txt.dd__law_purse (T : Txt w K mg) : ∃ fd, FunD K "_law_purse" "_law_purse" (defArgs s__law_purse) (defBody s__law_purse) (defScope s__law_purse) [] [] (He.fAd K ("_law_purse", none)) fd := by
  obtain ⟨h, X, G, c⟩ := T.ex
  exact c.t.d.def_ 15 (d := df__law_purse) rfl
theorem Txt.dd__law_no_column (T : Txt w K mg) : ∃ fd, FunD K "_law_no_column" "_law_no_column" (defArgs s__law_no_column) (defBody s__law_no_column) (defScope s__law_no_column) [] [] (He.fAd K ("_law_no_column", none)) fd := by
  obtain ⟨h, X, G, c⟩ := T.ex
  exact c.t.d.def_ 16 (d := df__law_no_column) rfl
theorem Txt.dd__law_refused (T : Txt w K mg) : ∃ fd, FunD K "_law_refused" "_law_refused" (defArgs s__law_refused) (defBody s__law_refused) (defScope s__law_refused) [] [] (He.fAd K ("_law_refused", none)) fd := by
  obtain ⟨h, X, G, c⟩ := T.ex
  exact c.t.d.def_ 17 (d := df__law_refused) rfl
theorem Txt.dd_law (T : Txt w K mg) : ∃ fd, FunD K "law" "law" (defArgs s_law) (defBody s_law) (defScope s_law) [] [] (He.fAd K ("law", none)) fd := by
  obtain ⟨h, X, G, c⟩ := T.ex
  exact c.t.d.def_ 18 (d := df_law) rfl
theorem len__law_at (K : PySem.W.Frag) : ∀ vs H Q E, sp__law_at K vs H Q E → vs.length = 2 := by
  intro vs H Q E h
  unfold sp__law_at at h
  split at h <;> first | rfl | exact h.elim
theorem len_need (K : PySem.W.Frag) : ∀ vs H Q E, sp_need K vs H Q E → vs.length = 1 := by
  intro vs H Q E h
  unfold sp_need at h
  split at h <;> first | rfl | exact h.elim
theorem len_copied (K : PySem.W.Frag) : ∀ vs H Q E, sp_copied K vs H Q E → vs.length = 1 := by
  intro vs H Q E h
  unfold sp_copied at h
  split at h <;> first | rfl | exact h.elim
theorem len_is_columnW (K : PySem.W.Frag) : ∀ vs H Q E, sp_is_columnW K vs H Q E → vs.length = 2 := by
  intro vs H Q E h
  unfold sp_is_columnW at h
  split at h <;> first | rfl | exact h.elim
theorem len_width_of (K : PySem.W.Frag) : ∀ vs H Q E, sp_width_of K vs H Q E → vs.length = 1 := by
  intro vs H Q E h
  unfold sp_width_of at h
  split at h <;> first | rfl | exact h.elim
theorem len_cutW (K : PySem.W.Frag) : ∀ vs H Q E, sp_cutW K vs H Q E → vs.length = 2 := by
  intro vs H Q E h
  unfold sp_cutW at h
  split at h <;> first | rfl | exact h.elim
theorem len_joinedW (K : PySem.W.Frag) : ∀ vs H Q E, sp_joinedW K vs H Q E → vs.length = 2 := by
  intro vs H Q E h
  unfold sp_joinedW at h
  split at h <;> first | rfl | exact h.elim
theorem len_key_of (K : PySem.W.Frag) : ∀ vs H Q E, sp_key_of K vs H Q E → vs.length = 2 := by
  intro vs H Q E h
  unfold sp_key_of at h
  split at h <;> first | rfl | exact h.elim
theorem len_summedW (K : PySem.W.Frag) : ∀ vs H Q E, sp_summedW K vs H Q E → vs.length = 3 := by
  intro vs H Q E h
  unfold sp_summedW at h
  split at h <;> first | rfl | exact h.elim
theorem len__law_word (K : PySem.W.Frag) : ∀ vs H Q E, sp__law_word K vs H Q E → vs.length = 2 := by
  intro vs H Q E h
  unfold sp__law_word at h
  split at h <;> first | rfl | exact h.elim
theorem len__law_all (K : PySem.W.Frag) : ∀ vs H Q E, sp__law_all K vs H Q E → vs.length = 2 := by
  intro vs H Q E h
  unfold sp__law_all at h
  split at h <;> first | rfl | exact h.elim
theorem len__law_take (K : PySem.W.Frag) : ∀ vs H Q E, sp__law_take K vs H Q E → vs.length = 2 := by
  intro vs H Q E h
  unfold sp__law_take at h
  split at h <;> first | rfl | exact h.elim
theorem len__law_number (K : PySem.W.Frag) : ∀ vs H Q E, sp__law_number K vs H Q E → vs.length = 1 := by
  intro vs H Q E h
  unfold sp__law_number at h
  split at h <;> first | rfl | exact h.elim
theorem len__law_rows (K : PySem.W.Frag) : ∀ vs H Q E, sp__law_rows K vs H Q E → vs.length = 2 := by
  intro vs H Q E h
  unfold sp__law_rows at h
  split at h <;> first | rfl | exact h.elim
theorem len__law_let (K : PySem.W.Frag) : ∀ vs H Q E, sp__law_let K vs H Q E → vs.length = 3 := by
  intro vs H Q E h
  unfold sp__law_let at h
  split at h <;> first | rfl | exact h.elim
theorem len__law_purse (K : PySem.W.Frag) : ∀ vs H Q E, sp__law_purse K vs H Q E → vs.length = 1 := by
  intro vs H Q E h
  unfold sp__law_purse at h
  split at h <;> first | rfl | exact h.elim
theorem len__law_no_column (K : PySem.W.Frag) : ∀ vs H Q E, sp__law_no_column K vs H Q E → vs.length = 2 := by
  intro vs H Q E h
  unfold sp__law_no_column at h
  split at h <;> first | rfl | exact h.elim
theorem len__law_refused (K : PySem.W.Frag) : ∀ vs H Q E, sp__law_refused K vs H Q E → vs.length = 3 := by
  intro vs H Q E h
  unfold sp__law_refused at h
  split at h <;> first | rfl | exact h.elim
theorem len_law (K : PySem.W.Frag) : ∀ vs H Q E, sp_law K vs H Q E → vs.length = 1 := by
  intro vs H Q E h
  unfold sp_law at h
  split at h <;> first | rfl | exact h.elim
theorem body__law_at (T : Txt w K mg) {cdv : Value} {A : Around} {outer : List Env} {s : Shared} {H : Hp} {E : XK} (hr : Room 0 (A.deeper (envOfC "_law_at" (defScope s__law_at) s.heap.objs.size (He.fAd K ("_law_at", none)) cdv))) : PSs (cxOf CX0 P w K mg base M__law_at "_law_at" (defScope s__law_at) (He.fAd K ("_law_at", none)) cdv A outer s H E) (defBody s__law_at) (t__law_at K) := by
  
  refine PSs.nox ?_
  exact (pss_one (ps_ret (pe_ifExp (pt_cmpR op_lt (pv 1) (pe_callB call_len_seq (by rfl) (T.b_len) (by decide +kernel) (pa_cons (pv 0) pa_nil)) (nomark _)) (pe_ix ix_list (pv 0) (pv 1) (fun _ _ => rfl)) pe_int)))
theorem c__law_at (T : Txt w K mg) : U.Cal P w K mg base CX0 1 "_law_at" (sp__law_at K) [] := by
  obtain ⟨fd, F⟩ := T.dd__law_at
  have hb : Binds K fd ["_law_script", "_law_k"] [] := F.bindsN (ps := ["_law_script", "_law_k"]) (fun _ _ _ _ _ _ us hl => match us, hl with | [_, _], _ => rfl)
  exact ⟨⟨_, fd, _, [], F.ok (CX := CX0) sc__law_at (len__law_at K) (fun cdv A outer s H vs Q E hr h => ⟨t__law_at K, body__law_at T hr, pure__law_at vs H Q E h⟩), T.g__law_at, F.kp, hb, .nil⟩⟩
theorem body_need (T : Txt w K mg) {cdv : Value} {A : Around} {outer : List Env} {s : Shared} {H : Hp} {E : XK} (hr : Room 0 (A.deeper (envOfC "need" (defScope s_need) s.heap.objs.size (He.fAd K ("need", none)) cdv))) : PSs (cxOf (L2.CX P w) P w K mg base M_need "need" (defScope s_need) (He.fAd K ("need", none)) cdv A outer s H E) (defBody s_need) (t_need K (fun cls d _ H => E cls d H)) := by
  
  have tk : L2.Takes (cxOf (L2.CX P w) P w K mg base M_need "need" (defScope s_need) (He.fAd K ("need", none)) cdv A outer s H E) (fun cls d _ H => E cls d H) := L2.takes_of rfl rfl rfl rfl
  exact (pss_one (ps_if (pt_not (pt_val (pv 0))) (pss_one (ps_rs rfl tk T.e_NoWay T.g_NoWay (by rfl))) pss_nil))
theorem c_need (T : Txt w K mg) : U.Cal P w K mg base (L2.CX P w) 1 "need" (sp_need K) [] := by
  obtain ⟨fd, F⟩ := T.dd_need
  have hb : Binds K fd ["truth"] [] := F.bindsN (ps := ["truth"]) (fun _ _ _ _ _ _ us hl => match us, hl with | [_], _ => rfl)
  exact ⟨⟨_, fd, _, [], F.ok (CX := (L2.CX P w)) sc_need (len_need K) (fun cdv A outer s H vs Q E hr h => ⟨t_need K (fun cls d _ H => E cls d H), body_need T hr, pure_need vs H Q E h⟩), T.g_need, F.kp, hb, .nil⟩⟩
theorem body_copied (T : Txt w K mg) {cdv : Value} {A : Around} {outer : List Env} {s : Shared} {H : Hp} {E : XK} (hr : Room 1 (A.deeper (envOfC "copied" (defScope s_copied) s.heap.objs.size (He.fAd K ("copied", none)) cdv))) : PSs (cxOf (L2.CX P w) P w K mg base M_copied "copied" (defScope s_copied) (He.fAd K ("copied", none)) cdv A outer s H E) (defBody s_copied) (t_copied K (fun cls d _ H => E cls d H)) := by
  have c_need := c_need (P := P) (base := base) T
  have tk : L2.Takes (cxOf (L2.CX P w) P w K mg base M_copied "copied" (defScope s_copied) (He.fAd K ("copied", none)) cdv A outer s H E) (fun cls d _ H => E cls d H) := L2.takes_of rfl rfl rfl rfl
  exact (pss_cons (ps_expr (U.pe_c (E := (WE (fun cls d _ H => E cls d H))) c_need hr (by decide) (fun σ => passAt tk σ) (by rfl) (pa_cons (pe_cmpR op_gt (pe_callB call_lenD (by rfl) (T.b_len) (by decide +kernel) (pa_cons (pv 0) pa_nil)) pe_int (nomark _)) pa_nil)))
  (pss_cons (ps_asg (pe_dnewK) (pg_name (i := 1) sc_copied.nd rfl (by first | exact Or.inl rfl | exact Or.inr rfl)))
  (pss_cons (ps_for (passes_of rfl) rfl (pi_list (pe_callB (call_sortedDI rfl) (by rfl) (T.b_sorted) (by decide +kernel) (pa_cons (pv 0) pa_nil))) (pg_name (i := 2) sc_copied.nd rfl (by first | exact Or.inl rfl | exact Or.inr rfl)) (pss_one (ps_dput (hu_of hr) (pv 1) (pv 2) (pe_dget (hu_of hr) (pv 0) (pv 2) (fun _ _ => rfl)) rfl)))
  (pss_one (ps_ret (pv 1))))))
theorem c_copied (T : Txt w K mg) : U.Cal P w K mg base (L2.CX P w) 2 "copied" (sp_copied K) [] := by
  obtain ⟨fd, F⟩ := T.dd_copied
  have hb : Binds K fd ["rows"] [] := F.bindsN (ps := ["rows"]) (fun _ _ _ _ _ _ us hl => match us, hl with | [_], _ => rfl)
  exact ⟨⟨_, fd, _, [], F.ok (CX := (L2.CX P w)) sc_copied (len_copied K) (fun cdv A outer s H vs Q E hr h => ⟨t_copied K (fun cls d _ H => E cls d H), body_copied T hr, pure_copied vs H Q E h⟩), T.g_copied, F.kp, hb, .nil⟩⟩
theorem body_is_column (T : Txt w K mg) {cdv : Value} {A : Around} {outer : List Env} {s : Shared} {H : Hp} {E : XK} (hr : Room 0 (A.deeper (envOfC "is_column" (defScope s_is_columnW) s.heap.objs.size (He.fAd K ("is_column", none)) cdv))) : PSs (cxOf CX0 P w K mg base M_is_columnW "is_column" (defScope s_is_columnW) (He.fAd K ("is_column", none)) cdv A outer s H E) (defBody s_is_columnW) (t_is_columnW K) := by
  
  refine PSs.nox ?_
  exact (pss_one (ps_ret (pe_and (pe_callB call_isi (by rfl) (T.b_isinstance) (by decide +kernel) (pa_cons (pv 0) (pa_cons (pe_ty (by rfl) (T.b_int) (by decide +kernel)) pa_nil))) (pe_and (pe_not (pe_callB call_isi (by rfl) (T.b_isinstance) (by decide +kernel) (pa_cons (pv 0) (pa_cons (pe_ty (by rfl) (T.b_bool) (by decide +kernel)) pa_nil)))) (pe_one (pe_chain op_le op_lt pe_int (pv 0) (pv 1)))))))
theorem c_is_columnW (T : Txt w K mg) : U.Cal P w K mg base CX0 1 "is_column" (sp_is_columnW K) [] := by
  obtain ⟨fd, F⟩ := T.dd_is_column
  have hb : Binds K fd ["thing", "width"] [] := F.bindsN (ps := ["thing", "width"]) (fun _ _ _ _ _ _ us hl => match us, hl with | [_, _], _ => rfl)
  exact ⟨⟨_, fd, _, [], F.ok (CX := CX0) sc_is_columnW (len_is_columnW K) (fun cdv A outer s H vs Q E hr h => ⟨t_is_columnW K, body_is_column T hr, pure_is_columnW vs H Q E h⟩), T.g_is_column, F.kp, hb, .nil⟩⟩
theorem body_width_of (T : Txt w K mg) {cdv : Value} {A : Around} {outer : List Env} {s : Shared} {H : Hp} {E : XK} (hr : Room 1 (A.deeper (envOfC "width_of" (defScope s_width_of) s.heap.objs.size (He.fAd K ("width_of", none)) cdv))) : PSs (cxOf (L2.CX P w) P w K mg base M_width_of "width_of" (defScope s_width_of) (He.fAd K ("width_of", none)) cdv A outer s H E) (defBody s_width_of) (t_width_of K (fun cls d _ H => E cls d H)) := by
  have c_need := c_need (P := P) (base := base) T
  have tk : L2.Takes (cxOf (L2.CX P w) P w K mg base M_width_of "width_of" (defScope s_width_of) (He.fAd K ("width_of", none)) cdv A outer s H E) (fun cls d _ H => E cls d H) := L2.takes_of rfl rfl rfl rfl
  exact (pss_cons (ps_expr (U.pe_c (E := (WE (fun cls d _ H => E cls d H))) c_need hr (by decide) (fun σ => passAt tk σ) (by rfl) (pa_cons (pe_cmpR op_gt (pe_callB call_lenD (by rfl) (T.b_len) (by decide +kernel) (pa_cons (pv 0) pa_nil)) pe_int (nomark _)) pa_nil)))
  (pss_one (ps_ret (pe_callB (cr_max rfl) (by rfl) (T.b_max) (by decide +kernel) (pa_cons (pe_lock (pe_lc (own := [("row", 1)]) (g := (gName 1)) (tt := tYes) rfl sc_width_of.nd (pi_values (pv 0)) (blkOk_by (N := M_width_of) (sc := defScope s_width_of) (own := [("row", 1)]) (by decide +kernel)) (fun _ _ _ _ _ => (pg_name (i := 1) sc_width_of.nd rfl (by first | exact Or.inl rfl | exact Or.inr rfl))) (fun _ _ _ _ _ => pts_nil) (fun _ _ _ _ _ => (pe_callB call_len_seq (by rfl) (T.b_len) (by decide +kernel) (pa_cons (pv 1) pa_nil))))) pa_nil)))))
theorem c_width_of (T : Txt w K mg) : U.Cal P w K mg base (L2.CX P w) 2 "width_of" (sp_width_of K) [] := by
  obtain ⟨fd, F⟩ := T.dd_width_of
  have hb : Binds K fd ["rows"] [] := F.bindsN (ps := ["rows"]) (fun _ _ _ _ _ _ us hl => match us, hl with | [_], _ => rfl)
  exact ⟨⟨_, fd, _, [], F.ok (CX := (L2.CX P w)) sc_width_of (len_width_of K) (fun cdv A outer s H vs Q E hr h => ⟨t_width_of K (fun cls d _ H => E cls d H), body_width_of T hr, pure_width_of vs H Q E h⟩), T.g_width_of, F.kp, hb, .nil⟩⟩
theorem body_cut (T : Txt w K mg) {cdv : Value} {A : Around} {outer : List Env} {s : Shared} {H : Hp} {E : XK} (hr : Room 2 (A.deeper (envOfC "cut" (defScope s_cutW) s.heap.objs.size (He.fAd K ("cut", none)) cdv))) : PSs (cxOf (L2.CX P w) P w K mg base M_cutW "cut" (defScope s_cutW) (He.fAd K ("cut", none)) cdv A outer s H E) (defBody s_cutW) (t_cutW K (fun cls d _ H => E cls d H)) := by
  have c_is_columnW := c_is_columnW (P := P) (base := base) T
  have c_need := c_need (P := P) (base := base) T
  have c_width_of := c_width_of (P := P) (base := base) T
  have tk : L2.Takes (cxOf (L2.CX P w) P w K mg base M_cutW "cut" (defScope s_cutW) (He.fAd K ("cut", none)) cdv A outer s H E) (fun cls d _ H => E cls d H) := L2.takes_of rfl rfl rfl rfl
  exact (pss_cons (ps_asg (U.pe_c (E := (WE (fun cls d _ H => E cls d H))) c_width_of hr (by decide) (fun σ => passAt tk σ) (by rfl) (pa_cons (pv 0) pa_nil)) (pg_name (i := 2) sc_cutW.nd rfl (by first | exact Or.inl rfl | exact Or.inr rfl)))
  (pss_cons (ps_expr (U.pe_c (E := (WE (fun cls d _ H => E cls d H))) c_need hr (by decide) (fun σ => passAt tk σ) (by rfl) (pa_cons (pe_and (pe_callB call_isiT (by rfl) (T.b_isinstance) (by decide +kernel) (pa_cons (pv 1) (pa_cons (pe_tup (pa_cons (pe_ty (by rfl) (T.b_list) (by decide +kernel)) (pa_cons (pe_ty (by rfl) (T.b_tuple) (by decide +kernel)) pa_nil))) pa_nil))) (pe_one (pe_chain op_le op_le pe_int (pe_callB call_len_seq (by rfl) (T.b_len) (by decide +kernel) (pa_cons (pv 1) pa_nil)) (pe_gi (by rfl) T.v_MOST_COLUMNS)))) pa_nil)))
  (pss_cons (ps_expr (U.pe_c (E := (WE (fun cls d _ H => E cls d H))) c_need hr (by decide) (fun σ => passAt tk σ) (by rfl) (pa_cons (pe_callB (cr_all rfl) (by rfl) (T.b_all) (by decide +kernel) (pa_cons (pe_lc (own := [("column", 5)]) (g := (gName 5)) (tt := tYes) rfl sc_cutW.nd (pi_list (pv 1)) (blkOk_by (N := M_cutW) (sc := defScope s_cutW) (own := [("column", 5)]) (by decide +kernel)) (fun _ _ _ _ _ => (pg_name (i := 5) sc_cutW.nd rfl (by first | exact Or.inl rfl | exact Or.inr rfl))) (fun _ _ _ _ _ => pts_nil) (fun _ _ _ _ _ => (U.pe_c (E := ES0) c_is_columnW hr (by decide) ps0 (by rfl) (pa_cons (pv 5) (pa_cons (pv 2) pa_nil))))) pa_nil)) pa_nil)))
  (pss_cons (ps_asg (pe_dnewK) (pg_name (i := 3) sc_cutW.nd rfl (by first | exact Or.inl rfl | exact Or.inr rfl)))
  (pss_cons (ps_for (passes_of rfl) rfl (pi_list (pe_callB (call_sortedDI rfl) (by rfl) (T.b_sorted) (by decide +kernel) (pa_cons (pv 0) pa_nil))) (pg_name (i := 4) sc_cutW.nd rfl (by first | exact Or.inl rfl | exact Or.inr rfl)) (pss_one (ps_dput (hu_of hr) (pv 3) (pv 4) (pe_callTy call_tuple_of (by rfl) (T.b_tuple) (by decide +kernel) (pa_cons (pe_lc (own := [("column", 5)]) (g := (gName 5)) (tt := tYes) rfl sc_cutW.nd (pi_list (pv 1)) (blkOk_by (N := M_cutW) (sc := defScope s_cutW) (own := [("column", 5)]) (by decide +kernel)) (fun _ _ _ _ _ => (pg_name (i := 5) sc_cutW.nd rfl (by first | exact Or.inl rfl | exact Or.inr rfl))) (fun _ _ _ _ _ => pts_nil) (fun _ _ _ _ _ => (pe_ix ix_tup (pe_dget (hu_of hr) (pv 0) (pv 4) (fun _ _ => rfl)) (pv 5) (fun _ _ => rfl)))) pa_nil)) rfl)))
  (pss_one (ps_ret (pv 3))))))))
theorem c_cutW (T : Txt w K mg) : U.Cal P w K mg base (L2.CX P w) 3 "cut" (sp_cutW K) [] := by
  obtain ⟨fd, F⟩ := T.dd_cut
  have hb : Binds K fd ["rows", "columns"] [] := F.bindsN (ps := ["rows", "columns"]) (fun _ _ _ _ _ _ us hl => match us, hl with | [_, _], _ => rfl)
  exact ⟨⟨_, fd, _, [], F.ok (CX := (L2.CX P w)) sc_cutW (len_cutW K) (fun cdv A outer s H vs Q E hr h => ⟨t_cutW K (fun cls d _ H => E cls d H), body_cut T hr, pure_cutW vs H Q E h⟩), T.g_cut, F.kp, hb, .nil⟩⟩
theorem body_joined (T : Txt w K mg) {cdv : Value} {A : Around} {outer : List Env} {s : Shared} {H : Hp} {E : XK} (hr : Room 2 (A.deeper (envOfC "joined" (defScope s_joinedW) s.heap.objs.size (He.fAd K ("joined", none)) cdv))) : PSs (cxOf (L2.CX P w) P w K mg base M_joinedW "joined" (defScope s_joinedW) (He.fAd K ("joined", none)) cdv A outer s H E) (defBody s_joinedW) (t_joinedW K (fun cls d _ H => E cls d H)) := by
  have c_need := c_need (P := P) (base := base) T
  have c_width_of := c_width_of (P := P) (base := base) T
  have tk : L2.Takes (cxOf (L2.CX P w) P w K mg base M_joinedW "joined" (defScope s_joinedW) (He.fAd K ("joined", none)) cdv A outer s H E) (fun cls d _ H => E cls d H) := L2.takes_of rfl rfl rfl rfl
  exact (pss_cons (ps_expr (U.pe_c (E := (WE (fun cls d _ H => E cls d H))) c_need hr (by decide) (fun σ => passAt tk σ) (by rfl) (pa_cons (pe_cmpR op_le (pe_op op_add (U.pe_c (E := (WE (fun cls d _ H => E cls d H))) c_width_of hr (by decide) (fun σ => passAt tk σ) (by rfl) (pa_cons (pv 0) pa_nil)) (U.pe_c (E := (WE (fun cls d _ H => E cls d H))) c_width_of hr (by decide) (fun σ => passAt tk σ) (by rfl) (pa_cons (pv 1) pa_nil))) (pe_gi (by rfl) T.v_MOST_COLUMNS) (nomark _)) pa_nil)))
  (pss_cons (ps_asg (pe_dnewK) (pg_name (i := 2) sc_joinedW.nd rfl (by first | exact Or.inl rfl | exact Or.inr rfl)))
  (pss_cons (ps_for (passes_of rfl) rfl (pi_list (pe_callB (call_sortedDI rfl) (by rfl) (T.b_sorted) (by decide +kernel) (pa_cons (pv 0) pa_nil))) (pg_name (i := 3) sc_joinedW.nd rfl (by first | exact Or.inl rfl | exact Or.inr rfl)) (pss_one (ps_if (pt_cmp (pc_din (hu_of hr) (pv 3) (pv 1)) (by rfl)) (pss_one (ps_dput (hu_of hr) (pv 2) (pv 3) (pe_op op_catT (pe_dget (hu_of hr) (pv 0) (pv 3) (fun _ _ => rfl)) (pe_dget (hu_of hr) (pv 1) (pv 3) (fun _ _ => rfl))) rfl)) pss_nil)))
  (pss_one (ps_ret (pv 2))))))
theorem c_joinedW (T : Txt w K mg) : U.Cal P w K mg base (L2.CX P w) 3 "joined" (sp_joinedW K) [] := by
  obtain ⟨fd, F⟩ := T.dd_joined
  have hb : Binds K fd ["one", "other"] [] := F.bindsN (ps := ["one", "other"]) (fun _ _ _ _ _ _ us hl => match us, hl with | [_, _], _ => rfl)
  exact ⟨⟨_, fd, _, [], F.ok (CX := (L2.CX P w)) sc_joinedW (len_joinedW K) (fun cdv A outer s H vs Q E hr h => ⟨t_joinedW K (fun cls d _ H => E cls d H), body_joined T hr, pure_joinedW vs H Q E h⟩), T.g_joined, F.kp, hb, .nil⟩⟩
theorem body_key_of (T : Txt w K mg) {cdv : Value} {A : Around} {outer : List Env} {s : Shared} {H : Hp} {E : XK} (hr : Room 0 (A.deeper (envOfC "key_of" (defScope s_key_of) s.heap.objs.size (He.fAd K ("key_of", none)) cdv))) : PSs (cxOf CX0 P w K mg base M_key_of "key_of" (defScope s_key_of) (He.fAd K ("key_of", none)) cdv A outer s H E) (defBody s_key_of) (t_key_of K) := by
  
  refine PSs.nox ?_
  exact (pss_cons (ps_if (pt_cmpR op_isN (pv 1) pe_non (nomark _)) (pss_one (ps_ret pe_int)) pss_nil)
  (pss_one (ps_ret (pe_ix ix_tup (pv 0) (pv 1) (fun _ _ => rfl)))))
theorem c_key_of (T : Txt w K mg) : U.Cal P w K mg base CX0 1 "key_of" (sp_key_of K) [] := by
  obtain ⟨fd, F⟩ := T.dd_key_of
  have hb : Binds K fd ["row", "by"] [] := F.bindsN (ps := ["row", "by"]) (fun _ _ _ _ _ _ us hl => match us, hl with | [_, _], _ => rfl)
  exact ⟨⟨_, fd, _, [], F.ok (CX := CX0) sc_key_of (len_key_of K) (fun cdv A outer s H vs Q E hr h => ⟨t_key_of K, body_key_of T hr, pure_key_of vs H Q E h⟩), T.g_key_of, F.kp, hb, .nil⟩⟩
theorem body_summed (T : Txt w K mg) {cdv : Value} {A : Around} {outer : List Env} {s : Shared} {H : Hp} {E : XK} (hr : Room 2 (A.deeper (envOfC "summed" (defScope s_summedW) s.heap.objs.size (He.fAd K ("summed", none)) cdv))) : PSs (cxOf (L2.CX P w) P w K mg base M_summedW "summed" (defScope s_summedW) (He.fAd K ("summed", none)) cdv A outer s H E) (defBody s_summedW) (t_summedW K (fun cls d _ H => E cls d H) w) := by
  have c_is_columnW := c_is_columnW (P := P) (base := base) T
  have c_key_of := c_key_of (P := P) (base := base) T
  have c_need := c_need (P := P) (base := base) T
  have c_width_of := c_width_of (P := P) (base := base) T
  have tk : L2.Takes (cxOf (L2.CX P w) P w K mg base M_summedW "summed" (defScope s_summedW) (He.fAd K ("summed", none)) cdv A outer s H E) (fun cls d _ H => E cls d H) := L2.takes_of rfl rfl rfl rfl
  exact (pss_cons (ps_expr (U.pe_c (E := (WE (fun cls d _ H => E cls d H))) c_need hr (by decide) (fun σ => passAt tk σ) (by rfl) (pa_cons (pe_and (pe_callB call_isiT (by rfl) (T.b_isinstance) (by decide +kernel) (pa_cons (pv 0) (pa_cons (pe_tup (pa_cons (pe_ty (by rfl) (T.b_list) (by decide +kernel)) (pa_cons (pe_ty (by rfl) (T.b_tuple) (by decide +kernel)) pa_nil))) pa_nil))) (pe_one (pe_chain op_le op_le pe_int (pe_callB call_len_seq (by rfl) (T.b_len) (by decide +kernel) (pa_cons (pv 0) pa_nil)) (pe_gi (by rfl) T.v_MOST_SUMMED)))) pa_nil)))
  (pss_cons (ps_for (passes_of rfl) rfl (pi_list (pv 0)) (pg_name (i := 3) sc_summedW.nd rfl (by first | exact Or.inl rfl | exact Or.inr rfl)) (pss_one (ps_expr (U.pe_c (E := (WE (fun cls d _ H => E cls d H))) c_need hr (by decide) (fun σ => passAt tk σ) (by rfl) (pa_cons (pe_and (U.pe_c (E := ES0) c_is_columnW hr (by decide) ps0 (by rfl) (pa_cons (pv 1) (pa_cons (U.pe_c (E := (WE (fun cls d _ H => E cls d H))) c_width_of hr (by decide) (fun σ => passAt tk σ) (by rfl) (pa_cons (pv 3) pa_nil)) pa_nil))) (pe_one (pe_or (pe_cmpR op_isN (pv 2) pe_non (nomark _)) (pe_one (U.pe_c (E := ES0) c_is_columnW hr (by decide) ps0 (by rfl) (pa_cons (pv 2) (pa_cons (U.pe_c (E := (WE (fun cls d _ H => E cls d H))) c_width_of hr (by decide) (fun σ => passAt tk σ) (by rfl) (pa_cons (pv 3) pa_nil)) pa_nil))))))) pa_nil)))))
  (pss_cons (ps_asg (pe_dnewK) (pg_name (i := 4) sc_summedW.nd rfl (by first | exact Or.inl rfl | exact Or.inr rfl)))
  (pss_cons (ps_for (passes_of rfl) rfl (pi_list (pv 0)) (pg_name (i := 3) sc_summedW.nd rfl (by first | exact Or.inl rfl | exact Or.inr rfl)) (pss_one (ps_lock (ps_for (passes_of rfl) rfl (pi_keys (pv 3)) (pg_name (i := 5) sc_summedW.nd rfl (by first | exact Or.inl rfl | exact Or.inr rfl)) (pss_cons (ps_asg (U.pe_c (E := ES0) c_key_of hr (by decide) ps0 (by rfl) (pa_cons (pe_dget (hu_of hr) (pv 3) (pv 5) (fun _ _ => rfl)) (pa_cons (pv 2) pa_nil))) (pg_name (i := 6) sc_summedW.nd rfl (by first | exact Or.inl rfl | exact Or.inr rfl)))
  (pss_cons (ps_asg (pe_dget2 (hu_of hr) (pv 4) (pv 6) (pe_tup (pa_cons (pe_lst pa_nil) (pa_cons pe_int pa_nil))) ⟨by rfl, by rfl, by rfl, by rfl⟩) (pg_tup rfl (pgs_cons (pg_name (i := 7) sc_summedW.nd rfl (by first | exact Or.inl rfl | exact Or.inr rfl)) (pgs_cons (pg_name (i := 8) sc_summedW.nd rfl (by first | exact Or.inl rfl | exact Or.inr rfl)) pgs_nil))))
  (pss_one (ps_dput (hu_of hr) (pv 4) (pv 6) (pe_tup (pa_cons (pe_callB (cr_sortedSet rfl) (by rfl) (T.b_sorted) (by decide +kernel) (pa_cons (pe_callTy (cr_setL rfl) (by rfl) (T.b_set) (by decide +kernel) (pa_cons (pe_op op_cat (pv 7) (pe_lst (pa_cons (pv 5) pa_nil))) pa_nil)) pa_nil)) (pa_cons (pe_op op_add (pv 8) (pe_ix ix_tup (pe_dget (hu_of hr) (pv 3) (pv 5) (fun _ _ => rfl)) (pv 1) (fun _ _ => rfl))) pa_nil))) rfl))))))))
  (pss_one (ps_ret (pv 4)))))))
theorem c_summedW (T : Txt w K mg) : U.Cal P w K mg base (L2.CX P w) 3 "summed" (sp_summedW K) [] := by
  obtain ⟨fd, F⟩ := T.dd_summed
  obtain ⟨ds, hv, hb⟩ := F.binds1 (ps := ["some", "column", "by"]) 3 1 (by decide) (by decide) (fun T kV doc pm an cdv ct us its h1 h2 => match us, its, h1, h2 with | [u0, u1, u2], [i0], _, _ => ⟨_, rfl, rfl⟩)
  exact ⟨⟨_, fd, _, ds, F.ok (CX := (L2.CX P w)) sc_summedW (len_summedW K) (fun cdv A outer s H vs Q E hr h => ⟨t_summedW K (fun cls d _ H => E cls d H) w, body_summed T hr, pure_summedW w vs H Q E h⟩), T.g_summed, F.kp, hb, hv⟩⟩
theorem body__law_word (T : Txt w K mg) {cdv : Value} {A : Around} {outer : List Env} {s : Shared} {H : Hp} {E : XK} (hr : Room 3 (A.deeper (envOfC "_law_word" (defScope s__law_word) s.heap.objs.size (He.fAd K ("_law_word", none)) cdv))) : PSs (cxOf CX0 P w K mg base M__law_word "_law_word" (defScope s__law_word) (He.fAd K ("_law_word", none)) cdv A outer s H E) (defBody s__law_word) (t__law_word K) := by
  have c_copied := c_copied (P := P) (base := base) T
  have c_cutW := c_cutW (P := P) (base := base) T
  have c_joinedW := c_joinedW (P := P) (base := base) T
  have c_summedW := c_summedW (P := P) (base := base) T
  refine PSs.nox ?_
  exact (pss_cons (ps_asg pe_str (pg_name (i := 2) sc__law_word.nd rfl (by first | exact Or.inl rfl | exact Or.inr rfl)))
  (pss_cons (ps_try_as (i := 3) (tb := fun W => (tIfS (tTest (tOp rEq (tVar 0) (tC (.str "copied")))) (tDrop (tCl (sp_copied K) [] (WE W) (tCons (tOp (rIxL K) (tVar 1) (tC (.int 0))) tNil))) (tIfS (tTest (tOp rEq (tVar 0) (tC (.str "cut")))) (tDrop (tCl (sp_cutW K) [] (WE W) (tCons (tOp (rIxL K) (tVar 1) (tC (.int 0))) (tCons (tOp (rIxL K) (tVar 1) (tC (.int 1))) tNil)))) (tIfS (tTest (tOp rEq (tVar 0) (tC (.str "joined")))) (tDrop (tCl (sp_joinedW K) [] (WE W) (tCons (tOp (rIxL K) (tVar 1) (tC (.int 0))) (tCons (tOp (rIxL K) (tVar 1) (tC (.int 1))) tNil)))) (tDrop (tCl (sp_summedW K) [] (WE W) (tCons (tOp (rIxL K) (tVar 1) (tC (.int 0))) (tCons (tOp (rIxL K) (tVar 1) (tC (.int 1))) (tCons (tOp (rIxL K) (tVar 1) (tC (.int 2))) tNil))))))))) (ts := fun ea cls ed => (tSeq (tAsg (tLst (tCons (tCB (rIsX K ea cls ed) (tCons (tVar 3) (tCons (tC (.ref (He.ga K "NoWay"))) tNil))) (tCons (tCB (rIsX K ea cls ed) (tCons (tVar 3) (tCons (tC (.ty "ValueError")) tNil))) tNil))) (gName 4))
  (tSeq (tDrop (tBM K "list" rAppend (tVar 4) (tCons (tCB (rIsXT K ea cls ed) (tCons (tVar 3) (tCons (tTup (tCons (tC (.ref (He.ga K "Answered"))) (tCons (tC (.ref (He.ga K "BadKind"))) (tCons (tC (.ref (He.ga K "NoAnswer"))) (tCons (tC (.ref (He.ga K "NoDay"))) (tCons (tC (.ref (He.ga K "NoHold"))) (tCons (tC (.ref (He.ga K "NoKind"))) (tCons (tC (.ref (He.ga K "NoMatter"))) (tCons (tC (.ref (He.ga K "NoName"))) (tCons (tC (.ref (He.ga K "NoPerson"))) tNil)))))))))) tNil))) tNil)))
  (tSeq (tDrop (tBM K "list" rAppend (tVar 4) (tCons (tCB (rIsXT K ea cls ed) (tCons (tVar 3) (tCons (tTup (tCons (tC (.ref (He.ga K "NoRows"))) (tCons (tC (.ref (He.ga K "NoTelling"))) (tCons (tC (.ref (He.ga K "NoText"))) (tCons (tC (.ref (He.ga K "NoThing"))) (tCons (tC (.ref (He.ga K "Taken"))) tNil)))))) tNil))) tNil)))
  (tAsg (tOp (rIxL K) (tLst (tCons (tC (.str "other")) (tCons (tC (.str "refused")) tNil))) (tCB rInt1 (tCons (tOp (rEqD K) (tVar 4) (tLst (tCons (tC (.bl true)) (tCons (tC (.bl true)) (tCons (tC (.bl false)) (tCons (tC (.bl false)) tNil)))))) tNil))) (gName 2)))))) (Wout := fun _ _ _ _ => False) rfl rfl sc__law_word.nd rfl rfl ⟨rfl, by decide, .inl T.g_HallError⟩ takes0 (fun W pn xe tk hpo => (pss_one (ps_if (pt_cmpR op_eq (pv 0) pe_str (nomark _)) (pss_one (ps_expr (U.pe_c (E := (WE W)) c_copied hr (by decide) (fun σ => passAt tk σ) (by rfl) (pa_cons (pe_ix ix_list (pv 1) pe_int (fun _ _ => rfl)) pa_nil)))) (pss_one (ps_if (pt_cmpR op_eq (pv 0) pe_str (nomark _)) (pss_one (ps_expr (U.pe_c (E := (WE W)) c_cutW hr (by decide) (fun σ => passAt tk σ) (by rfl) (pa_cons (pe_ix ix_list (pv 1) pe_int (fun _ _ => rfl)) (pa_cons (pe_ix ix_list (pv 1) pe_int (fun _ _ => rfl)) pa_nil))))) (pss_one (ps_if (pt_cmpR op_eq (pv 0) pe_str (nomark _)) (pss_one (ps_expr (U.pe_c (E := (WE W)) c_joinedW hr (by decide) (fun σ => passAt tk σ) (by rfl) (pa_cons (pe_ix ix_list (pv 1) pe_int (fun _ _ => rfl)) (pa_cons (pe_ix ix_list (pv 1) pe_int (fun _ _ => rfl)) pa_nil))))) (pss_one (ps_expr (U.pe_c (E := (WE W)) c_summedW hr (by decide) (fun σ => passAt tk σ) (by rfl) (pa_cons (pe_ix ix_list (pv 1) pe_int (fun _ _ => rfl)) (pa_cons (pe_ix ix_list (pv 1) pe_int (fun _ _ => rfl)) (pa_cons (pe_ix ix_list (pv 1) pe_int (fun _ _ => rfl)) pa_nil))))))))))))) (fun ea oe cls ed pn hz hf => (pss_cons (ps_asg (pe_lst (pa_cons (pe_callB (call_isX hz hf) (by rfl) (T.b_isinstance) (by decide +kernel) (pa_cons (pv 3) (pa_cons (pe_gr (by rfl) T.g_NoWay) pa_nil))) (pa_cons (pe_callB (call_isX hz hf) (by rfl) (T.b_isinstance) (by decide +kernel) (pa_cons (pv 3) (pa_cons (pe_ty (by rfl) (T.b_ValueError) (by decide +kernel)) pa_nil))) pa_nil))) (pg_name (i := 4) sc__law_word.nd rfl (by first | exact Or.inl rfl | exact Or.inr rfl)))
  (pss_cons (ps_expr (pe_bm PySem.F.plainAttrs_list PySem.F.slot_list_append PySem.F.type_list_append mt_append (pv 4) (pa_cons (pe_callB (call_isXT hz hf) (by rfl) (T.b_isinstance) (by decide +kernel) (pa_cons (pv 3) (pa_cons (pe_tup (pa_cons (pe_gr (by rfl) T.g_Answered) (pa_cons (pe_gr (by rfl) T.g_BadKind) (pa_cons (pe_gr (by rfl) T.g_NoAnswer) (pa_cons (pe_gr (by rfl) T.g_NoDay) (pa_cons (pe_gr (by rfl) T.g_NoHold) (pa_cons (pe_gr (by rfl) T.g_NoKind) (pa_cons (pe_gr (by rfl) T.g_NoMatter) (pa_cons (pe_gr (by rfl) T.g_NoName) (pa_cons (pe_gr (by rfl) T.g_NoPerson) pa_nil)))))))))) pa_nil))) pa_nil)))
  (pss_cons (ps_expr (pe_bm PySem.F.plainAttrs_list PySem.F.slot_list_append PySem.F.type_list_append mt_append (pv 4) (pa_cons (pe_callB (call_isXT hz hf) (by rfl) (T.b_isinstance) (by decide +kernel) (pa_cons (pv 3) (pa_cons (pe_tup (pa_cons (pe_gr (by rfl) T.g_NoRows) (pa_cons (pe_gr (by rfl) T.g_NoTelling) (pa_cons (pe_gr (by rfl) T.g_NoText) (pa_cons (pe_gr (by rfl) T.g_NoThing) (pa_cons (pe_gr (by rfl) T.g_Taken) pa_nil)))))) pa_nil))) pa_nil)))
  (pss_one (ps_asg (pe_ix ix_list (pe_lst (pa_cons pe_str (pa_cons pe_str pa_nil))) (pe_callTy call_int1 (by rfl) (T.b_int) (by decide +kernel) (pa_cons (pe_cmpR (op_eqD hr.units) (pv 4) (pe_lst (pa_cons pe_bl (pa_cons pe_bl (pa_cons pe_bl (pa_cons pe_bl pa_nil))))) (nomark _)) pa_nil)) (fun _ _ => rfl)) (pg_name (i := 2) sc__law_word.nd rfl (by first | exact Or.inl rfl | exact Or.inr rfl)))))))))
  (pss_one (ps_ret (pv 2)))))
theorem c__law_word (T : Txt w K mg) : U.Cal P w K mg base CX0 4 "_law_word" (sp__law_word K) [] := by
  obtain ⟨fd, F⟩ := T.dd__law_word
  have hb : Binds K fd ["_law_call", "_law_parts"] [] := F.bindsN (ps := ["_law_call", "_law_parts"]) (fun _ _ _ _ _ _ us hl => match us, hl with | [_, _], _ => rfl)
  exact ⟨⟨_, fd, _, [], F.ok (CX := CX0) sc__law_word (len__law_word K) (fun cdv A outer s H vs Q E hr h => ⟨t__law_word K, body__law_word T hr, pure__law_word vs H Q E h⟩), T.g__law_word, F.kp, hb, .nil⟩⟩
theorem body__law_all (T : Txt w K mg) {cdv : Value} {A : Around} {outer : List Env} {s : Shared} {H : Hp} {E : XK} (hr : Room 4 (A.deeper (envOfC "_law_all" (defScope s__law_all) s.heap.objs.size (He.fAd K ("_law_all", none)) cdv))) (hgd : (A.deeper (envOfC "_law_all" (defScope s__law_all) s.heap.objs.size (He.fAd K ("_law_all", none)) cdv)).guards = some []) : PSs (cxOf CX0 P w K mg base M__law_all "_law_all" (defScope s__law_all) (He.fAd K ("_law_all", none)) cdv A outer s H E) (defBody s__law_all) (t__law_all K) := by
  have c__law_word := c__law_word (P := P) (base := base) T
  refine PSs.nox ?_
  exact (pss_cons (ps_for PassesOwn.never rfl (pi_list (pv 0)) (pg_tup rfl (pgs_cons (pg_name (i := 2) sc__law_all.nd rfl (by first | exact Or.inl rfl | exact Or.inr rfl)) (pgs_cons (pg_name (i := 3) sc__law_all.nd rfl (by first | exact Or.inl rfl | exact Or.inr rfl)) pgs_nil))) (pss_cons (ps_asg (pe_callB (U.cr_reprQ hgd (hu100 hr)) (by rfl) (T.b_repr) (by decide +kernel) (pa_cons (pv 3) pa_nil)) (pg_name (i := 4) sc__law_all.nd rfl (by first | exact Or.inl rfl | exact Or.inr rfl)))
  (pss_one (ps_if (PW.pt (pw_or (pt_cmpR op_ne (U.pe_c (E := ES0) c__law_word hr (by decide) ps0 (by rfl) (pa_cons (pv 2) (pa_cons (pv 3) pa_nil))) (pv 1) (nomark _)) (pw_or1 (pt_cmpR op_ne (pe_callB (U.cr_reprQ hgd (hu100 hr)) (by rfl) (T.b_repr) (by decide +kernel) (pa_cons (pv 3) pa_nil)) (pv 4) (nomark _))))) (pss_one (ps_ret pe_bl)) pss_nil))))
  (pss_one (ps_ret pe_bl)))
theorem c__law_all (T : Txt w K mg) : U.CalG P w K mg base CX0 5 "_law_all" (sp__law_all K) [] := by
  obtain ⟨fd, F⟩ := T.dd__law_all
  have hb : Binds K fd ["_law_some", "_law_due"] [] := F.bindsN (ps := ["_law_some", "_law_due"]) (fun _ _ _ _ _ _ us hl => match us, hl with | [_, _], _ => rfl)
  exact ⟨⟨_, fd, _, [], U.okG F (CX := CX0) sc__law_all (len__law_all K) (fun cdv A outer s H vs Q E hr hgd h => ⟨t__law_all K, body__law_all T hr hgd, pure__law_all vs H Q E h⟩), T.g__law_all, F.kp, hb, .nil⟩⟩
theorem body__law_take (T : Txt w K mg) {cdv : Value} {A : Around} {outer : List Env} {s : Shared} {H : Hp} {E : XK} (hr : Room 0 (A.deeper (envOfC "_law_take" (defScope s__law_take) s.heap.objs.size (He.fAd K ("_law_take", none)) cdv))) : PSs (cxOf CX0 P w K mg base M__law_take "_law_take" (defScope s__law_take) (He.fAd K ("_law_take", none)) cdv A outer s H E) (defBody s__law_take) (t__law_take K) := by
  
  refine PSs.nox ?_
  exact (pss_cons (ps_if (pt_cmpR op_gt (pe_ix ix_list (pv 0) pe_int (fun _ _ => rfl)) pe_int (nomark _)) (pss_cons (ps_asg (pe_ix ix_list (pv 0) pe_int (fun _ _ => rfl)) (pg_name (i := 2) sc__law_take.nd rfl (by first | exact Or.inl rfl | exact Or.inr rfl)))
  (pss_cons (ps_asg (pe_op op_fdivW (pv 2) (pv 1)) (pg_sub (pv 0) pe_int set_list))
  (pss_one (ps_ret (pe_op op_mod (pv 2) (pv 1)))))) pss_nil)
  (pss_cons (ps_asg (pe_op op_mod (pe_op op_add (pe_op op_mul (pe_ix ix_list (pv 0) pe_int (fun _ _ => rfl)) pe_int) pe_int) pe_int) (pg_sub (pv 0) pe_int set_list))
  (pss_cons (ps_asg (pe_op op_mod (pe_op op_mul (pe_ix ix_list (pv 0) pe_int (fun _ _ => rfl)) (pe_ix ix_list (pv 0) pe_int (fun _ _ => rfl))) pe_int) (pg_name (i := 2) sc__law_take.nd rfl (by first | exact Or.inl rfl | exact Or.inr rfl)))
  (pss_one (ps_ret (pe_op op_mod (pe_op op_fdivW (pv 2) pe_int) (pv 1)))))))
theorem c__law_take (T : Txt w K mg) : U.Cal P w K mg base CX0 1 "_law_take" (sp__law_take K) [] := by
  obtain ⟨fd, F⟩ := T.dd__law_take
  have hb : Binds K fd ["_law_purse_here", "_law_many"] [] := F.bindsN (ps := ["_law_purse_here", "_law_many"]) (fun _ _ _ _ _ _ us hl => match us, hl with | [_, _], _ => rfl)
  exact ⟨⟨_, fd, _, [], F.ok (CX := CX0) sc__law_take (len__law_take K) (fun cdv A outer s H vs Q E hr h => ⟨t__law_take K, body__law_take T hr, pure__law_take vs H Q E h⟩), T.g__law_take, F.kp, hb, .nil⟩⟩
theorem body__law_number (T : Txt w K mg) {cdv : Value} {A : Around} {outer : List Env} {s : Shared} {H : Hp} {E : XK} (hr : Room 1 (A.deeper (envOfC "_law_number" (defScope s__law_number) s.heap.objs.size (He.fAd K ("_law_number", none)) cdv))) : PSs (cxOf CX0 P w K mg base M__law_number "_law_number" (defScope s__law_number) (He.fAd K ("_law_number", none)) cdv A outer s H E) (defBody s__law_number) (t__law_number K) := by
  have c__law_take := c__law_take (P := P) (base := base) T
  refine PSs.nox ?_
  exact (pss_cons (ps_asg (U.pe_c (E := ES0) c__law_take hr (by decide) ps0 (by rfl) (pa_cons (pv 0) (pa_cons pe_int pa_nil))) (pg_name (i := 1) sc__law_number.nd rfl (by first | exact Or.inl rfl | exact Or.inr rfl)))
  (pss_cons (ps_if (pt_cmpR op_eq (pv 1) pe_int (nomark _)) (pss_one (ps_ret (pe_op op_sub (U.pe_c (E := ES0) c__law_take hr (by decide) ps0 (by rfl) (pa_cons (pv 0) (pa_cons (pe_op op_pow pe_int pe_int) pa_nil))) (U.pe_c (E := ES0) c__law_take hr (by decide) ps0 (by rfl) (pa_cons (pv 0) (pa_cons (pe_op op_pow pe_int pe_int) pa_nil)))))) pss_nil)
  (pss_one (ps_ret (pe_op op_sub (U.pe_c (E := ES0) c__law_take hr (by decide) ps0 (by rfl) (pa_cons (pv 0) (pa_cons (pe_ix ix_list (pe_lst (pa_cons pe_int (pa_cons pe_int (pa_cons pe_int (pa_cons pe_int pa_nil))))) (pe_op op_sub (pv 1) pe_int) (fun _ _ => rfl)) pa_nil))) (pv 1))))))
theorem c__law_number (T : Txt w K mg) : U.Cal P w K mg base CX0 2 "_law_number" (sp__law_number K) [] := by
  obtain ⟨fd, F⟩ := T.dd__law_number
  have hb : Binds K fd ["_law_purse_here"] [] := F.bindsN (ps := ["_law_purse_here"]) (fun _ _ _ _ _ _ us hl => match us, hl with | [_], _ => rfl)
  exact ⟨⟨_, fd, _, [], F.ok (CX := CX0) sc__law_number (len__law_number K) (fun cdv A outer s H vs Q E hr h => ⟨t__law_number K, body__law_number T hr, pure__law_number vs H Q E h⟩), T.g__law_number, F.kp, hb, .nil⟩⟩
theorem body__law_rows (T : Txt w K mg) {cdv : Value} {A : Around} {outer : List Env} {s : Shared} {H : Hp} {E : XK} (hr : Room 2 (A.deeper (envOfC "_law_rows" (defScope s__law_rows) s.heap.objs.size (He.fAd K ("_law_rows", none)) cdv))) : PSs (cxOf CX0 P w K mg base M__law_rows "_law_rows" (defScope s__law_rows) (He.fAd K ("_law_rows", none)) cdv A outer s H E) (defBody s__law_rows) (t__law_rows K) := by
  have c__law_number := c__law_number (P := P) (base := base) T
  have c__law_take := c__law_take (P := P) (base := base) T
  refine PSs.nox ?_
  exact (pss_cons (ps_asg (pe_dnewK) (pg_name (i := 2) sc__law_rows.nd rfl (by first | exact Or.inl rfl | exact Or.inr rfl)))
  (pss_cons (ps_for PassesOwn.never rfl (pi_range1 (by rfl) (T.b_range) (pa_cons (pe_op op_add pe_int (U.pe_c (E := ES0) c__law_take hr (by decide) ps0 (by rfl) (pa_cons (pv 0) (pa_cons pe_int pa_nil)))) pa_nil)) (pg_name (i := 3) sc__law_rows.nd rfl (by first | exact Or.inl rfl | exact Or.inr rfl)) (pss_cons (ps_asg (pe_op op_add pe_int (U.pe_c (E := ES0) c__law_take hr (by decide) ps0 (by rfl) (pa_cons (pv 0) (pa_cons pe_int pa_nil)))) (pg_name (i := 4) sc__law_rows.nd rfl (by first | exact Or.inl rfl | exact Or.inr rfl)))
  (pss_one (ps_dput (hu_of hr) (pv 2) (pv 4) (pe_callTy call_tuple_of (by rfl) (T.b_tuple) (by decide +kernel) (pa_cons (pe_lc (own := [("_law_j", 5)]) (g := (gName 5)) (tt := tYes) rfl sc__law_rows.nd (pi_range1 (by rfl) (T.b_range) (pa_cons (pv 1) pa_nil)) (blkOk_by (N := M__law_rows) (sc := defScope s__law_rows) (own := [("_law_j", 5)]) (by decide +kernel)) (fun _ _ _ _ _ => (pg_name (i := 5) sc__law_rows.nd rfl (by first | exact Or.inl rfl | exact Or.inr rfl))) (fun _ _ _ _ _ => pts_nil) (fun _ _ _ _ _ => (U.pe_c (E := ES0) c__law_number hr (by decide) ps0 (by rfl) (pa_cons (pv 0) pa_nil)))) pa_nil)) rfl))))
  (pss_one (ps_ret (pv 2)))))
theorem c__law_rows (T : Txt w K mg) : U.Cal P w K mg base CX0 3 "_law_rows" (sp__law_rows K) [] := by
  obtain ⟨fd, F⟩ := T.dd__law_rows
  have hb : Binds K fd ["_law_purse_here", "_law_width"] [] := F.bindsN (ps := ["_law_purse_here", "_law_width"]) (fun _ _ _ _ _ _ us hl => match us, hl with | [_, _], _ => rfl)
  exact ⟨⟨_, fd, _, [], F.ok (CX := CX0) sc__law_rows (len__law_rows K) (fun cdv A outer s H vs Q E hr h => ⟨t__law_rows K, body__law_rows T hr, pure__law_rows vs H Q E h⟩), T.g__law_rows, F.kp, hb, .nil⟩⟩
theorem body__law_let (T : Txt w K mg) {cdv : Value} {A : Around} {outer : List Env} {s : Shared} {H : Hp} {E : XK} (hr : Room 5 (A.deeper (envOfC "_law_let" (defScope s__law_let) s.heap.objs.size (He.fAd K ("_law_let", none)) cdv))) (hgd : (A.deeper (envOfC "_law_let" (defScope s__law_let) s.heap.objs.size (He.fAd K ("_law_let", none)) cdv)).guards = some []) : PSs (cxOf CX0 P w K mg base M__law_let "_law_let" (defScope s__law_let) (He.fAd K ("_law_let", none)) cdv A outer s H E) (defBody s__law_let) (t__law_let K) := by
  have c__law_all := c__law_all (P := P) (base := base) T
  have c__law_rows := c__law_rows (P := P) (base := base) T
  refine PSs.nox ?_
  exact (pss_cons (ps_asg (pe_op op_sub (pv 2) pe_int) (pg_name (i := 3) sc__law_let.nd rfl (by first | exact Or.inl rfl | exact Or.inr rfl)))
  (pss_cons (ps_asg (pe_lst (pa_cons (pe_tup (pa_cons pe_str (pa_cons (pe_lst (pa_cons (pv 1) (pa_cons (pe_op op_rep (pe_lst (pa_cons (pv 3) pa_nil)) pe_int) pa_nil))) pa_nil))) (pa_cons (pe_tup (pa_cons pe_str (pa_cons (pe_lst (pa_cons (pv 1) (pa_cons (U.pe_c (E := ES0) c__law_rows hr (by decide) ps0 (by rfl) (pa_cons (pv 0) (pa_cons (pe_op op_sub pe_int (pv 2)) pa_nil))) pa_nil))) pa_nil))) (pa_cons (pe_tup (pa_cons pe_str (pa_cons (pe_lst (pa_cons (pv 1) pa_nil)) pa_nil))) pa_nil)))) (pg_name (i := 4) sc__law_let.nd rfl (by first | exact Or.inl rfl | exact Or.inr rfl)))
  (pss_cons (ps_asg (pe_op op_cat (pv 4) (pe_lst (pa_cons (pe_tup (pa_cons pe_str (pa_cons (pe_lst (pa_cons (pe_op op_rep (pe_lst (pa_cons (pv 1) pa_nil)) pe_int) (pa_cons (pv 3) (pa_cons (pv 3) pa_nil)))) pa_nil))) (pa_cons (pe_tup (pa_cons pe_str (pa_cons (pe_lst (pa_cons (pe_lst (pa_cons (pv 1) pa_nil)) (pa_cons pe_int (pa_cons pe_non pa_nil)))) pa_nil))) (pa_cons (pe_tup (pa_cons pe_str (pa_cons (pe_lst (pa_cons (pe_lst (pa_cons (pv 1) pa_nil)) (pa_cons (pv 3) (pa_cons pe_int pa_nil)))) pa_nil))) pa_nil))))) (pg_name (i := 4) sc__law_let.nd rfl (by first | exact Or.inl rfl | exact Or.inr rfl)))
  (pss_one (ps_ret (U.pe_cG (E := ES0) c__law_all hr hgd (by decide) ps0 (by rfl) (pa_cons (pv 4) (pa_cons pe_str pa_nil))))))))
theorem c__law_let (T : Txt w K mg) : U.CalG P w K mg base CX0 6 "_law_let" (sp__law_let K) [] := by
  obtain ⟨fd, F⟩ := T.dd__law_let
  have hb : Binds K fd ["_law_purse_here", "_law_rows_here", "_law_width"] [] := F.bindsN (ps := ["_law_purse_here", "_law_rows_here", "_law_width"]) (fun _ _ _ _ _ _ us hl => match us, hl with | [_, _, _], _ => rfl)
  exact ⟨⟨_, fd, _, [], U.okG F (CX := CX0) sc__law_let (len__law_let K) (fun cdv A outer s H vs Q E hr hgd h => ⟨t__law_let K, body__law_let T hr hgd, pure__law_let vs H Q E h⟩), T.g__law_let, F.kp, hb, .nil⟩⟩
theorem body__law_purse (T : Txt w K mg) {cdv : Value} {A : Around} {outer : List Env} {s : Shared} {H : Hp} {E : XK} (hr : Room 0 (A.deeper (envOfC "_law_purse" (defScope s__law_purse) s.heap.objs.size (He.fAd K ("_law_purse", none)) cdv))) : PSs (cxOf CX0 P w K mg base M__law_purse "_law_purse" (defScope s__law_purse) (He.fAd K ("_law_purse", none)) cdv A outer s H E) (defBody s__law_purse) (t__law_purse K) := by
  
  refine PSs.nox ?_
  exact (pss_one (ps_ret (pe_lst (pa_cons (pe_callB (call_max2 rfl) (by rfl) (T.b_max) (by decide +kernel) (pa_cons pe_int (pa_cons (pe_op op_sub (pe_callB call_abs (by rfl) (T.b_abs) (by decide +kernel) (pa_cons (pv 0) pa_nil)) (pe_op op_pow pe_int pe_int)) pa_nil))) (pa_cons (pe_op op_add (pe_op op_mod (pe_callB call_abs (by rfl) (T.b_abs) (by decide +kernel) (pa_cons (pv 0) pa_nil)) pe_int) pe_int) pa_nil)))))
theorem c__law_purse (T : Txt w K mg) : U.Cal P w K mg base CX0 1 "_law_purse" (sp__law_purse K) [] := by
  obtain ⟨fd, F⟩ := T.dd__law_purse
  have hb : Binds K fd ["_law_cell"] [] := F.bindsN (ps := ["_law_cell"]) (fun _ _ _ _ _ _ us hl => match us, hl with | [_], _ => rfl)
  exact ⟨⟨_, fd, _, [], F.ok (CX := CX0) sc__law_purse (len__law_purse K) (fun cdv A outer s H vs Q E hr h => ⟨t__law_purse K, body__law_purse T hr, pure__law_purse vs H Q E h⟩), T.g__law_purse, F.kp, hb, .nil⟩⟩
theorem body__law_no_column (T : Txt w K mg) {cdv : Value} {A : Around} {outer : List Env} {s : Shared} {H : Hp} {E : XK} (hr : Room 1 (A.deeper (envOfC "_law_no_column" (defScope s__law_no_column) s.heap.objs.size (He.fAd K ("_law_no_column", none)) cdv))) : PSs (cxOf CX0 P w K mg base M__law_no_column "_law_no_column" (defScope s__law_no_column) (He.fAd K ("_law_no_column", none)) cdv A outer s H E) (defBody s__law_no_column) (t__law_no_column K) := by
  have c__law_take := c__law_take (P := P) (base := base) T
  refine PSs.nox ?_
  exact (pss_cons (ps_asg (U.pe_c (E := ES0) c__law_take hr (by decide) ps0 (by rfl) (pa_cons (pv 0) (pa_cons (pe_op op_pow pe_int pe_int) pa_nil))) (pg_name (i := 2) sc__law_no_column.nd rfl (by first | exact Or.inl rfl | exact Or.inr rfl)))
  (pss_cons (ps_asg (pe_lst (pa_cons (pv 1) (pa_cons (pe_un un_neg pe_int) (pa_cons (pe_op op_add (pv 1) (pv 2)) (pa_cons (pe_op op_sub (pe_un un_neg pe_int) (pv 2)) (pa_cons (pe_un un_neg (pv 1)) (pa_cons pe_bl (pa_cons pe_bl (pa_cons pe_str (pa_cons (pe_tup (pa_cons pe_int pa_nil)) (pa_cons (pe_lst (pa_cons pe_int pa_nil)) (pa_cons (pe_dnewK) pa_nil)))))))))))) (pg_name (i := 3) sc__law_no_column.nd rfl (by first | exact Or.inl rfl | exact Or.inr rfl)))
  (pss_one (ps_ret (pe_ix ix_list (pv 3) (U.pe_c (E := ES0) c__law_take hr (by decide) ps0 (by rfl) (pa_cons (pv 0) (pa_cons pe_int pa_nil))) (fun _ _ => rfl))))))
theorem c__law_no_column (T : Txt w K mg) : U.Cal P w K mg base CX0 2 "_law_no_column" (sp__law_no_column K) [] := by
  obtain ⟨fd, F⟩ := T.dd__law_no_column
  have hb : Binds K fd ["_law_purse_here", "_law_width"] [] := F.bindsN (ps := ["_law_purse_here", "_law_width"]) (fun _ _ _ _ _ _ us hl => match us, hl with | [_, _], _ => rfl)
  exact ⟨⟨_, fd, _, [], F.ok (CX := CX0) sc__law_no_column (len__law_no_column K) (fun cdv A outer s H vs Q E hr h => ⟨t__law_no_column K, body__law_no_column T hr, pure__law_no_column vs H Q E h⟩), T.g__law_no_column, F.kp, hb, .nil⟩⟩
theorem body__law_refused (T : Txt w K mg) {cdv : Value} {A : Around} {outer : List Env} {s : Shared} {H : Hp} {E : XK} (hr : Room 5 (A.deeper (envOfC "_law_refused" (defScope s__law_refused) s.heap.objs.size (He.fAd K ("_law_refused", none)) cdv))) (hgd : (A.deeper (envOfC "_law_refused" (defScope s__law_refused) s.heap.objs.size (He.fAd K ("_law_refused", none)) cdv)).guards = some []) : PSs (cxOf CX0 P w K mg base M__law_refused "_law_refused" (defScope s__law_refused) (He.fAd K ("_law_refused", none)) cdv A outer s H E) (defBody s__law_refused) (t__law_refused K) := by
  have c__law_all := c__law_all (P := P) (base := base) T
  have c__law_no_column := c__law_no_column (P := P) (base := base) T
  have c__law_rows := c__law_rows (P := P) (base := base) T
  have c__law_take := c__law_take (P := P) (base := base) T
  refine PSs.nox ?_
  exact (pss_cons (ps_asg (U.pe_c (E := ES0) c__law_no_column hr (by decide) ps0 (by rfl) (pa_cons (pv 0) (pa_cons (pv 2) pa_nil))) (pg_name (i := 3) sc__law_refused.nd rfl (by first | exact Or.inl rfl | exact Or.inr rfl)))
  (pss_cons (ps_setLc (i := 4) (own := [("_law_k", 11)]) (g := (gName 11)) (tt := tYes) rfl sc__law_refused.nd rfl rfl (sw_true rfl rfl rfl (by decide +kernel)) (pi_range1 (by rfl) (T.b_range) (pa_cons (U.pe_c (E := ES0) c__law_take hr (by decide) ps0 (by rfl) (pa_cons (pv 0) (pa_cons pe_int pa_nil))) pa_nil)) (blkOk_by (N := M__law_refused) (sc := defScope s__law_refused) (own := [("_law_k", 11)]) (by decide +kernel)) (fun _ _ _ _ _ => (pg_name (i := 11) sc__law_refused.nd rfl (by first | exact Or.inl rfl | exact Or.inr rfl))) (fun _ _ _ _ _ => pts_nil) (fun _ _ _ _ _ => (U.pe_c (E := ES0) c__law_take hr (by decide) ps0 (by rfl) (pa_cons (pv 0) (pa_cons (pv 2) pa_nil)))))
  (pss_cons (ps_asg (U.pe_c (E := ES0) c__law_take hr (by decide) ps0 (by rfl) (pa_cons (pv 0) (pa_cons (pe_op op_add (pe_callB call_len_seq (by rfl) (T.b_len) (by decide +kernel) (pa_cons (pv 4) pa_nil)) pe_int) pa_nil))) (pg_name (i := 5) sc__law_refused.nd rfl (by first | exact Or.inl rfl | exact Or.inr rfl)))
  (pss_cons (ps_setLc (i := 6) (own := [("_law_k", 11)]) (g := (gName 11)) (tt := tYes) rfl sc__law_refused.nd rfl rfl (sw_true rfl rfl rfl (by decide +kernel)) (pi_range1 (by rfl) (T.b_range) (pa_cons (U.pe_c (E := ES0) c__law_take hr (by decide) ps0 (by rfl) (pa_cons (pv 0) (pa_cons pe_int pa_nil))) pa_nil)) (blkOk_by (N := M__law_refused) (sc := defScope s__law_refused) (own := [("_law_k", 11)]) (by decide +kernel)) (fun _ _ _ _ _ => (pg_name (i := 11) sc__law_refused.nd rfl (by first | exact Or.inl rfl | exact Or.inr rfl))) (fun _ _ _ _ _ => pts_nil) (fun _ _ _ _ _ => (U.pe_c (E := ES0) c__law_rows hr (by decide) ps0 (by rfl) (pa_cons (pv 0) (pa_cons (pv 2) pa_nil)))))
  (pss_cons (ps_asg (U.pe_c (E := ES0) c__law_take hr (by decide) ps0 (by rfl) (pa_cons (pv 0) (pa_cons (pe_op op_add (pe_callB call_len_seq (by rfl) (T.b_len) (by decide +kernel) (pa_cons (pv 6) pa_nil)) pe_int) pa_nil))) (pg_name (i := 7) sc__law_refused.nd rfl (by first | exact Or.inl rfl | exact Or.inr rfl)))
  (pss_cons (ps_asg (pe_lst (pa_cons (pe_tup (pa_cons pe_str (pa_cons (pe_lst (pa_cons (pe_dnewK) pa_nil)) pa_nil))) (pa_cons (pe_tup (pa_cons pe_str (pa_cons (pe_lst (pa_cons (pe_dnewK) (pa_cons (pe_lst (pa_cons pe_int pa_nil)) pa_nil))) pa_nil))) (pa_cons (pe_tup (pa_cons pe_str (pa_cons (pe_lst (pa_cons (pv 1) (pa_cons (pe_lst pa_nil) pa_nil))) pa_nil))) (pa_cons (pe_tup (pa_cons pe_str (pa_cons (pe_lst (pa_cons (pv 1) (pa_cons (pe_op op_cat (pe_op op_cat (pe_slice sl_list (pv 4) po_none (po_some (pv 5))) (pe_lst (pa_cons (pv 3) pa_nil))) (pe_slice sl_list (pv 4) (po_some (pv 5)) po_none)) pa_nil))) pa_nil))) pa_nil))))) (pg_name (i := 8) sc__law_refused.nd rfl (by first | exact Or.inl rfl | exact Or.inr rfl)))
  (pss_cons (ps_asg (pe_op op_cat (pv 8) (pe_lst (pa_cons (pe_tup (pa_cons pe_str (pa_cons (pe_lst (pa_cons (pv 1) (pa_cons (pe_op op_rep (pe_lst (pa_cons pe_int pa_nil)) pe_int) pa_nil))) pa_nil))) (pa_cons (pe_tup (pa_cons pe_str (pa_cons (pe_lst (pa_cons (pe_dnewK) (pa_cons (pv 1) pa_nil))) pa_nil))) (pa_cons (pe_tup (pa_cons pe_str (pa_cons (pe_lst (pa_cons (pv 1) (pa_cons (pe_dnewK) pa_nil))) pa_nil))) (pa_cons (pe_tup (pa_cons pe_str (pa_cons (pe_lst (pa_cons (pe_dnewK) (pa_cons (pe_dnewK) pa_nil))) pa_nil))) pa_nil)))))) (pg_name (i := 8) sc__law_refused.nd rfl (by first | exact Or.inl rfl | exact Or.inr rfl)))
  (pss_cons (ps_asg (pe_op op_cat (pv 8) (pe_lst (pa_cons (pe_tup (pa_cons pe_str (pa_cons (pe_lst (pa_cons (pv 1) (pa_cons (U.pe_c (E := ES0) c__law_rows hr (by decide) ps0 (by rfl) (pa_cons (pv 0) (pa_cons (pe_op op_sub pe_int (pv 2)) pa_nil))) pa_nil))) pa_nil))) (pa_cons (pe_tup (pa_cons pe_str (pa_cons (pe_lst (pa_cons (pe_lst pa_nil) (pa_cons pe_int (pa_cons pe_non pa_nil)))) pa_nil))) pa_nil)))) (pg_name (i := 8) sc__law_refused.nd rfl (by first | exact Or.inl rfl | exact Or.inr rfl)))
  (pss_cons (ps_asg (pe_op op_cat (pv 8) (pe_lst (pa_cons (pe_tup (pa_cons pe_str (pa_cons (pe_lst (pa_cons (pe_op op_cat (pe_op op_cat (pe_slice sl_list (pv 6) po_none (po_some (pv 7))) (pe_lst (pa_cons (pe_dnewK) pa_nil))) (pe_slice sl_list (pv 6) (po_some (pv 7)) po_none)) (pa_cons pe_int (pa_cons pe_non pa_nil)))) pa_nil))) (pa_cons (pe_tup (pa_cons pe_str (pa_cons (pe_lst (pa_cons (pe_op op_rep (pe_lst (pa_cons (pv 1) pa_nil)) pe_int) (pa_cons pe_int (pa_cons pe_non pa_nil)))) pa_nil))) pa_nil)))) (pg_name (i := 8) sc__law_refused.nd rfl (by first | exact Or.inl rfl | exact Or.inr rfl)))
  (pss_cons (ps_asg (pe_op op_cat (pv 8) (pe_lst (pa_cons (pe_tup (pa_cons pe_str (pa_cons (pe_lst (pa_cons (pe_op op_cat (pv 6) (pe_lst (pa_cons (pv 1) pa_nil))) (pa_cons (pv 3) (pa_cons pe_non pa_nil)))) pa_nil))) (pa_cons (pe_tup (pa_cons pe_str (pa_cons (pe_lst (pa_cons (pe_op op_cat (pv 6) (pe_lst (pa_cons (pv 1) pa_nil))) (pa_cons pe_int (pa_cons (pv 3) pa_nil)))) pa_nil))) pa_nil)))) (pg_name (i := 8) sc__law_refused.nd rfl (by first | exact Or.inl rfl | exact Or.inr rfl)))
  (pss_cons (ps_asg (pe_op op_cat (pv 8) (pe_lst (pa_cons (pe_tup (pa_cons pe_str (pa_cons (pe_lst (pa_cons (pe_lst (pa_cons (pv 1) pa_nil)) (pa_cons pe_non (pa_cons pe_non pa_nil)))) pa_nil))) (pa_cons (pe_tup (pa_cons pe_str (pa_cons (pe_lst (pa_cons (pe_lst (pa_cons (pv 1) pa_nil)) (pa_cons pe_bl (pa_cons pe_non pa_nil)))) pa_nil))) (pa_cons (pe_tup (pa_cons pe_str (pa_cons (pe_lst (pa_cons (pe_lst (pa_cons (pv 1) pa_nil)) (pa_cons pe_int (pa_cons pe_bl pa_nil)))) pa_nil))) pa_nil))))) (pg_name (i := 8) sc__law_refused.nd rfl (by first | exact Or.inl rfl | exact Or.inr rfl)))
  (pss_cons (ps_expr (pe_bm PySem.F.plainAttrs_list PySem.F.slot_list_append PySem.F.type_list_append mt_append (pv 8) (pa_cons (pe_tup (pa_cons pe_str (pa_cons (pe_lst (pa_cons (pv 1) (pa_cons (pe_op op_cat (pe_op op_cat (pe_slice sl_list (pv 4) po_none (po_some (pv 5))) (pe_lst (pa_cons pe_non pa_nil))) (pe_slice sl_list (pv 4) (po_some (pv 5)) po_none)) pa_nil))) pa_nil))) pa_nil)))
  (pss_cons (ps_if (pt_cmpR op_gt (pv 2) pe_int (nomark _)) (pss_cons (ps_asg (U.pe_c (E := ES0) c__law_rows hr (by decide) ps0 (by rfl) (pa_cons (pv 0) (pa_cons (pe_op op_add pe_int (U.pe_c (E := ES0) c__law_take hr (by decide) ps0 (by rfl) (pa_cons (pv 0) (pa_cons (pe_op op_sub (pv 2) pe_int) pa_nil)))) pa_nil))) (pg_name (i := 9) sc__law_refused.nd rfl (by first | exact Or.inl rfl | exact Or.inr rfl)))
  (pss_cons (ps_asg (pe_op op_sub (pv 2) pe_int) (pg_name (i := 10) sc__law_refused.nd rfl (by first | exact Or.inl rfl | exact Or.inr rfl)))
  (pss_cons (ps_expr (pe_bm PySem.F.plainAttrs_list PySem.F.slot_list_append PySem.F.type_list_append mt_append (pv 8) (pa_cons (pe_tup (pa_cons pe_str (pa_cons (pe_lst (pa_cons (pe_op op_cat (pe_op op_cat (pe_slice sl_list (pv 6) po_none (po_some (pv 7))) (pe_lst (pa_cons (pv 9) (pa_cons (pv 1) pa_nil)))) (pe_slice sl_list (pv 6) (po_some (pv 7)) po_none)) (pa_cons (pv 10) (pa_cons pe_non pa_nil)))) pa_nil))) pa_nil)))
  (pss_one (ps_expr (pe_bm PySem.F.plainAttrs_list PySem.F.slot_list_append PySem.F.type_list_append mt_append (pv 8) (pa_cons (pe_tup (pa_cons pe_str (pa_cons (pe_lst (pa_cons (pe_op op_cat (pe_op op_cat (pe_slice sl_list (pv 6) po_none (po_some (pv 7))) (pe_lst (pa_cons (pv 1) (pa_cons (pv 9) pa_nil)))) (pe_slice sl_list (pv 6) (po_some (pv 7)) po_none)) (pa_cons pe_int (pa_cons (pv 10) pa_nil)))) pa_nil))) pa_nil))))))) pss_nil)
  (pss_one (ps_ret (U.pe_cG (E := ES0) c__law_all hr hgd (by decide) ps0 (by rfl) (pa_cons (pv 8) (pa_cons pe_str pa_nil))))))))))))))))))
theorem c__law_refused (T : Txt w K mg) : U.CalG P w K mg base CX0 6 "_law_refused" (sp__law_refused K) [] := by
  obtain ⟨fd, F⟩ := T.dd__law_refused
  have hb : Binds K fd ["_law_purse_here", "_law_rows_here", "_law_width"] [] := F.bindsN (ps := ["_law_purse_here", "_law_rows_here", "_law_width"]) (fun _ _ _ _ _ _ us hl => match us, hl with | [_, _, _], _ => rfl)
  exact ⟨⟨_, fd, _, [], U.okG F (CX := CX0) sc__law_refused (len__law_refused K) (fun cdv A outer s H vs Q E hr hgd h => ⟨t__law_refused K, body__law_refused T hr hgd, pure__law_refused vs H Q E h⟩), T.g__law_refused, F.kp, hb, .nil⟩⟩
theorem body_law (T : Txt w K mg) {cdv : Value} {A : Around} {outer : List Env} {s : Shared} {H : Hp} {E : XK} (hr : Room 6 (A.deeper (envOfC "law" (defScope s_law) s.heap.objs.size (He.fAd K ("law", none)) cdv))) (hgd : (A.deeper (envOfC "law" (defScope s_law) s.heap.objs.size (He.fAd K ("law", none)) cdv)).guards = some []) : PSs (cxOf CX0 P w K mg base M_law "law" (defScope s_law) (He.fAd K ("law", none)) cdv A outer s H E) (defBody s_law) (t_law K) := by
  have c__law_at := c__law_at (P := P) (base := base) T
  have c__law_let := c__law_let (P := P) (base := base) T
  have c__law_purse := c__law_purse (P := P) (base := base) T
  have c__law_refused := c__law_refused (P := P) (base := base) T
  have c__law_rows := c__law_rows (P := P) (base := base) T
  have c__law_take := c__law_take (P := P) (base := base) T
  refine PSs.nox ?_
  exact (pss_cons (ps_for PassesOwn.never rfl (pi_range1 (by rfl) (T.b_range) (pa_cons (pe_callB (call_max2 rfl) (by rfl) (T.b_max) (by decide +kernel) (pa_cons pe_int (pa_cons (pe_callB (call_min2 rfl) (by rfl) (T.b_min) (by decide +kernel) (pa_cons (pe_callB call_len_seq (by rfl) (T.b_len) (by decide +kernel) (pa_cons (pv 0) pa_nil)) (pa_cons pe_int pa_nil))) pa_nil))) pa_nil)) (pg_name (i := 1) sc_law.nd rfl (by first | exact Or.inl rfl | exact Or.inr rfl)) (pss_cons (ps_asg (U.pe_c (E := ES0) c__law_purse hr (by decide) ps0 (by rfl) (pa_cons (U.pe_c (E := ES0) c__law_at hr (by decide) ps0 (by rfl) (pa_cons (pv 0) (pa_cons (pv 1) pa_nil))) pa_nil)) (pg_name (i := 2) sc_law.nd rfl (by first | exact Or.inl rfl | exact Or.inr rfl)))
  (pss_cons (ps_asg (pe_ix ix_list (pe_lst (pa_cons pe_int (pa_cons pe_int (pa_cons pe_int (pa_cons pe_int (pa_cons pe_int (pa_cons pe_int pa_nil))))))) (U.pe_c (E := ES0) c__law_take hr (by decide) ps0 (by rfl) (pa_cons (pv 2) (pa_cons pe_int pa_nil))) (fun _ _ => rfl)) (pg_name (i := 3) sc_law.nd rfl (by first | exact Or.inl rfl | exact Or.inr rfl)))
  (pss_cons (ps_asg (U.pe_c (E := ES0) c__law_rows hr (by decide) ps0 (by rfl) (pa_cons (pv 2) (pa_cons (pv 3) pa_nil))) (pg_name (i := 4) sc_law.nd rfl (by first | exact Or.inl rfl | exact Or.inr rfl)))
  (pss_one (ps_if (PW.pt (pw_or (pt_not (pt_val (U.pe_cG (E := ES0) c__law_refused hr hgd (by decide) ps0 (by rfl) (pa_cons (pv 2) (pa_cons (pv 4) (pa_cons (pv 3) pa_nil)))))) (pw_or1 (pt_not (pt_val (U.pe_cG (E := ES0) c__law_let hr hgd (by decide) ps0 (by rfl) (pa_cons (pv 2) (pa_cons (pv 4) (pa_cons (pv 3) pa_nil))))))))) (pss_one (ps_ret pe_bl)) pss_nil))))))
  (pss_one (ps_ret pe_bl)))
theorem ok_law (T : Txt w K mg) : ∃ fd : FuncData, (∀ (s : Shared) (v : Value), BindsTo s fd ⟨[v], []⟩ [("_law_script", v)]) ∧ ∀ base : Heap, U.FnG P w K mg base CX0 7 (He.ga K "law") fd ["_law_script"] (sp_law K) := by
  obtain ⟨fd, F⟩ := T.dd_law
  have b := FunD.bindsA (ps := ["_law_script"]) F fun _ _ _ _ _ _ us hl => match us, hl with | [_], _ => rfl
  exact ⟨fd, fun s v => b s [v] rfl, fun base => U.okG F (CX := CX0) sc_law (len_law K) (fun cdv A outer s H vs Q E hr hgd h => ⟨t_law K, body_law T hr hgd, pure_law vs H Q E h⟩)⟩
end
def loose0 : List Str := ["HallError", "NoName", "BadKind", "NoText", "NoPerson", "Taken", "NoKind", "NoMatter", "NoThing", "NoWay", "NoRows", "NoDay", "NoHold", "NoTelling", "NoAnswer", "Answered", "MOST_COLUMNS", "MOST_SUMMED", "need", "is_column", "width_of", "copied", "cut", "joined", "key_of", "summed", "_law_at", "_law_purse", "_law_take", "_law_number"]
def loose1 : List Str := ["_law_rows", "_law_word", "_law_no_column", "_law_all", "_law_refused", "_law_let"]
def loose : List Str := loose0 ++ loose1
abbrev R : PySem.W.OpenRow := PySem.W.OpenLaw.row PySem.Challenge.rw_forgethall_k22_ways_refused
abbrev hk : PySem.W.Hook := He.hookX 6 fa fn [] [] ex
def ob (s : PySem.W.SharedT) : He.AlX := He.obsX 6 fa fn [] [] ex (HandSHeadRun.getT s)
theorem ob_eq (s : PySem.W.SharedT) : ob s = hk.obs s.abs := He.obsX_eq (HandSHeadRun.getT_eq s)
theorem run (w : World) : HandSHeadRun.RunEq R (PySem.W.view R.prog [39]) hk ob 6000 loose w := by
  intro os
  kernel_rfl
end G22
open PySem PySem.W PySem.Calls PyProof.Rows
set_option maxRecDepth 100000 in
theorem PySem.Challenge.cw_forgethall_k22_ways_refused_holds : PySem.Challenge.rw_forgethall_k22_ways_refused.Holds := by
  w_on; o_law
  refine HandSHeadRun.head_any (r := (OpenLaw.row PySem.Challenge.rw_forgethall_k22_ways_refused)) (q := view (OpenLaw.row PySem.Challenge.rw_forgethall_k22_ways_refused).prog [39]) (H := G22.hk) (ob := G22.ob) (M := 6000) (loose := G22.loose) (d := HandSHeadRun.topDef (OpenLaw.row PySem.Challenge.rw_forgethall_k22_ways_refused).prog 39) (kwd := []) G22.ob_eq
    (by kernel_rfl) (fun s => by kernel_rfl) G22.run (by kernel_rfl) (by kernel_rfl) (by kernel_rfl) (by rfl) (by first | assumption | decide +kernel) (by decide +kernel) ⟨rfl, rfl, rfl, rfl, rfl, by decide +kernel⟩ ?hw ?hc
  case hw => w_witness2
  case hc =>
    refine U.walk_ofG (l := PySem.Challenge.rw_forgethall_k22_ways_refused) (n := 63) (k := 7) (x := "_law_script") (CX := L2.CX0) rfl (by decide) (by kernel_rfl) ⟨rfl, by decide, by decide⟩ ?F (fun _ _ _ _ z => z)
    intro w mg fa h Y GG hmg0
    obtain ⟨K, KX, c⟩ := Y
    have T : G22.Txt w K mg := ⟨h, KX, GG, c⟩
    have hmg : mg ("law" : PySem.Str) = some (.ref fa) := by
      have e : (HandSHeadRun.topDef (OpenLaw.row PySem.Challenge.rw_forgethall_k22_ways_refused).prog 39).name = ("law" : PySem.Str) := by kernel_rfl
      rw [← e]
      exact hmg0
    have e := hmg.symm.trans T.g_law
    cases e
    obtain ⟨fd, hb, hF⟩ := G22.ok_law (P := (PySem.Challenge.rw_forgethall_k22_ways_refused).prog) T
    exact ⟨K, fd, G22.sp_law K, KX, hb, fun H a ns hl hO hS => G22.law_asks K (U.errB_ok c.more) H a ns hl hO hS, fun base _ _ => hF base⟩
