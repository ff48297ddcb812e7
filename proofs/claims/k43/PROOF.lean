import PyProof.Rows.All
import Wide.All
import OpenK.AllK
import Wide.FinOn
import KE.KStateDown
import KE.KExcIs
import HandS.ForExc
import HandS.Defaults
import HandS.ExcInit
import HandS.ExcInitHot
import HandS.ExcCtx
import HandS.HotCalls
import HandS.ExcIs
import HandS.ExcField
import HandS.IsInst
import HandS.ForMost
import HandS.Conv
import HandS.Wide
import HandS.WideBits
import HandS.Style
import HandS.Flow
import HandS.Evl
import HandS.Head0
import HandS.Head1
import HandS.Head2
import HandS.HeadEnd
import HandS.HeadHook1
import HandS.HeadHook2
import HandS.HeadHook3
import HandS.HeadHook4
import HandS.EndBits
import HandS.SetFor
import PySem.Challenge.RW_noisebound_k43_press_errors_bounded
set_option Elab.async false
set_option linter.all false
set_option maxRecDepth 100000
set_option maxHeartbeats 4000000

namespace NB
open PySem PySem.Spec PyProof.Rows L2

/-! ## errors that are made, with their context told -/
section
variable {X : Cx}
/-- C(e, ..) where nothing is handled: the new error's context is None -/
theorem mkErr {CX : CXT} {x : Str} {e : Expr} {es : List Expr} {ta : TA} {p pos : Pos} {C fI : Addr} {k : Nat} {fd : FuncData} {ps : List Str} {sp : Sp}
    (T : OexC X.K C) (iC : PySem.W.findIn X.K (.ref C) "__init__" = some (some (.ref fI)))
    (tI : PySem.W.typeIn X.K (.ref fI) = some (.type "function"))
    (F1 : FnOk X.prog X.w X.K X.mg X.base CX k fI fd ps sp) (hr : Room (k + 1) X.A) (hb : Binds X.K fd ps [])
    (hx : Passes CX X (fun _ _ _ => False)) (hg : Gl X x) (hm : X.mg x = some (.ref C)) (ha : PA X (e :: es) ta)
    (hdb : (x == ("__debug__" : Str)) = false := by decide)
    (he : starEach (e :: es) X.env = (false, eval e X.env) :: starEach es X.env := by rfl)
    (hpl : (backTo pos (starEach es X.env)).any (·.1) = false := by rfl) :
    L2N.PMk X (.Call (.Name x p) (e :: es) [] pos) (tMkO C sp [] ta) := by
  intro pins s σ H Q I h
  obtain ⟨nm, q, N, bs, bm, sn, sub, ab, col, dd, k0, k1, k2, k3, k5, hC, hbm⟩ := T.cls
  refine wpAny_Call_Name_kw (ld_glob I hg hm ?_ hdb)
  refine PySem.W.callWith_K (h₀ := X.base) I.ok.mod.kin T.kC
    (thn (ha.run pos pins s σ H _ I h) fun us s1 ⟨vs, H1, I1, r1, hz, q1⟩ => ⟨I1.kIn, ?_⟩) he hpl
  show wpAny _ _ (call (.ref C) us) _ _ _
  obtain ⟨hp, g, dr, tk, os⟩ := s1
  generalize hn0 : hp.objs.size + 1 = n0
  have hsz : hp.objs.size ≤ n0 := by omega
  have nn : H1 n0 = none := I1.hok.fresh hsz
  have hq := q1 n0 nn
  rw [List.append_nil] at hq
  have kk : ∀ b o, hp.get? b = some o →
      ((hp.push (PySem.W.kdv_tup us)).push (PySem.HandSPX.excO C hp.objs.size)).get? b = some o :=
    fun b o z => Heap.get?_push_of_some _ (Heap.get?_push_of_some _ z)
  have hget : ((hp.push (PySem.W.kdv_tup us)).push (PySem.HandSPX.excO C hp.objs.size)).get? n0 = some (PySem.HandSPX.excO C hp.objs.size) := by
    rw [← hn0]
    heap_get
  have I2 := I1.laid (t' := tk) (a := n0) (o := exo n0 C none)
    (h' := (hp.push (PySem.W.kdv_tup us)).push (PySem.HandSPX.excO C hp.objs.size)) kk hsz (exo_ok hget)
  have r2 : Vals (V.ref n0 :: vs) (Value.ref n0 :: us) := .cons rfl r1
  have hl : (Value.ref n0 :: us).length = ps.length := by
    rw [← F1.len _ _ _ _ hq]
    exact r2.length.symm
  have hus : us.length ≤ sizeLine := by
    rw [← Paired.length r1, sizeLine_eq]
    omega
  have b2 := hb _ (Value.ref n0 :: us) I2.kIn (by rw [List.append_nil]; exact hl)
  rw [List.append_nil] at b2
  rw [← hn0] at b2 r2 hq I2
  refine wpAny_call (PySem.HandSPX.call_own F.excBase_ValueError (fun Y => PySem.HandSPX.refsVE_contains Y bm hbm)
    (I1.kIn _ _ hC) (PySem.W.looks_findIn I1.kIn iC) (fun self => PySem.W.bind_fn I1.kIn self tI) hus
    (codeAny_mono (F1.run _ X.stack _ _ ⟨_, []⟩ _ _ _ (fun _ _ _ => False)
      (hr.make C us []) (I2.env0.make C us []) b2 r2 hq) fun r s' hq' => ?_))
  cases r with
  | error er => exact hx pins σ _ _ er s' I2 hq'
  | ok fl =>
    cases fl with
    | ret u =>
      obtain ⟨v, H2, os2, bare2, un2, hok2, rv, ev, d, fs, ea, ed, hd1, q2⟩ := hq'
      subst ev
      obtain ⟨h2, g2, d2, t2, os'⟩ := s'
      obtain ⟨t0, G, J, kG, ge, hoe, na⟩ := mk_end0 (d2 := d2) (t2 := t2) I1 (Nat.le_succ _) kk un2 hok2 os2 bare2 ea ed hd1
      refine ⟨rv, hp.objs.size + 1, _, _, ⟨G, g2, d2, t2, os'⟩, _, .ref C, some d, rfl, J, kG, ge, hoe, ⟨rfl, rfl, fun vs hv => ?_⟩,
        rfl, rfl, na, rfl, bare2, raises_own T.exC T.tyC, q2⟩
      cases hv
      rfl
    | next => exact False.elim hq'
    | brk => exact False.elim hq'
    | cont => exact False.elim hq'
def tErrF (a d : Addr) (n : Str) (te : TE) : TE := fun σ H Q => te σ H fun x H1 => x = .ref a ∧ ∃ (fs : List (Str × V)) (v : V), H1 d = some (.xd fs) ∧ fs.lookup n = some v ∧ Q v H1
/-- the error is held by whoever stands in the context; its attribute is read -/
theorem pe_errFld {a C : Addr} {oe : Obj} {d : Addr} {e : Expr} {te : TE} {pos : Pos} {n : Str} (T : XfC X.K C) (hno : PySem.W.findIn X.K (.ref C) n = some none)
    (hp : (a, oe) ∈ X.pn) (hz : Zc (.ref C) (some d) oe) (hf : ∃ vs, oe.data = .fields vs) (he : PE X e te)
    (hb : attributeBase e n X.env (eval e X.env) = eval e X.env := by rfl) :
    PE X (.Attribute e n pos) (tErrF a d n te) := by
  refine ⟨fun pins s σ H Q I h => ?_⟩
  refine attr_of hb (thn (he.run pins s σ H _ I h) fun u s1 hh => ?_)
  obtain ⟨x, H1, I1, rx, ex, fs, v, ea, l, q⟩ := hh
  subst ex
  obtain rfl : u = Value.ref a := rx
  have ha := (I1.pin (a, oe) (List.mem_append_left _ hp)).1
  obtain ⟨vs, hd⟩ := hf
  obtain ⟨mA, hns, hr⟩ : ObjOk X.prog X.w H1 s1.heap d (.xd fs) := I1.hok d _ ea
  obtain ⟨od, ho, hl⟩ := lookIn_ns hns
  have hr' := hr n
  rw [l] at hr'
  obtain ⟨u, hu, ru⟩ := RelO.some_of hr'
  have J : PySem.W.InstAt s1.heap a oe C (some od) := ⟨ha, hz.1, by unfold PySem.W.notCls; rw [hd] <;> rfl, by rw [hz.2]; exact ho⟩
  exact HandSPX.exc_get I1.kIn J T.ga T.gg T.exC (PySem.W.findObj_own T.hdC hno rfl (by rw [hl, hu])) (handed_of ru) ⟨v, H1, I1.tok _, ru, q⟩
/-- what the written part says of an error's class, so that it is looked at -/
structure ErrC (K : PySem.W.Frag) (C : Addr) : Prop where
  x : ExcC K C
  f : XfC K C
/-- isinstance(e, c) of the error that the context holds -/
def rIsP (K : PySem.W.Frag) (C a : Addr) (d : Option Addr) : List V → Hp → VK → Prop := fun xs H Q => ∃ (c : V) (cv : Value) (b : Bool), xs = [.ref a, c] ∧ ClsV c cv ∧ (∀ dd, d = some dd → ∃ fs, H dd = some (.xd fs)) ∧
  PySem.W.kitOne K (.ref C) cv = some b ∧ Q (.bl b) H
/-- isinstance(e, (c1, c2, ..)) -/
def rIsPT (K : PySem.W.Frag) (C a : Addr) (d : Option Addr) : List V → Hp → VK → Prop := fun xs H Q => ∃ (tp : Addr) (cs : List V) (us : List Value) (b : Bool), xs = [.ref a, .ref tp] ∧ H tp = some (.tup cs) ∧ Paired ClsV cs us ∧
  (∀ dd, d = some dd → ∃ fs, H dd = some (.xd fs)) ∧ PySem.W.kitAny K (.ref C) us = some b ∧ Q (.bl b) H
theorem errKit {pins : List (Addr × Obj)} {σ : L2.St} {H : Hp} {s : Shared} {a C : Addr} {oe : Obj} {d : Option Addr} (T : ErrC X.K C) (I : Inv X pins σ H s) (hp : (a, oe) ∈ X.pn) (hz : Zc (.ref C) d oe) (hf : ∃ vs, oe.data = .fields vs)
    (hd : ∀ dd, d = some dd → ∃ fs, H dd = some (.xd fs)) : ∃ P : Heap → Prop, PySem.W.KitX X.K (.ref a) (.ref C) P ∧ P s.heap := by
  have ha := (I.pin (a, oe) (List.mem_append_left _ hp)).1
  obtain ⟨vs, hv⟩ := hf
  have hcl : (PySem.W.clsIn X.K C).isSome = true := by
    obtain ⟨cd, hc, _⟩ := PySem.W.any_some T.x.hd
    rw [hc] <;> rfl
  have nc : PySem.W.notCls oe = true := by
    unfold PySem.W.notCls
    rw [hv] <;> rfl
  cases d with
  | none => exact ⟨_, PySem.W.kitx_exc (ox := oe) (od := none) hcl T.x.hg T.x.hk T.x.hs T.x.ha T.x.hn T.x.ht T.x.hm, ha, hz.1, nc, by rw [hz.2]; trivial⟩
  | some dd =>
    obtain ⟨fs, e⟩ := hd dd rfl
    obtain ⟨mA, hns, hr⟩ : ObjOk X.prog X.w H s.heap dd (.xd fs) := I.hok dd _ e
    obtain ⟨od, ho, hl⟩ := lookIn_ns hns
    exact ⟨_, PySem.W.kitx_exc (ox := oe) (od := some od) hcl T.x.hg T.x.hk T.x.hs T.x.ha T.x.hn T.x.ht T.x.hm, ha, hz.1, nc, by rw [hz.2]; exact ho⟩
theorem call_isP {a C : Addr} {oe : Obj} {d : Option Addr} (T : ErrC X.K C) (hp : (a, oe) ∈ X.pn) (hz : Zc (.ref C) d oe) (hf : ∃ vs, oe.data = .fields vs) : CallR X (.builtin "isinstance") (rIsP X.K C a d) := by
  intro pins s σ H xs us Q I r h
  obtain ⟨c, cv, b, rfl, hcv, hd, e, q⟩ := h
  obtain ⟨u1, u2, rfl, r1, r2⟩ := vals2 r
  cases r1
  have ec := hcv.eq r2
  subst ec
  obtain ⟨P, Z, p⟩ := errKit T I hp hz hf hd
  exact PySem.W.kia_one Z I.kIn p e (fun z => nomatch z) fun tk => ⟨.bl b, H, I.tok tk, rfl, q⟩
theorem call_isPT {a C : Addr} {oe : Obj} {d : Option Addr} (T : ErrC X.K C) (hp : (a, oe) ∈ X.pn) (hz : Zc (.ref C) d oe) (hf : ∃ vs, oe.data = .fields vs) : CallR X (.builtin "isinstance") (rIsPT X.K C a d) := by
  intro pins s σ H xs us Q I r h
  obtain ⟨tp, cs, ws, b, rfl, hT, hcv, hd, e, q⟩ := h
  obtain ⟨u1, u2, rfl, r1, r2⟩ := vals2 r
  cases r1
  cases r2
  obtain ⟨P, Z, p⟩ := errKit T I hp hz hf hd
  obtain ⟨_, its, rv, o, h1, h2, n, h3⟩ : ObjOk X.prog X.w H s.heap tp (.tup cs) := I.hok tp _ hT
  have e3 := ClsV.all hcv rv
  subst e3
  obtain ⟨oc, od, dt, sl⟩ := o
  simp only at h2 h3
  subst h2 h3
  exact PySem.W.kia_tup Z I.kIn p h1 e (fun z => nomatch z) fun tk => ⟨.bl b, H, I.tok tk, rfl, q⟩
end

/-! ## defs that are called while an error is handled: the error is known to them -/
open L2H in
structure FnP (P : Program) (w : World) (K : PySem.W.Frag) (mg : Str → Option Value) (base : Heap) (k : Nat) (f : Addr) (fd : FuncData) (ps : List Str) (sp : Addr → Value → Option Addr → Sp) : Prop where
  len : ∀ a c d vs H Q E, sp a c d vs H Q E → vs.length = ps.length
  run : ∀ (A : Around) (outer : List Env) (s : Shared) (H : Hp) (args : Args) (us : List Value) (vs : List V) (Q : VK) (E : XK) (p : Addr × Obj) (c : Value) (d : Option Addr),
    RoomH k A → Hot1 A p → Zc c d p.2 → PinOk outer H s p → Env0 P w K mg base A outer s H → BindsTo s fd args (ps.zip us) → Vals vs us → sp p.1 c d vs H Q E →
    codeAny (model P w) A (.call (.ref f) args) (CR (L2N.CX P w) outer P w H s Q E) s
open L2H in
/-- such a def keeps its promise if its body's reading follows from it -/
theorem fnP_of {P : Program} {w : World} {K : PySem.W.Frag} {mg : Str → Option Value} {base : Heap} {k : Nat} {f : Addr} {name qual : Str} {params : Arguments} {body : List Stmt} {scope : Scope} {fd : FuncData} {N ps : List Str} {sp : Addr → Value → Option Addr → Sp} {dvs : List V} {kws : List (Str × V)}
    (F : FunD K name qual params body scope dvs kws f fd) (S : FnScope N ps scope) (len : ∀ a c d vs H Q E, sp a c d vs H Q E → vs.length = ps.length)
    (hbody : ∀ (cdv : Value) (A : Around) (outer : List Env) (s : Shared) (H : Hp) (vs : List V) (Q : VK) (E : XK) (p : Addr × Obj) (c : Value) (d : Option Addr), Hot1 A p → Zc c d p.2 → RoomH k (A.deeper (envOfC qual scope s.heap.objs.size f cdv)) → sp p.1 c d vs H Q E →
      ∃ t, PSs (cxH (L2N.CX P w) P w K mg base N qual scope f cdv A outer s H E p) body t ∧ t { nx := fun _ H' => Q .non H', rt := Q } (L2.start N vs) H) :
    FnP P w K mg base (k + 1) f fd ps sp := by
  obtain ⟨oc, od, dV, kV, doc, pm, an, cdv, ct, osl, rfl, lk, hcd, _, _⟩ := F.ex
  refine ⟨len, fun A outer s H args us vs Q E p c d hr hot hzc hpin e0 hb r hsp => ?_⟩
  have kb : ∀ b o, base.get? b = some o → s.heap.get? b = some o := fun b o e => (e0.bs b o e).1
  have KX : K.In s.heap := e0.mod.kin.keeps kb
  have hkind : ∀ y ∈ ps.zip us, scope.names.lookup y.1 = some .local ∨
      (scope.names.lookup y.1 = some .cell ∧ ((cellsFrom (s.heap.objs.size + 1) scope.names []).lookup y.1).isSome = true) := by
    intro y hy
    obtain ⟨n, v⟩ := y
    rcases S.par n (List.of_mem_zip hy).1 with q | q
    · exact .inl q
    · exact .inr ⟨q, PySem.W.cellsFrom_some _ _ _ (.inl q)⟩
  refine codeAny_call_function hr.depth (KX _ _ lk) rfl S.co S.gen rfl (PySem.W.codeRec_of KX hcd) (hb _ _ _ _ ?_)
  refine wpAny_newFunctionEnv_cells S.kind hkind fun env he s1 x => ?_
  subst he
  refine ⟨(e0.mod.nolimit.keeps kb).keeps x.toInCall.keep, codeAny_func ?_⟩
  obtain ⟨t, ht, hq⟩ := hbody cdv A outer s H vs Q E p c d hot hzc (hr.deeper _) hsp
  have I := inv_startH (CX := L2N.CX P w) (cd := cdv) (f := f) (qual := qual) (E := E) S hpin e0 (len _ _ _ _ _ _ _ hsp) r x
  refine wpAny_mono (ht.run [] s1 (L2.start N vs) H _ I hq) (fun fl s' hs => ?_) fun e s' hs => hs
  cases fl with
  | ret u =>
    obtain ⟨v, σ', H', J, rv, q⟩ := hs
    exact ⟨v, H', J.os, J.bare, J.base, J.hok, rv, q⟩
  | next =>
    obtain ⟨σ', H', J, q⟩ := hs
    exact ⟨.non, H', J.os, J.bare, J.base, J.hok, rfl, q⟩
  | brk =>
    obtain ⟨_, _, _, q⟩ := hs
    exact False.elim q
  | cont =>
    obtain ⟨_, _, _, q⟩ := hs
    exact False.elim q
def tCallP (sp : Addr → Value → Option Addr → Sp) (a : Addr) (c : Value) (d : Option Addr) (t : TA) : TE := fun σ H Q => t σ H fun vs H1 => sp a c d vs H1 Q E0
open L2H in
theorem pe_callP {X : Cx} {k : Nat} {f : Addr} {fd : FuncData} {ps : List Str} {sp : Addr → Value → Option Addr → Sp} {c : Value} {d : Option Addr} {x : Str} {q pos : Pos} {e : Expr} {es : List Expr} {t : TA} {p : Addr × Obj}
    (F : FnP X.prog X.w X.K X.mg X.base k f fd ps sp) (hr : RoomH k X.A) (hot : Hot1 X.A p) (hzc : Zc c d p.2) (hp : p ∈ X.pn) (hg : Gl X x) (hm : X.mg x = some (.ref f)) (hk : PySem.W.keepIn X.K (.ref f) = true) (hb : Binds X.K fd ps [])
    (ha : PA X (e :: es) t) (hdb : (x == ("__debug__" : Str)) = false := by decide)
    (he : starEach (e :: es) X.env = (false, eval e X.env) :: starEach es X.env := by rfl) (hpl : (backTo pos (starEach es X.env)).any (·.1) = false := by rfl) :
    PE X (.Call (.Name x q) (e :: es) [] pos) (tCallP sp p.1 c d t) := by
  refine ⟨fun pins s σ H Q I h => ?_⟩
  refine wpAny_Call_Name_kw (ld_glob I hg hm ?_ hdb)
  refine PySem.W.callWith_K (h₀ := X.base) I.ok.mod.kin hk (thn (ha.run pos pins s σ H _ I h) fun us s1 hh => ?_) he hpl
  obtain ⟨vs, H1, I1, r, q1⟩ := hh
  refine ⟨I1.kIn, ?_⟩
  have hl : (us ++ []).length = ps.length := by
    rw [List.append_nil, ← r.length]
    exact F.len _ _ _ _ _ _ _ q1
  have b := hb s1 us I1.kIn hl
  rw [List.append_nil] at b
  have P1 := I1.pin p (List.mem_append_left _ hp)
  have hpin : PinOk X.stack H1 s1 p := ⟨P1.1, P1.2.1, fun z => (List.mem_cons.mp (I1.stkSub p.1 z)).elim P1.2.2.1 P1.2.2.2.1, P1.2.2.2.2⟩
  refine wpAny_call (codeAny_mono (F.run X.A X.stack s1 H1 ⟨us, []⟩ us vs Q E0 p c d hr hot hzc hpin I1.env0 b r q1) fun r s' hq => ?_)
  cases r with
  | error e =>
    obtain ⟨_, _, _, _, _, _, _, _, _, _, _, _, z⟩ := hq
    exact z.elim
  | ok fl =>
    cases fl with
    | ret u => exact I1.after hq
    | next => exact False.elim hq
    | brk => exact False.elim hq
    | cont => exact False.elim hq
theorem passN {X : Cx} : Passes (L2N.CX X.prog X.w) X E0 := fun _ _ _ _ _ _ _ h => by
  obtain ⟨_, _, _, _, _, _, _, _, _, _, _, _, z⟩ := h
  exact z.elim
theorem takesN {X : Cx} : L2N.Takes X (fun _ _ _ _ => False) := fun _ _ x => by
  obtain ⟨_, _, _, _, _, _, _, _, _, _, _, _, _, _, _, _, z⟩ := x
  exact z.elim
theorem hot_suite {X : Cx} {a : Addr} {oe : Obj} {pn : List (Addr × Obj)} {cls : Value} {d : Option Addr} (hz : L2N.Zn cls d oe) (hf : ∃ vs, oe.data = .fields vs) : L2H.Hot1 (X.suite a ((a, oe) :: pn)).A (a, oe) := by
  obtain ⟨vs, e⟩ := hf
  exact ⟨rfl, vs, e, hz.2.2 vs e⟩
end NB

namespace NB
open PySem PySem.Spec PyProof.Rows L2
abbrev Sl := L2.St

/-! ## operations under names of our own -/
def rAddI : R2 := rI0 fun i j => .int (i + j)
def rSubI : R2 := rI0 fun i j => .int (i - j)
def rMulI : R2 := rI IntMulOk fun i j => .int (i * j)
def rDivI : R2 := rI CDivW fun i j => .int (i / j)
def rModI : R2 := rI (fun _ j => 0 < j) fun i j => .int (i % j)
def rPowI : R2 := rI CPow fun i j => .int (i ^ j.toNat)
def rShlI : R2 := rI CShl fun i j => .int (i * 2 ^ j.toNat)
def rShrI : R2 := rI (fun _ j => 0 ≤ j) fun i j => .int (i / 2 ^ j.toNat)
def rAndI : R2 := rI0 fun i j => .int (Builtin.bitAnd i j)
def rOrI : R2 := rI0 fun i j => .int (Builtin.bitOr i j)
def rXorI : R2 := rI0 fun i j => .int (Builtin.bitXor i j)
def rLtI : R2 := rI0 fun i j => .bl (decide (i < j))
def rLeI : R2 := rI0 fun i j => .bl (decide (i ≤ j))
def rGtI : R2 := rI0 fun i j => .bl (decide (j < i))
def rGeI : R2 := rI0 fun i j => .bl (decide (j ≤ i))
/-- x is None | True | False, x any value -/
def rIsK : R2 := fun x y H Q => (y = .non ∨ ∃ b, y = .bl b) ∧ Q (.bl (decide (x = y))) H
def rNotK : R2 := fun x y H Q => (y = .non ∨ ∃ b, y = .bl b) ∧ Q (.bl (!decide (x = y))) H
def rNegI : V → Hp → VK → Prop := rU fun i => .int (-i)
def rInvI : V → Hp → VK → Prop := rU fun i => .int (Builtin.bitNot i)
def cMax2 : List V → Hp → VK → Prop := fun xs H Q => ∃ i j, xs = [.int i, .int j] ∧ Q (.int (if j > i then j else i)) H
def cMin2 : List V → Hp → VK → Prop := fun xs H Q => ∃ i j, xs = [.int i, .int j] ∧ Q (.int (if j < i then j else i)) H
def cAbs : List V → Hp → VK → Prop := fun xs H Q => ∃ i, xs = [.int i] ∧ Q (.int (if i < 0 then -i else i)) H
def cInt : List V → Hp → VK → Prop := fun xs H Q => (∃ i, xs = [.int i] ∧ Q (.int i) H) ∨ ∃ k, xs = [.bl k] ∧ Q (.int (if k then 1 else 0)) H
def cLen (K : PySem.W.Frag) : List V → Hp → VK → Prop := fun xs H Q => ∃ p ys, xs = [.ref p] ∧ (SqL K H p ys ∨ SqT K H p ys) ∧ Q (.int ys.length) H
def cList (K : PySem.W.Frag) : List V → Hp → VK → Prop := fun xs H Q => ∃ p ys, xs = [.ref p] ∧ (SqL K H p ys ∨ SqT K H p ys) ∧ ∀ l, H l = none → Q (.ref l) (upd H l (.lst ys))
def cTup (K : PySem.W.Frag) : List V → Hp → VK → Prop := fun xs H Q => ∃ p ys, xs = [.ref p] ∧ ((SqL K H p ys ∧ ∀ l, H l = none → Q (.ref l) (upd H l (.tup ys))) ∨ (SqT K H p ys ∧ Q (.ref p) H))
section
variable {X : Cx}
theorem oAdd : OpR X (binaryOp .Add) rAddI := op_add
theorem oSub : OpR X (binaryOp .Sub) rSubI := op_sub
theorem oMul : OpR X (binaryOp .Mult) rMulI := opI fun _ _ _ _ _ _ _ hc q => mul_int q hc
theorem oDiv : OpR X (binaryOp .FloorDiv) rDivI := op_fdivW
theorem oMod : OpR X (binaryOp .Mod) rModI := op_mod
theorem oPow : OpR X (binaryOp .Pow) rPowI := op_pow
theorem oShl : OpR X (binaryOp .LShift) rShlI := op_shlW
theorem oShr : OpR X (binaryOp .RShift) rShrI := op_shr
theorem oAnd : OpR X (binaryOp .BitAnd) rAndI := op_and
theorem oOr : OpR X (binaryOp .BitOr) rOrI := op_or
theorem oXor : OpR X (binaryOp .BitXor) rXorI := op_xor
theorem oLt : OpR X (compareOp .Lt) rLtI := op_lt
theorem oLe : OpR X (compareOp .LtE) rLeI := op_le
theorem oGt : OpR X (compareOp .Gt) rGtI := op_gt
theorem oGe : OpR X (compareOp .GtE) rGeI := op_ge
theorem uNeg : UnR X (unaryOp .USub) rNegI := un_neg
theorem uInv : UnR X (unaryOp .Invert) rInvI := un_inv
theorem kMax2 (hc : X.calm = true) : CallR X (.builtin "max") cMax2 := call_max2 hc
theorem kMin2 (hc : X.calm = true) : CallR X (.builtin "min") cMin2 := call_min2 hc
theorem kAbs : CallR X (.builtin "abs") cAbs := call_abs
theorem kInt : CallR X (.type "int") cInt := call_int1
theorem kLen : CallR X (.builtin "len") (cLen X.K) := call_len_seq
theorem kList : CallR X (.type "list") (cList X.K) := call_list_of
theorem kTup : CallR X (.type "tuple") (cTup X.K) := call_tuple_of
theorem oIsK : OpR X (compareOp .Is) rIsK := by
  intro pins s σ H x y v u Q I rx ry h
  obtain ⟨hy, q⟩ := h
  rcases hy with rfl | ⟨b, rfl⟩
  · exact op_isN pins s σ H x _ v u Q I rx ry ⟨rfl, q⟩
  · cases ry
    by_cases e : x = .bl b
    · subst e
      cases rx
      exact wpAny_is_self rfl ⟨.bl true, H, I, rfl, by simpa using q⟩
    · have q' : Q (.bl false) H := by simpa [e] using q
      have hne : v ≠ Value.bool b := by
        rintro rfl
        cases x <;> first
          | (cases rx; exact e rfl)
          | (cases rx; done)
          | (obtain ⟨t, z⟩ := rx; cases z)
      refine wpAny_is_other ?_ hne ⟨.bl false, H, I, rfl, q'⟩
      cases x <;> first
        | (cases rx; rfl)
        | (obtain ⟨t, rfl⟩ := rx; rfl)
theorem oNotK : OpR X (compareOp .IsNot) rNotK := by
  intro pins s σ H x y v u Q I rx ry h
  obtain ⟨hy, q⟩ := h
  rcases hy with rfl | ⟨b, rfl⟩
  · exact op_notN pins s σ H x _ v u Q I rx ry ⟨rfl, q⟩
  · cases ry
    by_cases e : x = .bl b
    · subst e
      cases rx
      exact wpAny_isNot_self rfl ⟨.bl false, H, I, rfl, by simpa using q⟩
    · have q' : Q (.bl true) H := by simpa [e] using q
      have hne : v ≠ Value.bool b := by
        rintro rfl
        cases x <;> first
          | (cases rx; exact e rfl)
          | (cases rx; done)
          | (obtain ⟨t, z⟩ := rx; cases z)
      refine wpAny_isNot_other ?_ hne ⟨.bl true, H, I, rfl, q'⟩
      cases x <;> first
        | (cases rx; rfl)
        | (obtain ⟨t, rfl⟩ := rx; rfl)
end

/-! ## facts of heaps -/
/-- what stood stands -/
def Ext (H H' : Hp) : Prop := ∀ a o, H a = some o → H' a = some o
theorem Ext.refl (H : Hp) : Ext H H := fun _ _ e => e
theorem Ext.trans {H H1 H2 : Hp} (a : Ext H H1) (b : Ext H1 H2) : Ext H H2 := fun x o e => b x o (a x o e)
theorem Ext.new {H : Hp} {p : Addr} {o : HO} (h : H p = none) : Ext H (upd H p o) := fun a u e => by
  rw [upd_ne (ne_of_none e h)]
  exact e
theorem Ext.mut {H H' : Hp} {p : Addr} {o : HO} (e : Ext H H') (h : H p = none) : Ext H (upd H' p o) := fun a u ha => by
  rw [upd_ne (ne_of_none ha h)]
  exact e a u ha
theorem Ext.free {H H' : Hp} (e : Ext H H') {p : Addr} (h : H' p = none) : H p = none := by
  cases q : H p with
  | none => rfl
  | some o =>
    rw [e p o q] at h
    cases h
theorem upd_old {H : Hp} {p a : Addr} {o u : HO} (h : H p = none) (e : H a = some u) : upd H p o a = some u := by
  rw [upd_ne (ne_of_none e h)]
  exact e
/-- the same but at one address -/
def ExX (s : Addr) (H H' : Hp) : Prop := ∀ a o, a ≠ s → H a = some o → H' a = some o
theorem ExX.refl (s : Addr) (H : Hp) : ExX s H H := fun _ _ _ e => e
theorem ExX.of {s : Addr} {H H' : Hp} (e : Ext H H') : ExX s H H' := fun a o _ h => e a o h
theorem ExX.trans {s : Addr} {H H1 H2 : Hp} (a : ExX s H H1) (b : ExX s H1 H2) : ExX s H H2 := fun x o n e => b x o n (a x o n e)
theorem ExX.ext {s : Addr} {H H1 H2 : Hp} (a : ExX s H H1) (b : Ext H1 H2) : ExX s H H2 := a.trans (.of b)
theorem ExX.upd {s : Addr} {H H' : Hp} {o : HO} (e : ExX s H H') : ExX s H (upd H' s o) := fun a u n h => by
  rw [upd_ne n]
  exact e a u n h
theorem ExX.mut {s p : Addr} {H H' : Hp} {o : HO} (e : ExX s H H') (h : H p = none) : ExX s H (L2.upd H' p o) := fun a u n ha => by
  rw [upd_ne (ne_of_none ha h)]
  exact e a u n ha
theorem ExX.free {s p : Addr} {H H' : Hp} (e : ExX s H H') (n : p ≠ s) (h : H' p = none) : H p = none := by
  cases q : H p with
  | none => rfl
  | some o =>
    rw [e p o n q] at h
    cases h
theorem sqL_ext {K : PySem.W.Frag} {H H' : Hp} {a : Addr} {xs : List V} (e : Ext H H') (h : SqL K H a xs) : SqL K H' a xs := Evl.ex_l e h
theorem sqT_ext {K : PySem.W.Frag} {H H' : Hp} {a : Addr} {xs : List V} (e : Ext H H') (h : SqT K H a xs) : SqT K H' a xs := Evl.ex_t e h
theorem sqL_exX {K : PySem.W.Frag} {s : Addr} {H H' : Hp} {a : Addr} {xs : List V} (e : ExX s H H') (n : a ≠ s) (h : SqL K H a xs) : SqL K H' a xs := by
  rcases h with (h | ⟨o, h⟩) | h
  · exact .inl (.inl (e _ _ n h))
  · exact .inl (.inr ⟨o, e _ _ n h⟩)
  · exact .inr h
theorem sqL_of {K : PySem.W.Frag} {H : Hp} {a : Addr} {xs : List V} (h : H a = some (.lst xs)) : SqL K H a xs := .inl (.inl h)
theorem sqT_of {K : PySem.W.Frag} {H : Hp} {a : Addr} {xs : List V} (h : H a = some (.tup xs)) : SqT K H a xs := .inl (.inl h)

theorem ext_at {H H' : Hp} {a : Addr} {o : HO} (e : Ext H H') (h : H a = some o) : H' a = some o := e a o h
theorem exX_at {s : Addr} {H H' : Hp} {a : Addr} {o : HO} (e : ExX s H H') (n : a ≠ s) (h : H a = some o) : H' a = some o := e a o n h
theorem upd_other {H : Hp} {p a : Addr} {o u : HO} (n : a ≠ p) (h : H a = some u) : upd H p o a = some u := by
  rw [upd_ne n]
  exact h
theorem ext_free {H H' : Hp} {a : Addr} (e : Ext H H') (h : H' a = none) : H a = none := e.free h
theorem upd_free {H : Hp} {p a : Addr} {o : HO} (h : upd H p o a = none) : H a = none := by
  by_cases e : a = p
  · rw [e, upd_same] at h
    cases h
  · rw [upd_ne e] at h
    exact h
theorem sqL_upd {K : PySem.W.Frag} {H : Hp} {p a : Addr} {o : HO} {xs : List V} (n : H p = none) (h : SqL K H a xs) : SqL K (upd H p o) a xs := sqL_ext (.new n) h

/-! ## readings, a step at a time -/
section
variable {K : PySem.W.Frag} {σ : Sl} {H : Hp} {i j : Int} {n : Nat} {b : Bool} {v x y : V} {Q : VK} {QB : Bool → Hp → Prop} {QA : List V → Hp → Prop} {ta tb te tc : TE} {t u : TT} {tr : TA} {r r' : R2} {D : Ends} {t1 t2 : TS} {g : TG} {a p : Addr} {xs : List V}
theorem i_var (h : σ[n]? = some (some v)) (q : Q v H) : tVar n σ H Q := ⟨v, h, q⟩
theorem i_c (q : Q v H) : tC v σ H Q := q
theorem i_op (q : ta σ H fun x H1 => tb σ H1 fun y H2 => r x y H2 Q) : tOp r ta tb σ H Q := q
theorem i_un {r : V → Hp → VK → Prop} (q : ta σ H fun x H1 => r x H1 Q) : tUn r ta σ H Q := q
theorem i_add (q : Q (.int (i + j)) H) : rAddI (.int i) (.int j) H Q := ⟨i, j, rfl, rfl, q⟩
theorem i_sub (q : Q (.int (i - j)) H) : rSubI (.int i) (.int j) H Q := ⟨i, j, rfl, rfl, q⟩
theorem i_mul (h : IntMulOk i j) (q : Q (.int (i * j)) H) : rMulI (.int i) (.int j) H Q := ⟨i, j, rfl, rfl, h, q⟩
theorem i_div (h : CDivW i j) (q : Q (.int (i / j)) H) : rDivI (.int i) (.int j) H Q := ⟨i, j, rfl, rfl, h, q⟩
theorem i_mod (h : 0 < j) (q : Q (.int (i % j)) H) : rModI (.int i) (.int j) H Q := ⟨i, j, rfl, rfl, h, q⟩
theorem i_pow (h : CPow i j) (q : Q (.int (i ^ j.toNat)) H) : rPowI (.int i) (.int j) H Q := ⟨i, j, rfl, rfl, h, q⟩
theorem i_shl (h : CShl i j) (q : Q (.int (i * 2 ^ j.toNat)) H) : rShlI (.int i) (.int j) H Q := ⟨i, j, rfl, rfl, h, q⟩
theorem i_shr (h : 0 ≤ j) (q : Q (.int (i / 2 ^ j.toNat)) H) : rShrI (.int i) (.int j) H Q := ⟨i, j, rfl, rfl, h, q⟩
theorem i_and (q : Q (.int (Builtin.bitAnd i j)) H) : rAndI (.int i) (.int j) H Q := ⟨i, j, rfl, rfl, q⟩
theorem i_or (q : Q (.int (Builtin.bitOr i j)) H) : rOrI (.int i) (.int j) H Q := ⟨i, j, rfl, rfl, q⟩
theorem i_xor (q : Q (.int (Builtin.bitXor i j)) H) : rXorI (.int i) (.int j) H Q := ⟨i, j, rfl, rfl, q⟩
theorem i_lt (q : Q (.bl (decide (i < j))) H) : rLtI (.int i) (.int j) H Q := ⟨i, j, rfl, rfl, q⟩
theorem i_le (q : Q (.bl (decide (i ≤ j))) H) : rLeI (.int i) (.int j) H Q := ⟨i, j, rfl, rfl, q⟩
theorem i_gt (q : Q (.bl (decide (j < i))) H) : rGtI (.int i) (.int j) H Q := ⟨i, j, rfl, rfl, q⟩
theorem i_ge (q : Q (.bl (decide (j ≤ i))) H) : rGeI (.int i) (.int j) H Q := ⟨i, j, rfl, rfl, q⟩
theorem dec_int (i j : Int) : decide (V.int i = V.int j) = decide (i = j) := by
  by_cases h : i = j
  · rw [h]; simp
  · have h' : ¬ V.int i = V.int j := fun z => h (V.int.inj z)
    rw [decide_eq_false h, decide_eq_false h']
theorem dec_str (i j : Str) : decide (V.str i = V.str j) = decide (i = j) := by
  by_cases h : i = j
  · rw [h]; simp
  · have h' : ¬ V.str i = V.str j := fun z => h (V.str.inj z)
    rw [decide_eq_false h, decide_eq_false h']
theorem dec_bl (i j : Bool) : decide (V.bl i = V.bl j) = decide (i = j) := by
  by_cases h : i = j
  · rw [h]; simp
  · have h' : ¬ V.bl i = V.bl j := fun z => h (V.bl.inj z)
    rw [decide_eq_false h, decide_eq_false h']
theorem i_eqI (q : Q (.bl (decide (i = j))) H) : rEq (.int i) (.int j) H Q := ⟨rfl, by rw [dec_int]; exact q⟩
theorem i_neI (q : Q (.bl (!decide (i = j))) H) : rNe (.int i) (.int j) H Q := ⟨rfl, by rw [dec_int]; exact q⟩
theorem i_eqS {z w : Str} (q : Q (.bl (decide (z = w))) H) : rEq (.str z) (.str w) H Q := ⟨rfl, by rw [dec_str]; exact q⟩
theorem i_neS {z w : Str} (q : Q (.bl (!decide (z = w))) H) : rNe (.str z) (.str w) H Q := ⟨rfl, by rw [dec_str]; exact q⟩
theorem i_eqB {z w : Bool} (q : Q (.bl (decide (z = w))) H) : rEq (.bl z) (.bl w) H Q := ⟨rfl, by rw [dec_bl]; exact q⟩
theorem i_neB {z w : Bool} (q : Q (.bl (!decide (z = w))) H) : rNe (.bl z) (.bl w) H Q := ⟨rfl, by rw [dec_bl]; exact q⟩
theorem i_isN (q : Q (.bl (decide (x = .non))) H) : rIsK x .non H Q := ⟨.inl rfl, q⟩
theorem i_isB (q : Q (.bl (decide (x = .bl b))) H) : rIsK x (.bl b) H Q := ⟨.inr ⟨b, rfl⟩, q⟩
theorem i_notN (q : Q (.bl (!decide (x = .non))) H) : rNotK x .non H Q := ⟨.inl rfl, q⟩
theorem i_notB (q : Q (.bl (!decide (x = .bl b))) H) : rNotK x (.bl b) H Q := ⟨.inr ⟨b, rfl⟩, q⟩
theorem i_neg (q : Q (.int (-i)) H) : rNegI (.int i) H Q := ⟨i, rfl, q⟩
theorem i_inv (q : Q (.int (Builtin.bitNot i)) H) : rInvI (.int i) H Q := ⟨i, rfl, q⟩
theorem i_max2 (q : Q (.int (if j > i then j else i)) H) : cMax2 [.int i, .int j] H Q := ⟨i, j, rfl, q⟩
theorem i_min2 (q : Q (.int (if j < i then j else i)) H) : cMin2 [.int i, .int j] H Q := ⟨i, j, rfl, q⟩
theorem i_abs (q : Q (.int (if i < 0 then -i else i)) H) : cAbs [.int i] H Q := ⟨i, rfl, q⟩
theorem i_int (q : Q (.int i) H) : cInt [.int i] H Q := .inl ⟨i, rfl, q⟩
theorem i_intB (q : Q (.int (if b then 1 else 0)) H) : cInt [.bl b] H Q := .inr ⟨b, rfl, q⟩
theorem i_lenL (h : SqL K H p xs) (q : Q (.int xs.length) H) : cLen K [.ref p] H Q := ⟨p, xs, rfl, .inl h, q⟩
theorem i_lenT (h : SqT K H p xs) (q : Q (.int xs.length) H) : cLen K [.ref p] H Q := ⟨p, xs, rfl, .inr h, q⟩
theorem i_listL (h : SqL K H p xs) (q : ∀ l, H l = none → Q (.ref l) (upd H l (.lst xs))) : cList K [.ref p] H Q := ⟨p, xs, rfl, .inl h, q⟩
theorem i_ixL (h : SqL K H p xs) (hv : atI xs i = some v) (q : Q v H) : rIxL K (.ref p) (.int i) H Q := ⟨p, xs, i, v, rfl, rfl, h, hv, q⟩
theorem i_ixT (h : SqT K H p xs) (hv : atI xs i = some v) (q : Q v H) : rIxT K (.ref p) (.int i) H Q := ⟨p, xs, i, v, rfl, rfl, h, hv, q⟩
theorem i_setL {m : Nat} {QH : Hp → Prop} (h : H p = some (.lst xs)) (hi : ixN xs.length i = some m) (q : QH (upd H p (.lst (xs.set m v)))) : rSetL (.ref p) (.int i) v H QH := ⟨p, xs, i, m, rfl, rfl, h, hi, q⟩
theorem i_cb {r : List V → Hp → VK → Prop} (q : tr σ H fun vs H1 => r vs H1 Q) : tCB r tr σ H Q := q
theorem i_nil (q : QA [] H) : tNil σ H QA := q
theorem i_cons (q : ta σ H fun x H1 => tr σ H1 fun xs H2 => QA (x :: xs) H2) : tCons ta tr σ H QA := q
theorem i_tup (q : tr σ H fun xs H1 => xs.length ≤ sizeLine ∧ ∀ p, H1 p = none → Q (.ref p) (upd H1 p (.tup xs))) : tTup tr σ H Q := q
theorem i_lst (q : tr σ H fun xs H1 => xs.length ≤ sizeLine ∧ ∀ p, H1 p = none → Q (.ref p) (upd H1 p (.lst xs))) : tLst tr σ H Q := q
theorem i_size {P : Prop} {m : Nat} (h : m ≤ 16777216) (q : P) : m ≤ sizeLine ∧ P := ⟨by rw [sizeLine_eq]; exact h, q⟩
theorem i_test (q : te σ H fun x H1 => ∃ k, x = .bl k ∧ QB k H1) : tTest te σ H QB := q
theorem i_B (q : te σ H fun x H1 => ∃ k, x = .bl k ∧ QB k H1) : tB te σ H QB := q
theorem i_bl {P : Bool → Prop} (q : P b) : ∃ k, V.bl b = .bl k ∧ P k := ⟨b, rfl, q⟩
theorem i_and2 (q : t σ H fun c H1 => if c = true then u σ H1 QB else QB false H1) : tAnd t u σ H QB := q
theorem i_or2 (q : t σ H fun c H1 => if c = true then QB true H1 else u σ H1 QB) : tOr t u σ H QB := q
theorem i_not (q : t σ H fun c H1 => QB (!c) H1) : tNot t σ H QB := q
theorem i_andV (q : ta σ H fun x H1 => ∃ c, x = .bl c ∧ if c = true then tb σ H1 Q else Q (.bl false) H1) : tAndV ta tb σ H Q := q
theorem i_orV (q : ta σ H fun x H1 => ∃ c, x = .bl c ∧ if c = true then Q (.bl true) H1 else tb σ H1 Q) : tOrV ta tb σ H Q := q
theorem i_notV (q : ta σ H fun x H1 => ∃ c, x = .bl c ∧ Q (.bl (!c)) H1) : tNotV ta σ H Q := q
theorem i_chain (q : ta σ H fun x H1 => tb σ H1 fun y H2 => r x y H2 fun z H3 => ∃ k, z = .bl k ∧ (if k = true then tc σ H3 fun w' H4 => r' y w' H4 Q else Q (.bl false) H3)) : tChain r r' ta tb tc σ H Q := q
theorem i_ifE (q : t σ H fun c H1 => if c = true then ta σ H1 Q else tb σ H1 Q) : tIf t ta tb σ H Q := q
theorem i_seq (q : t1 { D with nx := t2 D } σ H) : tSeq t1 t2 D σ H := q
theorem i_next (q : D.nx σ H) : tNext D σ H := q
theorem i_ret (q : te σ H D.rt) : tRet te D σ H := q
theorem i_drop (q : te σ H fun _ H1 => D.nx σ H1) : tDrop te D σ H := q
theorem i_asg (q : te σ H fun x H1 => g x σ H1 D.nx) : tAsg te g D σ H := q
theorem i_name {QS : Sl → Hp → Prop} (q : QS (σ.set n (some v)) H) : gName n v σ H QS := q
theorem i_sub1 {ti : TE} {ts : V → V → V → Hp → (Hp → Prop) → Prop} {QS : Sl → Hp → Prop} (q : ta σ H fun o H1 => ti σ H1 fun i H2 => ts o i v H2 fun H3 => QS σ H3) : gSub ta ti ts v σ H QS := q
theorem i_if (q : t σ H fun b H1 => if b = true then t1 D σ H1 else t2 D σ H1) : tIfS t t1 t2 D σ H := q
theorem i_brk (q : D.bk σ H) : tBreak D σ H := q
theorem i_cnt (q : D.ct σ H) : tCont D σ H := q
theorem i_retN (q : D.rt .non H) : tRetN D σ H := q
theorem i_call {sp : Sp} {E : XK} (q : tr σ H fun vs H1 => sp vs H1 Q E) : tCall sp [] E tr σ H Q := by
  have e : (fun (vs : List V) (H1 : Hp) => sp (vs ++ []) H1 Q E) = fun vs H1 => sp vs H1 Q E := by
    funext vs H1
    rw [List.append_nil]
  show tr σ H (fun (vs : List V) (H1 : Hp) => sp (vs ++ []) H1 Q E)
  rw [e]
  exact q
theorem i_callS {sp : Sp} {E : Sl → XK} (q : tr σ H fun vs H1 => sp vs H1 Q (E σ)) : tCallS sp E tr σ H Q := q
theorem i_callP {sp : Addr → Value → Option Addr → Sp} {ea : Addr} {ec : Value} {ed : Option Addr} (q : tr σ H fun vs H1 => sp ea ec ed vs H1 Q E0) : tCallP sp ea ec ed tr σ H Q := q
theorem i_errF {ea d : Addr} {nm : Str} (q : te σ H fun x H1 => x = .ref ea ∧ ∃ (fs : List (Str × V)) (v : V), H1 d = some (.xd fs) ∧ fs.lookup nm = some v ∧ Q v H1) : tErrF ea d nm te σ H Q := q
theorem i_errV {ea d : Addr} {nm : Str} {fs : List (Str × V)} {v : V} (h : H d = some (.xd fs)) (l : fs.lookup nm = some v) (q : Q v H) : V.ref ea = .ref ea ∧ ∃ (fs : List (Str × V)) (v : V), H d = some (.xd fs) ∧ fs.lookup nm = some v ∧ Q v H := ⟨rfl, fs, v, h, l, q⟩
theorem i_ite {c : Prop} [Decidable c] {A B : Prop} (h1 : c → A) (h2 : ¬ c → B) : if decide c = true then A else B := by
  by_cases h : c
  · rw [decide_eq_true h, if_pos rfl]; exact h1 h
  · rw [decide_eq_false h, if_neg Bool.false_ne_true]; exact h2 h
theorem i_iteN {c : Prop} [Decidable c] {A B : Prop} (h1 : ¬ c → A) (h2 : c → B) : if (!decide c) = true then A else B := by
  by_cases h : c
  · rw [decide_eq_true h]; exact h2 h
  · rw [decide_eq_false h]; exact h1 h
theorem i_iteB {A B : Prop} (h1 : b = true → A) (h2 : b = false → B) : if b = true then A else B := by
  cases b with
  | true => exact h1 rfl
  | false => exact h2 rfl
theorem i_iteNB {A B : Prop} (h1 : b = false → A) (h2 : b = true → B) : if (!b) = true then A else B := by
  cases b with
  | true => exact h2 rfl
  | false => exact h1 rfl
theorem i_nT {A B : Prop} (h : B) : if (!true) = true then A else B := h
theorem i_nF {A B : Prop} (h : A) : if (!false) = true then A else B := h
theorem i_T {A B : Prop} (h : A) : if true = true then A else B := h
theorem i_F {A B : Prop} (h : B) : if false = true then A else B := by
  rw [if_neg Bool.false_ne_true]; exact h
end

theorem Evl_at {α : Type} {xs : List α} {n : Nat} {v : α} (h : xs[n]? = some v) : atI xs (n : Int) = some v := by
  have hn : n < xs.length := (List.getElem?_eq_some_iff.mp h).1
  unfold atI
  rw [Evl.ixN_nat hn]
  exact h
/-! ## written places -/
section
variable {K : PySem.W.Frag} {H : Hp} {p : Addr} {v x0 x1 x2 x3 x4 x5 x6 x7 : V} {xs : List V} {Q : VK} {QH : Hp → Prop}
theorem i_ixL0 (h : SqL K H p (v :: xs)) (q : Q v H) : rIxL K (.ref p) (.int 0) H Q := ⟨p, _, 0, v, rfl, rfl, h, Evl_at (n := 0) rfl, q⟩
theorem i_ixT0 (h : SqT K H p (v :: xs)) (q : Q v H) : rIxT K (.ref p) (.int 0) H Q := ⟨p, _, 0, v, rfl, rfl, h, Evl_at (n := 0) rfl, q⟩
theorem i_set0 (h : H p = some (.lst (x7 :: xs))) (q : QH (upd H p (.lst (v :: xs)))) : rSetL (.ref p) (.int 0) v H QH := ⟨p, _, 0, 0, rfl, rfl, h, Evl.ixN_nat (j := 0) (by simp only [List.length_cons]; omega), q⟩
theorem i_ixL1 (h : SqL K H p (x0 :: v :: xs)) (q : Q v H) : rIxL K (.ref p) (.int 1) H Q := ⟨p, _, 1, v, rfl, rfl, h, Evl_at (n := 1) rfl, q⟩
theorem i_ixT1 (h : SqT K H p (x0 :: v :: xs)) (q : Q v H) : rIxT K (.ref p) (.int 1) H Q := ⟨p, _, 1, v, rfl, rfl, h, Evl_at (n := 1) rfl, q⟩
theorem i_set1 (h : H p = some (.lst (x0 :: x7 :: xs))) (q : QH (upd H p (.lst (x0 :: v :: xs)))) : rSetL (.ref p) (.int 1) v H QH := ⟨p, _, 1, 1, rfl, rfl, h, Evl.ixN_nat (j := 1) (by simp only [List.length_cons]; omega), q⟩
theorem i_ixL2 (h : SqL K H p (x0 :: x1 :: v :: xs)) (q : Q v H) : rIxL K (.ref p) (.int 2) H Q := ⟨p, _, 2, v, rfl, rfl, h, Evl_at (n := 2) rfl, q⟩
theorem i_ixT2 (h : SqT K H p (x0 :: x1 :: v :: xs)) (q : Q v H) : rIxT K (.ref p) (.int 2) H Q := ⟨p, _, 2, v, rfl, rfl, h, Evl_at (n := 2) rfl, q⟩
theorem i_set2 (h : H p = some (.lst (x0 :: x1 :: x7 :: xs))) (q : QH (upd H p (.lst (x0 :: x1 :: v :: xs)))) : rSetL (.ref p) (.int 2) v H QH := ⟨p, _, 2, 2, rfl, rfl, h, Evl.ixN_nat (j := 2) (by simp only [List.length_cons]; omega), q⟩
theorem i_ixL3 (h : SqL K H p (x0 :: x1 :: x2 :: v :: xs)) (q : Q v H) : rIxL K (.ref p) (.int 3) H Q := ⟨p, _, 3, v, rfl, rfl, h, Evl_at (n := 3) rfl, q⟩
theorem i_ixT3 (h : SqT K H p (x0 :: x1 :: x2 :: v :: xs)) (q : Q v H) : rIxT K (.ref p) (.int 3) H Q := ⟨p, _, 3, v, rfl, rfl, h, Evl_at (n := 3) rfl, q⟩
theorem i_set3 (h : H p = some (.lst (x0 :: x1 :: x2 :: x7 :: xs))) (q : QH (upd H p (.lst (x0 :: x1 :: x2 :: v :: xs)))) : rSetL (.ref p) (.int 3) v H QH := ⟨p, _, 3, 3, rfl, rfl, h, Evl.ixN_nat (j := 3) (by simp only [List.length_cons]; omega), q⟩
theorem i_ixL4 (h : SqL K H p (x0 :: x1 :: x2 :: x3 :: v :: xs)) (q : Q v H) : rIxL K (.ref p) (.int 4) H Q := ⟨p, _, 4, v, rfl, rfl, h, Evl_at (n := 4) rfl, q⟩
theorem i_ixT4 (h : SqT K H p (x0 :: x1 :: x2 :: x3 :: v :: xs)) (q : Q v H) : rIxT K (.ref p) (.int 4) H Q := ⟨p, _, 4, v, rfl, rfl, h, Evl_at (n := 4) rfl, q⟩
theorem i_set4 (h : H p = some (.lst (x0 :: x1 :: x2 :: x3 :: x7 :: xs))) (q : QH (upd H p (.lst (x0 :: x1 :: x2 :: x3 :: v :: xs)))) : rSetL (.ref p) (.int 4) v H QH := ⟨p, _, 4, 4, rfl, rfl, h, Evl.ixN_nat (j := 4) (by simp only [List.length_cons]; omega), q⟩
theorem i_ixL5 (h : SqL K H p (x0 :: x1 :: x2 :: x3 :: x4 :: v :: xs)) (q : Q v H) : rIxL K (.ref p) (.int 5) H Q := ⟨p, _, 5, v, rfl, rfl, h, Evl_at (n := 5) rfl, q⟩
theorem i_ixT5 (h : SqT K H p (x0 :: x1 :: x2 :: x3 :: x4 :: v :: xs)) (q : Q v H) : rIxT K (.ref p) (.int 5) H Q := ⟨p, _, 5, v, rfl, rfl, h, Evl_at (n := 5) rfl, q⟩
theorem i_set5 (h : H p = some (.lst (x0 :: x1 :: x2 :: x3 :: x4 :: x7 :: xs))) (q : QH (upd H p (.lst (x0 :: x1 :: x2 :: x3 :: x4 :: v :: xs)))) : rSetL (.ref p) (.int 5) v H QH := ⟨p, _, 5, 5, rfl, rfl, h, Evl.ixN_nat (j := 5) (by simp only [List.length_cons]; omega), q⟩
theorem i_ixL6 (h : SqL K H p (x0 :: x1 :: x2 :: x3 :: x4 :: x5 :: v :: xs)) (q : Q v H) : rIxL K (.ref p) (.int 6) H Q := ⟨p, _, 6, v, rfl, rfl, h, Evl_at (n := 6) rfl, q⟩
theorem i_ixT6 (h : SqT K H p (x0 :: x1 :: x2 :: x3 :: x4 :: x5 :: v :: xs)) (q : Q v H) : rIxT K (.ref p) (.int 6) H Q := ⟨p, _, 6, v, rfl, rfl, h, Evl_at (n := 6) rfl, q⟩
theorem i_ixL7 (h : SqL K H p (x0 :: x1 :: x2 :: x3 :: x4 :: x5 :: x6 :: v :: xs)) (q : Q v H) : rIxL K (.ref p) (.int 7) H Q := ⟨p, _, 7, v, rfl, rfl, h, Evl_at (n := 7) rfl, q⟩
theorem i_ixT7 (h : SqT K H p (x0 :: x1 :: x2 :: x3 :: x4 :: x5 :: x6 :: v :: xs)) (q : Q v H) : rIxT K (.ref p) (.int 7) H Q := ⟨p, _, 7, v, rfl, rfl, h, Evl_at (n := 7) rfl, q⟩
end
/-! ## written numbers, reckoned -/
section
variable {X : Cx} {a b : Expr} {i j v : Int} {pos : Pos}
theorem pe_powC (ha : PE X a (tC (.int i))) (hb : PE X b (tC (.int j))) (h : CPow i j) (e : i ^ j.toNat = v) : PE X (.BinOp a .Pow b pos) (tC (.int v)) :=
  ⟨fun pins s σ H Q I q => (pe_op oPow ha hb).run pins s σ H Q I (i_op (i_c (i_c (i_pow h (by rw [e]; exact q)))))⟩
theorem pe_addC (ha : PE X a (tC (.int i))) (hb : PE X b (tC (.int j))) (e : i + j = v) : PE X (.BinOp a .Add b pos) (tC (.int v)) :=
  ⟨fun pins s σ H Q I q => (pe_op oAdd ha hb).run pins s σ H Q I (i_op (i_c (i_c (i_add (by rw [e]; exact q)))))⟩
theorem pe_subC (ha : PE X a (tC (.int i))) (hb : PE X b (tC (.int j))) (e : i - j = v) : PE X (.BinOp a .Sub b pos) (tC (.int v)) :=
  ⟨fun pins s σ H Q I q => (pe_op oSub ha hb).run pins s σ H Q I (i_op (i_c (i_c (i_sub (by rw [e]; exact q)))))⟩
theorem pe_mulC (ha : PE X a (tC (.int i))) (hb : PE X b (tC (.int j))) (h : IntMulOk i j) (e : i * j = v) : PE X (.BinOp a .Mult b pos) (tC (.int v)) :=
  ⟨fun pins s σ H Q I q => (pe_op oMul ha hb).run pins s σ H Q I (i_op (i_c (i_c (i_mul h (by rw [e]; exact q)))))⟩
theorem pe_negC (ha : PE X a (tC (.int i))) (e : -i = v) : PE X (.UnaryOp .USub a pos) (tC (.int v)) :=
  ⟨fun pins s σ H Q I q => (pe_un uNeg ha).run pins s σ H Q I (i_un (i_c (i_neg (by rw [e]; exact q))))⟩
end

/-! ## loops and comprehensions -/
section
variable {K : PySem.W.Frag} {σ : Sl} {H : Hp} {Q : VK} {ta tb te : TE} {tr : TA} {D : Ends} {tbd : TS} {g : TG} {a : Addr} {xs : List V} {lo : Int} {n j : Nat} {tt : TT} {ws : List Nat}
/-- a for over lo, lo + 1, .. (n turns), at its start -/
def FR (g : TG) (tbd : TS) (D : Ends) (σ : Sl) (lo : Int) (n : Nat) (H : Hp) : Prop := ∃ W : Nat → Nat → Sl → Hp → Prop, (∃ m, W 0 m σ H) ∧ ∀ i m σ H, W i m σ H →
  ((Itr lo n).stop i H ∧ D.nx σ H) ∨ ((Itr lo n).go i H ∧ ∃ N : Sl → Hp → Prop, (∀ σ' H', N σ' H' → ∃ m', m' < m ∧ W (i + 1) m' σ' H') ∧ ∀ x H', (Itr lo n).yld i H x H' → g x σ H' fun σ2 H2 => tbd { D with nx := N, ct := N, bk := D.nx } σ2 H2)
/-- a for over the list at a -/
def FL (K : PySem.W.Frag) (g : TG) (tbd : TS) (D : Ends) (σ : Sl) (a : Addr) (H : Hp) : Prop := ∃ W : Nat → Nat → Sl → Hp → Prop, (∃ m, W 0 m σ H) ∧ ∀ i m σ H, W i m σ H →
  ((Itl K a).stop i H ∧ D.nx σ H) ∨ ((Itl K a).go i H ∧ ∃ N : Sl → Hp → Prop, (∀ σ' H', N σ' H' → ∃ m', m' < m ∧ W (i + 1) m' σ' H') ∧ ∀ x H', (Itl K a).yld i H x H' → g x σ H' fun σ2 H2 => tbd { D with nx := N, ct := N, bk := D.nx } σ2 H2)
theorem i_forR1 (q : tr σ H fun vs H1 => ∃ i : Int, vs = [.int i] ∧ -(2 ^ 62) ≤ i ∧ i < 2 ^ 62 ∧ FR g tbd D σ 0 i.toNat H1) : tFor (iRng1 tr) g tbd D σ H := q
theorem i_forR2 (q : tr σ H fun vs H1 => ∃ i k : Int, vs = [.int i, .int k] ∧ (-(2 ^ 62) ≤ i ∧ i < 2 ^ 62 ∧ -(2 ^ 62) ≤ k ∧ k < 2 ^ 62) ∧ FR g tbd D σ i (k - i).toNat H1) : tFor (iRng2 tr) g tbd D σ H := q
theorem i_forL (q : te σ H fun x H1 => ∃ a, x = .ref a ∧ (∃ xs, SqL K H1 a xs) ∧ FL K g tbd D σ a H1) : tFor (iList K te) g tbd D σ H := q
theorem r_bounds {i : Int} {P : Prop} (h0 : -1000000000000 ≤ i) (h1 : i ≤ 1000000000000) (q : P) : -(2 ^ 62) ≤ i ∧ i < 2 ^ 62 ∧ P := ⟨by omega, by omega, q⟩
theorem i_rng1 {i : Int} {P : Int → Prop} (h0 : -1000000000000 ≤ i) (h1 : i ≤ 1000000000000) (q : P i) : ∃ k : Int, [V.int i] = [.int k] ∧ -(2 ^ 62) ≤ k ∧ k < 2 ^ 62 ∧ P k := ⟨i, rfl, by omega, by omega, q⟩
theorem i_rng2 {i k : Int} {P : Int → Int → Prop} (h0 : -1000000000000 ≤ i) (h1 : i ≤ 1000000000000) (h2 : -1000000000000 ≤ k) (h3 : k ≤ 1000000000000) (q : P i k) :
    ∃ u v : Int, [V.int i, .int k] = [.int u, .int v] ∧ (-(2 ^ 62) ≤ u ∧ u < 2 ^ 62 ∧ -(2 ^ 62) ≤ v ∧ v < 2 ^ 62) ∧ P u v := ⟨i, k, rfl, ⟨by omega, by omega, by omega, by omega⟩, q⟩
/-- by an invariant over the turn -/
theorem fr_of (Pv : Nat → Sl → Hp → Prop) (h0 : Pv 0 σ H) (hs : ∀ i σ H, i < n → Pv i σ H → tbd { D with nx := Pv (i + 1), ct := Pv (i + 1), bk := D.nx } (σ.set j (some (.int (lo + (i : Int))))) H) (hd : ∀ σ H, Pv n σ H → D.nx σ H) : FR (gName j) tbd D σ lo n H :=
  for_range Pv h0 hs hd
theorem i_listOf {P : Prop} (h : SqL K H a xs) (q : FL K g tbd D σ a H) : ∃ b, V.ref a = .ref b ∧ (∃ xs, SqL K H b xs) ∧ FL K g tbd D σ b H := ⟨a, rfl, ⟨xs, h⟩, q⟩
theorem fl_of (Pv : Nat → Sl → Hp → Prop) (h0 : Pv 0 σ H) (hl : ∀ i σ H, i ≤ xs.length → Pv i σ H → SqL K H a xs) (hs : ∀ i x σ H, xs[i]? = some x → Pv i σ H → tbd { D with nx := Pv (i + 1), ct := Pv (i + 1), bk := D.nx } (σ.set j (some x)) H)
    (hd : ∀ σ H, Pv xs.length σ H → D.nx σ H) : FL K (gName j) tbd D σ a H := for_list Pv h0 hl hs hd
/-- [.. for x in range]: at its start -/
def CR (g : TG) (tt : TT) (te : TE) (ws : List Nat) (σ : Sl) (lo : Int) (n : Nat) (H1 : Hp) (Q : VK) : Prop := ∀ D, H1 D = none → ∃ W : Nat → Nat → Hp → Prop, (∃ m, W 0 m (upd H1 D (.lst []))) ∧ ∀ i m H, W i m H →
  ((Itr lo n).stop i H ∧ Q (.ref D) H) ∨ ((Itr lo n).go i H ∧ ∃ Nx : Hp → Prop, (∀ H', Nx H' → ∃ m', m' < m ∧ W (i + 1) m' H') ∧ ∀ x H', (Itr lo n).yld i H x H' → g x (wipe σ ws) H' fun σ2 H2 => wipe σ2 ws = wipe σ ws ∧ tt σ2 H2 fun b H3 =>
    if b = true then te σ2 H3 fun y H4 => ∃ acc, H4 D = some (.lst acc) ∧ acc.length < sizeLine ∧ Nx (upd H4 D (.lst (acc ++ [y]))) else Nx H3)
def CL (K : PySem.W.Frag) (g : TG) (tt : TT) (te : TE) (ws : List Nat) (σ : Sl) (a : Addr) (H1 : Hp) (Q : VK) : Prop := ∀ D, H1 D = none → ∃ W : Nat → Nat → Hp → Prop, (∃ m, W 0 m (upd H1 D (.lst []))) ∧ ∀ i m H, W i m H →
  ((Itl K a).stop i H ∧ Q (.ref D) H) ∨ ((Itl K a).go i H ∧ ∃ Nx : Hp → Prop, (∀ H', Nx H' → ∃ m', m' < m ∧ W (i + 1) m' H') ∧ ∀ x H', (Itl K a).yld i H x H' → g x (wipe σ ws) H' fun σ2 H2 => wipe σ2 ws = wipe σ ws ∧ tt σ2 H2 fun b H3 =>
    if b = true then te σ2 H3 fun y H4 => ∃ acc, H4 D = some (.lst acc) ∧ acc.length < sizeLine ∧ Nx (upd H4 D (.lst (acc ++ [y]))) else Nx H3)
theorem i_lcR1 (q : tr σ H fun vs H1 => ∃ i : Int, vs = [.int i] ∧ -(2 ^ 62) ≤ i ∧ i < 2 ^ 62 ∧ CR g tt te ws σ 0 i.toNat H1 Q) : tLc (iRng1 tr) g tt te ws σ H Q := q
theorem i_lcR2 (q : tr σ H fun vs H1 => ∃ i k : Int, vs = [.int i, .int k] ∧ (-(2 ^ 62) ≤ i ∧ i < 2 ^ 62 ∧ -(2 ^ 62) ≤ k ∧ k < 2 ^ 62) ∧ CR g tt te ws σ i (k - i).toNat H1 Q) : tLc (iRng2 tr) g tt te ws σ H Q := q
theorem i_lcL (q : ta σ H fun x H1 => ∃ a, x = .ref a ∧ (∃ xs, SqL K H1 a xs) ∧ CL K g tt te ws σ a H1 Q) : tLc (iList K ta) g tt te ws σ H Q := q
/-- what holds of heaps through a comprehension: closed under the new list's growing -/
structure Keeps (H1 : Hp) (R : Hp → Prop) : Prop where
  start : R H1
  new : ∀ D H o, H1 D = none → R H → R (upd H D o)
/-- elements each of which satisfies P at its turn -/
theorem cr_of (R : Hp → Prop) (P : Nat → V → Prop) (hn : n ≤ 16000000) (kp : Keeps H R) (hw : ∀ x, wipe ((wipe σ ws).set j (some x)) ws = wipe σ ws)
    (he : ∀ i H2 (Q2 : VK), i < n → R H2 → (∀ y H3, R H3 → Ext H2 H3 ∨ (∀ D o, H D = none → H2 D = some o → H3 D = some o) → P i y → Q2 y H3) → te ((wipe σ ws).set j (some (.int (lo + (i : Int))))) H2 Q2)
    (q : ∀ D H2 ys, H D = none → R H2 → H2 D = some (.lst ys) → ys.length = n → (∀ i y, ys[i]? = some y → P i y) → Q (.ref D) H2) : CR (gName j) tYes te ws σ lo n H Q := by
  intro D hD
  refine lc_range (fun i H2 => R H2 ∧ ∃ ys, H2 D = some (.lst ys) ∧ ys.length = i ∧ ∀ k y, ys[k]? = some y → P k y) ⟨kp.new D _ _ hD kp.start, [], upd_same, rfl, fun k y h => by simp at h⟩ (fun i H2 hi ⟨r, ys, e, el, ep⟩ => ⟨hw _, ?_⟩) (fun H2 ⟨r, ys, e, el, ep⟩ => q D H2 ys hD r e el ep)
  refine he i H2 _ hi r fun y H3 r3 k3 hy => ⟨ys, ?_, ?_, kp.new D _ _ hD r3, ys ++ [y], upd_same, ?_, fun k z hk => ?_⟩
  · rcases k3 with k3 | k3
    · exact k3 _ _ e
    · exact k3 _ _ hD e
  · rw [sizeLine_eq]; omega
  · rw [List.length_append, el]; rfl
  · by_cases h : k < ys.length
    · rw [List.getElem?_append_left h] at hk
      exact ep k z hk
    · have hk2 : k = ys.length := by
        have h2 := (List.getElem?_eq_some_iff.mp hk).1
        rw [List.length_append] at h2
        simp only [List.length_cons, List.length_nil] at h2
        omega
      subst hk2
      rw [List.getElem?_append_right (Nat.le_refl _), Nat.sub_self] at hk
      cases hk
      rw [el]
      exact hy
theorem cl_of (R : Hp → Prop) (P : Nat → V → Prop) (hn : xs.length ≤ 16000000) (kp : Keeps H R) (hl : ∀ H2, R H2 → SqL K H2 a xs) (hw : ∀ x, wipe ((wipe σ ws).set j (some x)) ws = wipe σ ws)
    (he : ∀ i x H2 (Q2 : VK), xs[i]? = some x → R H2 → (∀ y H3, R H3 → Ext H2 H3 ∨ (∀ D o, H D = none → H2 D = some o → H3 D = some o) → P i y → Q2 y H3) → te ((wipe σ ws).set j (some x)) H2 Q2)
    (q : ∀ D H2 ys, H D = none → R H2 → H2 D = some (.lst ys) → ys.length = xs.length → (∀ i y, ys[i]? = some y → P i y) → Q (.ref D) H2) : CL K (gName j) tYes te ws σ a H Q := by
  intro D hD
  refine lc_list (xs := xs) (fun i H2 => R H2 ∧ ∃ ys, H2 D = some (.lst ys) ∧ ys.length = i ∧ ∀ k y, ys[k]? = some y → P k y) ⟨kp.new D _ _ hD kp.start, [], upd_same, rfl, fun k y h => by simp at h⟩ (fun i H2 hi ⟨r, _⟩ => hl H2 r) (fun i x H2 hi ⟨r, ys, e, el, ep⟩ => ⟨hw _, ?_⟩) (fun H2 ⟨r, ys, e, el, ep⟩ => q D H2 ys hD r e el ep)
  have hi2 : i < xs.length := (List.getElem?_eq_some_iff.mp hi).1
  refine he i x H2 _ hi r fun y H3 r3 k3 hy => ⟨ys, ?_, ?_, kp.new D _ _ hD r3, ys ++ [y], upd_same, ?_, fun k z hk => ?_⟩
  · rcases k3 with k3 | k3
    · exact k3 _ _ e
    · exact k3 _ _ hD e
  · rw [sizeLine_eq]; omega
  · rw [List.length_append, el]; rfl
  · by_cases h : k < ys.length
    · rw [List.getElem?_append_left h] at hk
      exact ep k z hk
    · have hk2 : k = ys.length := by
        have h2 := (List.getElem?_eq_some_iff.mp hk).1
        rw [List.length_append] at h2
        simp only [List.length_cons, List.length_nil] at h2
        omega
      subst hk2
      rw [List.getElem?_append_right (Nat.le_refl _), Nat.sub_self] at hk
      cases hk
      rw [el]
      exact hy
theorem keeps_ext (H : Hp) : Keeps H (Ext H) := ⟨.refl H, fun D H2 o hD e => e.mut hD⟩
end
/-- a list of ints, item by item -/
theorem ints_of {ys : List V} (h : ∀ (i : Nat) (y : V), ys[i]? = some y → ∃ n : Int, y = V.int n) : ∃ ns : List Int, ys = ns.map V.int := by
  induction ys with
  | nil => exact ⟨[], rfl⟩
  | cons y r ih =>
    obtain ⟨n, rfl⟩ := h 0 y rfl
    obtain ⟨ns, rfl⟩ := ih fun i z e => h (i + 1) z e
    exact ⟨n :: ns, rfl⟩
theorem ints_ofP {P : Int → Prop} {ys : List V} (h : ∀ (i : Nat) (y : V), ys[i]? = some y → ∃ n : Int, y = V.int n ∧ P n) : ∃ ns : List Int, ys = ns.map V.int ∧ ∀ n ∈ ns, P n := by
  induction ys with
  | nil => exact ⟨[], rfl, fun n hn => by cases hn⟩
  | cons y r ih =>
    obtain ⟨n, rfl, hp⟩ := h 0 y rfl
    obtain ⟨ns, rfl, hq⟩ := ih fun i z e => h (i + 1) z e
    exact ⟨n :: ns, rfl, fun m hm => by rcases List.mem_cons.mp hm with e | e; (· rw [e]; exact hp); (· exact hq m e)⟩
theorem i_cat {H : Hp} {p q : Addr} {xs ys : List V} {Q : VK} (h : H p = some (.lst xs)) (h2 : H q = some (.lst ys)) (hz : xs.length + ys.length ≤ 16777216) (k : ∀ l, H l = none → Q (.ref l) (upd H l (.lst (xs ++ ys)))) : rCat (.ref p) (.ref q) H Q :=
  ⟨p, q, xs, ys, rfl, rfl, h, h2, by rw [sizeLine_eq]; exact hz, k⟩
theorem i_lrg {te : Sl → Hp → (Int → Int → Hp → Prop) → Prop} {σ : Sl} {H : Hp} {Q : VK} (q : te σ H fun a b H1 => RgOk a b ∧ ∀ l, H1 l = none → Q (.ref l) (upd H1 l (.lst (rgV a b)))) : tLstRg te σ H Q := q
theorem i_rg1 {ta : TE} {σ : Sl} {H : Hp} {Q : Int → Int → Hp → Prop} (q : ta σ H fun x H1 => ∃ n, x = .int n ∧ Q 0 n H1) : tRg1 ta σ H Q := q
theorem i_rg2 {ta tb : TE} {σ : Sl} {H : Hp} {Q : Int → Int → Hp → Prop} (q : ta σ H fun x H1 => tb σ H1 fun y H2 => ∃ i j, x = .int i ∧ y = .int j ∧ Q i j H2) : tRg2 ta tb σ H Q := q
theorem i_isInt {i : Int} {P : Int → Prop} (q : P i) : ∃ n, V.int i = .int n ∧ P n := ⟨i, rfl, q⟩
theorem i_isInt2 {i j : Int} {P : Int → Int → Prop} (q : P i j) : ∃ n m, V.int i = .int n ∧ V.int j = .int m ∧ P n m := ⟨i, j, rfl, rfl, q⟩
theorem i_bits {ta : TE} {σ : Sl} {H : Hp} {Q : VK} (q : ta σ H fun x H1 => ∃ i, x = .int i ∧ Q (.int (Builtin.Int.intBits i : Nat)) H1) : tBits ta σ H Q := q

/-! ## sides -/
theorem mulL {i j : Int} (h1 : -18446744073709551616 < i) (h2 : i < 18446744073709551616) : IntMulOk i j := .of_left (intBits_le_64 (by omega) (by omega))
theorem mulR {i j : Int} (h1 : -18446744073709551616 < j) (h2 : j < 18446744073709551616) : IntMulOk i j := .of_right (intBits_le_64 (by omega) (by omega))
theorem mulWide {i j : Int} {a b : Nat} (ha : i.natAbs < 2 ^ a) (hb : j.natAbs < 2 ^ b) (h : a + b ≤ 134217728) : IntMulOk i j := (mulx_ok ha hb h).ok
theorem divS {i j : Int} (h0 : 0 < j) (h : j < 340282366920938463463374607431768211456) : CDivW i j := wide_div h0 (b := 128) (by omega) (by decide) (by decide)
theorem divL {i j : Int} {b : Nat} (h0 : 0 < j) (h : j < 2 ^ b) (hb : 0 < b) (h9 : b ≤ 9000) : CDivW i j := wide_div h0 (b := b) (by
  have e : ((2 ^ b : Nat) : Int) = (2 : Int) ^ b := by push_cast; rfl
  omega) hb h9
theorem powS {i j : Int} (h0 : 0 ≤ j) (h1 : j ≤ 1000000) (h2 : -18446744073709551616 < i) (h3 : i < 18446744073709551616) : CPow i j := ⟨h0, h1, by omega⟩
theorem shlS {i j : Int} (h0 : 0 ≤ j) (h1 : j ≤ 100000) (h2 : -18446744073709551616 < i) (h3 : i < 18446744073709551616) : CShl i j := by
  obtain ⟨m, rfl⟩ := Int.eq_ofNat_of_zero_le h0
  exact shl_ok (n := 64) (by omega) (by omega)

local macro_rules | `(tactic| walk_at "nb.side") => `(tactic| first
  | assumption
  | decide
  | omega
  | exact mulR (by omega) (by omega)
  | exact mulL (by omega) (by omega)
  | exact divS (by omega) (by omega)
  | exact powS (by omega) (by omega) (by omega) (by omega)
  | exact shlS (by omega) (by omega) (by omega) (by omega))
example (i : Int) (h : i < 5) (h0 : 0 ≤ i) : IntMulOk i 123456789123456789123456789123456789123456789 := by walk_at "nb.side"
example (i : Int) : IntMulOk i 48271 := by walk_at "nb.side"
example (i : Int) : CDivW i 2147483648 := by walk_at "nb.side"
example : CPow 10 18 := by walk_at "nb.side"
end NB

namespace NB
open PySem PySem.Spec PyProof.Rows L2
open He (ga ma)
/-! ## what the head's look tells of an error class -/
def oexB (K : PySem.W.Frag) (C : Addr) : Bool := (match K.lookup C with
  | some ⟨.type "type", _, .cls cd, sl⟩ => (match cd.mro, sl.toList with
    | .ref C' :: bm, [_, _, _, _, some (.builtin n), _] => decide (C' = C) && (decide (n = "ValueError.__new__") && (!cd.hasDel && (cd.hasDict && PySem.HandSPX.refsVE bm)))
    | _, _ => false)
  | _ => false) && (decide (PySem.W.findIn K (.ref C) "__setattr__" = some (some (.builtin "object.__setattr__"))) && (decide (PySem.W.subIn K (.ref C) (.type "BaseException") = some true) &&
    (decide (PySem.W.typeIn K (.ref C) = some (.type "type")) && PySem.W.keepIn K (.ref C))))
theorem oexB_ok {K : PySem.W.Frag} {C : Addr} (h : oexB K C = true) : OexC K C := by
  unfold oexB at h
  simp only [Bool.and_eq_true, decide_eq_true_eq] at h
  obtain ⟨h1, h2, h3, h4, h5⟩ := h
  refine ⟨?_, h2, h3, h4, h5⟩
  cases q : K.lookup C with
  | none =>
    rw [q] at h1
    cases h1
  | some o =>
    rw [q] at h1
    split at h1
    · rename_i z cd sl e
      cases e
      split at h1
      · rename_i C' bm k0 k1 k2 k3 n k5 hm hs
        simp only [Bool.and_eq_true, decide_eq_true_eq, Bool.not_eq_true'] at h1
        obtain ⟨rfl, rfl, g1, g2, g3⟩ := h1
        obtain ⟨nm, bs, mro, ns, qn, hd, sn, sub, ab, col, del⟩ := cd
        dsimp only at hm g1 g2
        subst hm g1 g2
        obtain ⟨l⟩ := sl
        simp only at hs
        subst hs
        exact ⟨_, _, _, _, _, _, _, _, _, _, _, _, _, _, _, rfl, g3⟩
      · cases h1
    · cases h1
def excB (K : PySem.W.Frag) (C : Addr) : Bool := decide (PySem.W.findIn K (.ref C) "__class__" = some (some (.builtin "object.__class__"))) &&
  (decide (PySem.W.specialIn K (.builtin "object.__class__") "__get__" = some (some (.builtin "getset_descriptor.__get__"))) && (decide (PySem.W.takesIn K (.builtin "object.__class__") = some true) && decide (PySem.W.mroIn K C (.type "object") = some true)))
theorem errC_ok {K : PySem.W.Frag} {C : Addr} (h1 : xfB K C = true) (h2 : excB K C = true) : ErrC K C := by
  have x := xfB_ok h1
  unfold excB at h2
  simp only [Bool.and_eq_true, decide_eq_true_eq] at h2
  exact ⟨⟨x.ga, x.gg, x.exC, x.hdC, h2.1, h2.2.1, h2.2.2.1, h2.2.2.2⟩, x⟩
/-- a raised class: x its name, fs its fields, own: it has its own __init__ -/
def errB (K : PySem.W.Frag) (all : List Str) (base x : Str) (fs : List Str) : Bool :=
  oexB K (ga K x) && (xfB K (ga K x) && (excB K (ga K x) && ((fs.all fun f => decide (PySem.W.findIn K (.ref (ga K x)) f = some none)) &&
  (decide (PySem.W.findIn K (.ref (ga K x)) "__init__" = some (some (.ref (ma K (ga K x) "__init__")))) && (decide (PySem.W.typeIn K (.ref (ma K (ga K x) "__init__")) = some (.type "function")) &&
  (decide (PySem.W.exmOne K (.ref (ga K x)) (.ref (ga K base)) = some true) && ((all.all fun D => decide (PySem.W.kitOne K (.ref (ga K x)) (.ref (ga K D)) = some (decide (D = x) || decide (D = base)))) &&
  decide (PySem.W.kitOne K (.ref (ga K x)) (.type "ValueError") = some true))))))))
structure ErrT (K : PySem.W.Frag) (all : List Str) (base x : Str) (fs : List Str) : Prop where
  o : OexC K (ga K x)
  e : ErrC K (ga K x)
  n : ∀ f ∈ fs, PySem.W.findIn K (.ref (ga K x)) f = some none
  i : PySem.W.findIn K (.ref (ga K x)) "__init__" = some (some (.ref (ma K (ga K x) "__init__")))
  t : PySem.W.typeIn K (.ref (ma K (ga K x) "__init__")) = some (.type "function")
  m : PySem.W.exmOne K (.ref (ga K x)) (.ref (ga K base)) = some true
  k : ∀ D ∈ all, PySem.W.kitOne K (.ref (ga K x)) (.ref (ga K D)) = some (decide (D = x) || decide (D = base))
  v : PySem.W.kitOne K (.ref (ga K x)) (.type "ValueError") = some true
theorem errB_ok {K : PySem.W.Frag} {all : List Str} {base x : Str} {fs : List Str} (h : errB K all base x fs = true) : ErrT K all base x fs := by
  unfold errB at h
  simp only [Bool.and_eq_true, List.all_eq_true, decide_eq_true_eq] at h
  obtain ⟨h1, h2, h3, h4, h5, h6, h7, h8, h9⟩ := h
  exact ⟨oexB_ok h1, errC_ok h2 h3, h4, h5, h6, h7, h8, h9⟩
theorem kitAny_false {K : PySem.W.Frag} {t : Value} : ∀ {l : List Value}, (∀ c ∈ l, PySem.W.kitOne K t c = some false) → PySem.W.kitAny K t l = some false
  | [], _ => rfl
  | c :: r, h => kitAny_cons (h c (List.mem_cons_self ..)) (fun _ => kitAny_false fun d hd => h d (List.mem_cons_of_mem _ hd)) (fun z => nomatch z)
/-- a module's whole number -/
theorem pe_globI {X : Cx} {x : Str} {i : Int} {pos : Pos} (h : ∃ t, X.mg x = some (.int i t)) (hg : Gl X x := by rfl) (hd : (x == ("__debug__" : Str)) = false := by decide) : PE X (.Name x pos) (tC (.int i)) := by
  obtain ⟨t, e⟩ := h
  exact pe_glob hg e ⟨t, rfl⟩ hd
theorem pe_globS {X : Cx} {x z : Str} {pos : Pos} (h : ∃ t, X.mg x = some (.str z t)) (hg : Gl X x := by rfl) (hd : (x == ("__debug__" : Str)) = false := by decide) : PE X (.Name x pos) (tC (.str z)) := by
  obtain ⟨t, e⟩ := h
  exact pe_glob hg e ⟨t, rfl⟩ hd
/-- a def that keeps its promise, ready to be called -/
def Good (P : Program) (w : World) (K : PySem.W.Frag) (mg : Str → Option Value) (base : Heap) (k : Nat) (f : Addr) (ps : List Str) (sp : Sp) : Prop :=
  ∃ fd, FnOk P w K mg base (L2N.CX P w) k f fd ps sp ∧ Binds K fd ps [] ∧ PySem.W.keepIn K (.ref f) = true ∧ ∃ (oc : Value) (od : Option Addr) (osl : Array (Option Value)), K.lookup f = some ⟨oc, od, .func fd, osl⟩
theorem fun_at {K : PySem.W.Frag} {x qual : Str} {params : Arguments} {body : List Stmt} {scope : Scope} {dvs : List V} {kws : List (Str × V)} {f : Addr} {fd : FuncData} (F : FunD K x qual params body scope dvs kws f fd) :
    ∃ (oc : Value) (od : Option Addr) (osl : Array (Option Value)), K.lookup f = some ⟨oc, od, .func fd, osl⟩ := by
  obtain ⟨oc, od, dV, kV, doc, pm, an, cdv, ct, osl, e, lk, _⟩ := F.ex
  exact ⟨oc, od, osl, lk⟩
theorem fun_one {K : PySem.W.Frag} {f : Addr} {fd fd' : FuncData} (h : ∃ (oc : Value) (od : Option Addr) (osl : Array (Option Value)), K.lookup f = some ⟨oc, od, .func fd, osl⟩)
    (h' : ∃ (oc : Value) (od : Option Addr) (osl : Array (Option Value)), K.lookup f = some ⟨oc, od, .func fd', osl⟩) : fd = fd' := by
  obtain ⟨oc, od, osl, e⟩ := h
  obtain ⟨oc', od', osl', e'⟩ := h'
  rw [e] at e'
  cases e'
  rfl
/-! ### calls that name their arguments -/
/-- the parameters in their order, out of the positional values and then the named ones -/
def pick {α : Type} (perm : List Nat) (us ws : List α) : List α := perm.filterMap fun i => (us ++ ws)[i]?
theorem pick_rel (perm : List Nat) {vs zs : List V} {us ws : List Value} (a : Vals vs us) (b : Vals zs ws) : Vals (pick perm vs zs) (pick perm us ws) := by
  have c := a.append b
  unfold pick
  induction perm with
  | nil => exact .nil
  | cons i r ih =>
    cases e : (vs ++ zs)[i]? with
    | none =>
      have e' := c.none_of e
      rw [List.filterMap_cons_none e, List.filterMap_cons_none e']
      exact ih
    | some v =>
      obtain ⟨u, e', rv⟩ := c.get e
      rw [List.filterMap_cons_some e, List.filterMap_cons_some e']
      exact .cons rv ih
theorem kwBinds {K : PySem.W.Frag} {x qual : Str} {params : Arguments} {body : List Stmt} {scope : Scope} {kws : List (Str × V)} {f : Addr} {fd : FuncData} {ps : List Str} (F : FunD K x qual params body scope [] kws f fd) (n : Nat) (ks : List Str) (perm : List Nat)
    (h : ∀ (kV doc pm : Value) (an : Option Addr) (cdv ct : Value) (us ws : List Value), us.length = n → ws.length = ks.length → bindArgs (PySem.W.fnOf x qual params body scope .none kV doc pm an cdv ct) ⟨us, ks.zip ws⟩ = pure (ps.zip (pick perm us ws))) :
    KBn K fd ps n ks (pick perm) (pick perm) := by
  obtain ⟨oc, od, dV, kV, doc, pm, an, cdv, ct, osl, rfl, lk, hcd, hD, hK⟩ := F.ex
  rcases hD with ⟨_, rfl⟩ | ⟨e, _⟩
  · exact ⟨fun s us ws X l1 l2 => .of_eq (h kV doc pm an cdv ct us ws l1 l2), fun a b => pick_rel perm a b⟩
  · exact absurd rfl e
def tKw (m : Nat) (sp : Sp) (gV : List V → List V → List V) (E : Sl → XK) (tk : TA) : TE := fun σ H Q => tk σ H fun zs H2 => zs.length = m ∧ sp (gV [] zs) H2 Q (E σ)
def tKwP (n m : Nat) (sp : Sp) (gV : List V → List V → List V) (E : Sl → XK) (t tk : TA) : TE := fun σ H Q => t σ H fun vs H1 => tk σ H1 fun zs H2 => vs.length = n ∧ zs.length = m ∧ sp (gV vs zs) H2 Q (E σ)
section
variable {X : Cx} {CX : CXT} {k n : Nat} {f : Addr} {fd : FuncData} {ps ks : List Str} {sp : Sp} {E : Sl → XK} {x : Str} {p pos : Pos} {e : Expr} {es : List Expr} {kws : List Keyword} {t tk : TA} {g : List Value → List Value → List Value} {gV : List V → List V → List V}
theorem run_kw {pins : List (Addr × Obj)} {σ : Sl} {H : Hp} {s : Shared} {Q : VK} {us ws : List Value} {vs zs : List V} (F : FnOk X.prog X.w X.K X.mg X.base CX k f fd ps sp) (hr : Room k X.A) (hb : KBn X.K fd ps n ks g gV) (hx : PassesAt CX X σ (E σ))
    (I : Inv X pins σ H s) (r : Vals vs us) (rz : Vals zs ws) (l1 : vs.length = n) (l2 : zs.length = ks.length) (h : sp (gV vs zs) H Q (E σ)) : wpAny (model X.prog X.w) X.A (call (.ref f) us (ks.zip ws)) (EP X pins σ Q) X.xe s := by
  refine wpAny_call (codeAny_mono (F.run X.A X.stack s H ⟨us, ks.zip ws⟩ (g us ws) (gV vs zs) Q (E σ) hr I.env0 (hb.to s us ws I.kIn (by rw [← r.length]; exact l1) (by rw [← rz.length]; exact l2)) (hb.rel r rz) h) fun q s' hq => ?_)
  cases q with
  | error z => exact hx pins H s z s' I hq
  | ok fl =>
    cases fl with
    | ret u => exact I.after hq
    | next => exact False.elim hq
    | brk => exact False.elim hq
    | cont => exact False.elim hq
/-- f(k = v, ..) -/
theorem pe_callN0 (F : FnOk X.prog X.w X.K X.mg X.base CX k f fd ps sp) (hr : Room k X.A) (hg : Gl X x) (hm : X.mg x = some (.ref f)) (hk : PySem.W.keepIn X.K (.ref f) = true) (hb : KBn X.K fd ps 0 ks g gV) (hx : ∀ σ, PassesAt CX X σ (E σ)) (hkw : PK X kws tk)
    (hall : (backToKw pos (keywordEach kws X.env)).all (·.1.isSome) = true := by rfl) (hks : (backToKw pos (keywordEach kws X.env)).filterMap (·.1) = ks := by rfl) (hdb : (x == ("__debug__" : Str)) = false := by decide)
    (hpl : ((backTo pos (starEach [] X.env)).any (·.1) || (backToKw pos (keywordEach kws X.env)).any (·.1.isNone)) = false := by rfl) :
    PE X (.Call (.Name x p) [] kws pos) (tKw ks.length sp gV E tk) := by
  refine ⟨fun pins s σ H Q I h => ?_⟩
  refine wpAny_Call_Name_kw (ld_glob I hg hm ?_ hdb)
  refine PySem.W.callWith_KW0 (h₀ := X.base) I.ok.mod.kin hk hall (thn (hkw.run pos pins s σ H _ I h) fun ws s2 hh => ?_) hpl
  obtain ⟨zs, H2, I2, rz, l2, q2⟩ := hh
  refine ⟨I2.kIn, ?_⟩
  rw [hks]
  exact run_kw (us := []) (vs := []) F hr hb (hx σ) I2 .nil rz rfl l2 q2
/-- f(e, .., k = v, ..) -/
theorem pe_callN1 (F : FnOk X.prog X.w X.K X.mg X.base CX k f fd ps sp) (hr : Room k X.A) (hg : Gl X x) (hm : X.mg x = some (.ref f)) (hk : PySem.W.keepIn X.K (.ref f) = true) (hb : KBn X.K fd ps n ks g gV) (hx : ∀ σ, PassesAt CX X σ (E σ))
    (ha : PA X (e :: es) t) (hkw : PK X kws tk) (hall : (backToKw pos (keywordEach kws X.env)).all (·.1.isSome) = true := by rfl) (hks : (backToKw pos (keywordEach kws X.env)).filterMap (·.1) = ks := by rfl)
    (hdb : (x == ("__debug__" : Str)) = false := by decide) (he : starEach (e :: es) X.env = (false, eval e X.env) :: starEach es X.env := by rfl)
    (hpl : ((backTo pos (starEach (e :: es) X.env)).any (·.1) || (backToKw pos (keywordEach kws X.env)).any (·.1.isNone)) = false := by rfl) :
    PE X (.Call (.Name x p) (e :: es) kws pos) (tKwP n ks.length sp gV E t tk) := by
  refine ⟨fun pins s σ H Q I h => ?_⟩
  refine wpAny_Call_Name_kw (ld_glob I hg hm ?_ hdb)
  refine PySem.W.callWith_KW (h₀ := X.base) I.ok.mod.kin hk hall (thn (ha.run pos pins s σ H _ I h) fun us s1 hh => ?_) hpl he
  obtain ⟨vs, H1, I1, r, q⟩ := hh
  refine thn (hkw.run pos pins s1 σ H1 _ I1 q) fun ws s2 hh2 => ?_
  obtain ⟨zs, H2, I2, rz, l1, l2, q2⟩ := hh2
  refine ⟨I2.kIn, ?_⟩
  rw [hks]
  exact run_kw F hr hb (hx σ) I2 r rz l1 l2 q2
theorem passAtN {σ : Sl} : PassesAt (L2N.CX X.prog X.w) X σ E0 := fun _ _ _ _ _ _ h => by
  obtain ⟨_, _, _, _, _, _, _, _, _, _, _, _, z⟩ := h
  exact z.elim
variable {σ : Sl} {H : Hp} {Q : VK} {m : Nat}
theorem i_kw (q : tk σ H fun zs H2 => zs.length = m ∧ sp (gV [] zs) H2 Q (E σ)) : tKw m sp gV E tk σ H Q := q
theorem i_kwP (q : t σ H fun vs H1 => tk σ H1 fun zs H2 => vs.length = n ∧ zs.length = m ∧ sp (gV vs zs) H2 Q (E σ)) : tKwP n m sp gV E t tk σ H Q := q
end
def GoodP (P : Program) (w : World) (K : PySem.W.Frag) (mg : Str → Option Value) (base : Heap) (k : Nat) (f : Addr) (ps : List Str) (sp : Addr → Value → Option Addr → Sp) : Prop :=
  ∃ fd, FnP P w K mg base k f fd ps sp ∧ Binds K fd ps [] ∧ PySem.W.keepIn K (.ref f) = true ∧ ∃ (oc : Value) (od : Option Addr) (osl : Array (Option Value)), K.lookup f = some ⟨oc, od, .func fd, osl⟩
theorem roomX {X : Cx} {k j : Nat} {a : Addr} {pn : List (Addr × Obj)} (hr : Room k X.A) (h : j ≤ k := by decide) : L2H.RoomH j (X.suite a pn).A := (L2H.roomH_mark hr _).mono h
section
variable {K : PySem.W.Frag} {all fs : List Str} {base x D : Str} {H : Hp} {Q : VK} {a d tp : Addr} {b : Bool} {ys : List (Str × V)}
/-- isinstance(e, D) -/
theorem i_isP (e : ErrT K all base x fs) (hD : D ∈ all) (hb : (decide (D = x) || decide (D = base)) = b) (hd : H d = some (.xd ys)) (q : Q (.bl b) H) : rIsP K (ga K x) a (some d) [.ref a, .ref (ga K D)] H Q :=
  ⟨_, _, b, rfl, .own _, fun dd z => by cases z; exact ⟨_, hd⟩, by rw [e.k D hD, hb], q⟩
theorem i_isPV (e : ErrT K all base x fs) (hd : H d = some (.xd ys)) (q : Q (.bl true) H) : rIsP K (ga K x) a (some d) [.ref a, .ty "ValueError"] H Q :=
  ⟨_, _, true, rfl, .ty _, fun dd z => by cases z; exact ⟨_, hd⟩, e.v, q⟩
theorem own_all : ∀ Ds : List Str, Paired ClsV (Ds.map fun D => V.ref (ga K D)) (Ds.map fun D => Value.ref (ga K D))
  | [] => .nil
  | D :: r => .cons (.own _) (own_all r)
/-- isinstance(e, (D, ..)): of none of them -/
theorem i_isPTno (e : ErrT K all base x fs) (Ds : List Str) (hall : (Ds.all fun D => all.contains D && !(decide (D = x) || decide (D = base))) = true) (hT : H tp = some (.tup (Ds.map fun D => V.ref (ga K D)))) (hd : H d = some (.xd ys)) (q : Q (.bl false) H) :
    rIsPT K (ga K x) a (some d) [.ref a, .ref tp] H Q := by
  refine ⟨tp, _, _, false, rfl, hT, own_all Ds, fun dd z => by cases z; exact ⟨_, hd⟩, kitAny_false fun c hc => ?_, q⟩
  obtain ⟨D, hD, rfl⟩ := List.mem_map.mp hc
  have h := List.all_eq_true.mp hall D hD
  rw [Bool.and_eq_true] at h
  rw [e.k D (List.contains_iff_mem.mp h.1)]
  have h2 := h.2
  rw [Bool.not_eq_true'] at h2
  rw [h2]
end
/-- what an except clause asks of an error of the class x -/
theorem was_of {K : PySem.W.Frag} {all fs : List Str} {base x : Str} {i : Nat} {ts : Addr → Value → Option Addr → TS} {Wout : WX} {D : Ends} {d : Option Addr} {σ : Sl} {H : Hp} (e : ErrT K all base x fs)
    (q : ∀ a, H a = none → ts a (.ref (ga K x)) d { nx := fun σ' H' => D.nx (σ'.set i none) H', rt := D.rt, bk := fun σ' H' => D.bk (σ'.set i none) H', ct := fun σ' H' => D.ct (σ'.set i none) H' } (σ.set i (some (.ref a))) H) :
    wAs K (.ref (ga K base)) i ts Wout D (.ref (ga K x)) d σ H := ⟨true, e.m, fun _ => q, fun z => nomatch z⟩
/-- the promise of an error's __init__ of one field, of two -/
def spInit1 (C : Addr) (f : Str) : Sp := fun vs H Q _ => ∃ (a : Addr) (v : V), vs = [.ref a, v] ∧ H a = some (exo a C none) ∧
  ∀ dx, H dx = none → dx ≠ a → Q .non (upd (upd H dx (exd dx [(f, v)])) a (exo a C (some dx)))
def spInit2 (C : Addr) (f g : Str) : Sp := fun vs H Q _ => ∃ (a : Addr) (v u : V), vs = [.ref a, v, u] ∧ H a = some (exo a C none) ∧
  ∀ dx, H dx = none → dx ≠ a → Q .non (upd (upd (upd H dx (exd dx [(f, v)])) a (exo a C (some dx))) dx (exd dx [(g, u), (f, v)]))
section
variable {C : Addr} {f g : Str} {v u : V} {H : Hp} {Q : XK} {tr : TA} {σ : Sl} {sp : Sp}
theorem i_mkO (q : tr σ H fun vs H1 => vs.length ≤ 1000 ∧ ∀ a, H1 a = none → sp (.ref a :: (vs ++ [])) (upd H1 a (exo a C none))
  (fun v H2 => v = .non ∧ ∃ (d : Addr) (fs : List (Str × V)), H2 a = some (exo a C (some d)) ∧ H2 d = some (exd d fs) ∧ H1 d = none ∧ Q (.ref C) (some d) (upd (L2.del H2 a) d (.xd fs))) (fun _ _ _ => False)) : tMkO C sp [] tr σ H Q := q
theorem del_upds {a d : Addr} {o1 o2 o3 : HO} (na : H a = none) (nd : H d = none) (ne : d ≠ a) : Ext H (upd (L2.del (upd (upd (upd H a o1) d o2) a o3) a) d o2) := fun b o e => by
  have hb : b ≠ a := ne_of_none e na
  have hd : b ≠ d := ne_of_none e nd
  rw [upd_ne hd, L2.del_ne hb, upd_ne hb, upd_ne hd, upd_ne hb]
  exact e
theorem ext_xd {a d : Addr} {H2 : Hp} {o : HO} (na : H a = none) (nd : H d = none) (k : ∀ b u, b ≠ a → b ≠ d → H b = some u → H2 b = some u) : Ext H (upd (L2.del H2 a) d o) := fun b u e => by
  have hb : b ≠ a := ne_of_none e na
  have hd : b ≠ d := ne_of_none e nd
  rw [upd_ne hd, L2.del_ne hb]
  exact k b u hb hd e
theorem mk1 (q : ∀ d H2, Ext H H2 → H d = none → H2 d = some (.xd [(f, v)]) → Q (.ref C) (some d) H2) : [v].length ≤ 1000 ∧ ∀ a, H a = none → spInit1 C f (.ref a :: ([v] ++ [])) (upd H a (exo a C none))
    (fun v H2 => v = .non ∧ ∃ (d : Addr) (fs : List (Str × V)), H2 a = some (exo a C (some d)) ∧ H2 d = some (exd d fs) ∧ H d = none ∧ Q (.ref C) (some d) (upd (L2.del H2 a) d (.xd fs))) (fun _ _ _ => False) := by
  refine ⟨by show 1 ≤ 1000; decide, fun a na => ⟨a, v, rfl, upd_same, fun dx hn ne => ⟨rfl, dx, _, upd_same, ?_, ?_, q dx _ (ext_xd na ?_ fun b u hb hd e => ?_) ?_ upd_same⟩⟩⟩
  · rw [upd_ne ne, upd_same]
  · rw [upd_ne ne] at hn; exact hn
  · rw [upd_ne ne] at hn; exact hn
  · rw [upd_ne hb, upd_ne hd, upd_ne hb]; exact e
  · rw [upd_ne ne] at hn; exact hn
theorem mk2 (q : ∀ d H2, Ext H H2 → H d = none → H2 d = some (.xd [(g, u), (f, v)]) → Q (.ref C) (some d) H2) : [v, u].length ≤ 1000 ∧ ∀ a, H a = none → spInit2 C f g (.ref a :: ([v, u] ++ [])) (upd H a (exo a C none))
    (fun v H2 => v = .non ∧ ∃ (d : Addr) (fs : List (Str × V)), H2 a = some (exo a C (some d)) ∧ H2 d = some (exd d fs) ∧ H d = none ∧ Q (.ref C) (some d) (upd (L2.del H2 a) d (.xd fs))) (fun _ _ _ => False) := by
  refine ⟨by show 2 ≤ 1000; decide, fun a na => ⟨a, v, u, rfl, upd_same, fun dx hn ne => ⟨rfl, dx, _, ?_, upd_same, ?_, q dx _ (ext_xd na ?_ fun b u hb hd e => ?_) ?_ upd_same⟩⟩⟩
  · rw [upd_ne (Ne.symm ne), upd_same]
  · rw [upd_ne ne] at hn; exact hn
  · rw [upd_ne ne] at hn; exact hn
  · rw [upd_ne hd, upd_ne hb, upd_ne hd, upd_ne hb]; exact e
  · rw [upd_ne ne] at hn; exact hn
end
end NB
namespace NB
open PySem PySem.Spec PyProof.Rows L2
/-- the law's promise: at every script of at most 63 whole numbers, together of at most 2^20 bits, it gives True -/
def spLaw (K : PySem.W.Frag) : Sp := fun vs H Q _ => ∃ (a : Addr) (ns : List Int), vs = [.ref a] ∧ SqL K H a (ns.map V.int) ∧ ns.length ≤ 63 ∧ (∀ z ∈ ns, Builtin.Int.intBits z ≤ 1048576) ∧ ∀ H', Q (.bl true) H'
/-- the end of a law over a head's facts, the script's bits told -/
theorem walk_end {l : PySem.W.OpenLaw} {n k : Nat} {q : Program} {loose : List Str} {XP : (Str → Option Value) → Heap → Prop} {YP : World → Heap → Prop} {d : DefRec} {x : Str}
    (hn : l.most = some n) (hn2 : n ≤ sizeLine) (hdf : d.params.defaults = []) (hr : Room k callerA)
    (F : ∀ (w : World) (mg : Str → Option Value) (fa : Addr) (h : Heap), YP w h → h.Ns mainGlobals mg → mg d.name = some (.ref fa) →
      ∃ (K : PySem.W.Frag) (fd : FuncData) (sp : Sp), K.In h ∧ (∀ (s : Shared) (u : Value), BindsTo s fd ⟨[u], []⟩ [(x, u)]) ∧
        (∀ (H : Hp) (a : Addr) (ns : List Int), ns.length ≤ n → (∀ z ∈ ns, Builtin.Int.intBits z ≤ 1048576) → Only H → SqL K H a (ns.map V.int) → sp [.ref a] H (fun v _ => v = .bl true) fun _ _ _ => False) ∧
        ∀ base : Heap, K.In base → base.Ns mainGlobals mg → FnOk l.prog w K mg base (L2N.CX l.prog w) k fa fd [x] sp) :
    PySem.W.WalkO q loose XP YP l.row.toRowW d [] (fun f vs => PySem.call f vs) := by
  refine Att.attach_callB hn hdf fun w s₀ s₁ mg mb fa o pm cd doc a vs ns G Y ho hd hcd hmg hobj hints hlen hbits hg => ?_
  obtain ⟨K, fd, sp, KX, hb, hsp, hF⟩ := F w mg fa _ Y G.T.g hmg
  exact law_call KX G.T.g G.T.b G.T.builtins G.T.nolimit hg hobj hints (Nat.le_trans hlen hn2) hr hF hb (fun H hO hS => hsp H a ns hlen hbits hO hS) fun H e s' z => by
    obtain ⟨_, _, _, _, _, _, _, _, _, _, _, _, z⟩ := z
    exact z.elim
end NB

namespace NB
open PySem PySem.Spec PyProof.Rows L2
open He (ga ma)
/-! ## values of any plain kind -/
inductive AnyV (H : Hp) : V → Prop where
  | non : AnyV H .non
  | bl (b : Bool) : AnyV H (.bl b)
  | int (i : Int) : AnyV H (.int i)
  | str (z : Str) : AnyV H (.str z)
  | lst {a : Addr} {xs : List V} (h : H a = some (.lst xs)) : AnyV H (.ref a)
  | tup {a : Addr} {xs : List V} (h : H a = some (.tup xs)) : AnyV H (.ref a)
  | dK {a : Addr} {xs : List (Key × V)} (h : H a = some (.dK xs)) : AnyV H (.ref a)
theorem AnyV.ext {H H' : Hp} {v : V} (e : Ext H H') (h : AnyV H v) : AnyV H' v := by
  cases h with
  | non => exact .non
  | bl b => exact .bl b
  | int i => exact .int i
  | str z => exact .str z
  | lst h => exact .lst (e _ _ h)
  | tup h => exact .tup (e _ _ h)
  | dK h => exact .dK (e _ _ h)
def isI : V → Bool
  | .int _ => true
  | _ => false
def isB : V → Bool
  | .bl _ => true
  | _ => false
def isS : V → Bool
  | .str _ => true
  | _ => false
def isR : V → Bool
  | .ref _ => true
  | _ => false
/-- a whole number between the two -/
def inR (v : V) (lo hi : Int) : Prop := ∃ i, v = .int i ∧ lo ≤ i ∧ i ≤ hi
theorem inR_int {i lo hi : Int} : inR (.int i) lo hi ↔ lo ≤ i ∧ i ≤ hi := ⟨fun ⟨j, e, h⟩ => by cases e; exact h, fun h => ⟨i, rfl, h⟩⟩
theorem inR_not {v : V} {lo hi : Int} (h : isI v = false) : ¬ inR v lo hi := fun ⟨j, e, _⟩ => by rw [e] at h; cases h
section
variable {K : PySem.W.Frag} {H : Hp} {v : V} {Q : VK} {b : Bool}
theorem i_isi {t T : String} (ty : TyX K H v (.type t)) (e : kitB t T = some b) (q : Q (.bl b) H) : rIsi K [v, .ty T] H Q := ⟨v, .ty T, .type t, .type T, b, rfl, .ty T, ty, kit_ty e, q⟩
/-- isinstance(v, int), bool, str, list, tuple of any plain value -/
theorem isi_int (h : AnyV H v) (q : Q (.bl (isI v || isB v)) H) : rIsi K [v, .ty "int"] H Q := by
  cases h with
  | non => exact i_isi (b := false) (.base .non) (by decide +kernel) q
  | bl b => exact i_isi (b := true) (.base (.bl b)) (by decide +kernel) q
  | int i => exact i_isi (b := true) (.base (.int i)) (by decide +kernel) q
  | str z => exact i_isi (b := false) (.base (.str z)) (by decide +kernel) q
  | lst h => exact i_isi (b := false) (.base (.lst h)) (by decide +kernel) q
  | tup h => exact i_isi (b := false) (.base (.tup h)) (by decide +kernel) q
  | dK h => exact i_isi (b := false) (.base (.dK h)) (by decide +kernel) q
theorem isi_bool (h : AnyV H v) (q : Q (.bl (isB v)) H) : rIsi K [v, .ty "bool"] H Q := by
  cases h with
  | non => exact i_isi (b := false) (.base .non) (by decide +kernel) q
  | bl b => exact i_isi (b := true) (.base (.bl b)) (by decide +kernel) q
  | int i => exact i_isi (b := false) (.base (.int i)) (by decide +kernel) q
  | str z => exact i_isi (b := false) (.base (.str z)) (by decide +kernel) q
  | lst h => exact i_isi (b := false) (.base (.lst h)) (by decide +kernel) q
  | tup h => exact i_isi (b := false) (.base (.tup h)) (by decide +kernel) q
  | dK h => exact i_isi (b := false) (.base (.dK h)) (by decide +kernel) q
theorem isi_str (h : AnyV H v) (q : Q (.bl (isS v)) H) : rIsi K [v, .ty "str"] H Q := by
  cases h with
  | non => exact i_isi (b := false) (.base .non) (by decide +kernel) q
  | bl b => exact i_isi (b := false) (.base (.bl b)) (by decide +kernel) q
  | int i => exact i_isi (b := false) (.base (.int i)) (by decide +kernel) q
  | str z => exact i_isi (b := true) (.base (.str z)) (by decide +kernel) q
  | lst h => exact i_isi (b := false) (.base (.lst h)) (by decide +kernel) q
  | tup h => exact i_isi (b := false) (.base (.tup h)) (by decide +kernel) q
  | dK h => exact i_isi (b := false) (.base (.dK h)) (by decide +kernel) q
theorem isi_listL {a : Addr} {xs : List V} (h : H a = some (.lst xs)) (q : Q (.bl true) H) : rIsi K [.ref a, .ty "list"] H Q := i_isi (b := true) (.base (.lst h)) (by decide +kernel) q
theorem isi_listT {a : Addr} {xs : List V} (h : H a = some (.tup xs)) (q : Q (.bl false) H) : rIsi K [.ref a, .ty "list"] H Q := i_isi (b := false) (.base (.tup h)) (by decide +kernel) q
theorem isi_tupT {a : Addr} {xs : List V} (h : H a = some (.tup xs)) (q : Q (.bl true) H) : rIsi K [.ref a, .ty "tuple"] H Q := i_isi (b := true) (.base (.tup h)) (by decide +kernel) q
theorem isi_tupL {a : Addr} {xs : List V} (h : H a = some (.lst xs)) (q : Q (.bl false) H) : rIsi K [.ref a, .ty "tuple"] H Q := i_isi (b := false) (.base (.lst h)) (by decide +kernel) q
theorem isi_lt {a tp : Addr} {t : String} (hT : H tp = some (.tup [.ty "list", .ty "tuple"])) (ty : TyX K H (.ref a) (.type t)) (ht : t = "list" ∨ t = "tuple") (q : Q (.bl true) H) : rIsiT K [.ref a, .ref tp] H Q := by
  refine ⟨_, tp, _, _, [.type "list", .type "tuple"], true, rfl, hT, .cons (.ty _) (.cons (.ty _) .nil), ty, ?_, q⟩
  rcases ht with rfl | rfl
  · exact kitAny_cons (b := true) (kit_ty (by decide +kernel)) (fun z => nomatch z) fun _ => rfl
  · exact kitAny_cons (b := false) (kit_ty (by decide +kernel)) (fun _ => kitAny_cons (b := true) (kit_ty (by decide +kernel)) (fun z => nomatch z) fun _ => rfl) fun z => nomatch z
end
section
variable {K : PySem.W.Frag} {H : Hp} {i : Int} {b : Bool} {z : Str} {a : Addr} {xs : List V} {Q : VK}
theorem isi_int_int (q : Q (.bl true) H) : rIsi K [.int i, .ty "int"] H Q := i_isi (b := true) (.base (.int i)) (by decide +kernel) q
theorem isi_int_bool (q : Q (.bl false) H) : rIsi K [.int i, .ty "bool"] H Q := i_isi (b := false) (.base (.int i)) (by decide +kernel) q
theorem isi_int_str (q : Q (.bl false) H) : rIsi K [.int i, .ty "str"] H Q := i_isi (b := false) (.base (.int i)) (by decide +kernel) q
theorem isi_int_list (q : Q (.bl false) H) : rIsi K [.int i, .ty "list"] H Q := i_isi (b := false) (.base (.int i)) (by decide +kernel) q
theorem isi_int_tuple (q : Q (.bl false) H) : rIsi K [.int i, .ty "tuple"] H Q := i_isi (b := false) (.base (.int i)) (by decide +kernel) q
theorem isi_bl_int (q : Q (.bl true) H) : rIsi K [.bl b, .ty "int"] H Q := i_isi (b := true) (.base (.bl b)) (by decide +kernel) q
theorem isi_bl_bool (q : Q (.bl true) H) : rIsi K [.bl b, .ty "bool"] H Q := i_isi (b := true) (.base (.bl b)) (by decide +kernel) q
theorem isi_bl_str (q : Q (.bl false) H) : rIsi K [.bl b, .ty "str"] H Q := i_isi (b := false) (.base (.bl b)) (by decide +kernel) q
theorem isi_bl_list (q : Q (.bl false) H) : rIsi K [.bl b, .ty "list"] H Q := i_isi (b := false) (.base (.bl b)) (by decide +kernel) q
theorem isi_bl_tuple (q : Q (.bl false) H) : rIsi K [.bl b, .ty "tuple"] H Q := i_isi (b := false) (.base (.bl b)) (by decide +kernel) q
theorem isi_str_int (q : Q (.bl false) H) : rIsi K [.str z, .ty "int"] H Q := i_isi (b := false) (.base (.str z)) (by decide +kernel) q
theorem isi_str_bool (q : Q (.bl false) H) : rIsi K [.str z, .ty "bool"] H Q := i_isi (b := false) (.base (.str z)) (by decide +kernel) q
theorem isi_str_str (q : Q (.bl true) H) : rIsi K [.str z, .ty "str"] H Q := i_isi (b := true) (.base (.str z)) (by decide +kernel) q
theorem isi_str_list (q : Q (.bl false) H) : rIsi K [.str z, .ty "list"] H Q := i_isi (b := false) (.base (.str z)) (by decide +kernel) q
theorem isi_str_tuple (q : Q (.bl false) H) : rIsi K [.str z, .ty "tuple"] H Q := i_isi (b := false) (.base (.str z)) (by decide +kernel) q
theorem isi_non_int (q : Q (.bl false) H) : rIsi K [.non, .ty "int"] H Q := i_isi (b := false) (.base (.non)) (by decide +kernel) q
theorem isi_non_bool (q : Q (.bl false) H) : rIsi K [.non, .ty "bool"] H Q := i_isi (b := false) (.base (.non)) (by decide +kernel) q
theorem isi_non_str (q : Q (.bl false) H) : rIsi K [.non, .ty "str"] H Q := i_isi (b := false) (.base (.non)) (by decide +kernel) q
theorem isi_non_list (q : Q (.bl false) H) : rIsi K [.non, .ty "list"] H Q := i_isi (b := false) (.base (.non)) (by decide +kernel) q
theorem isi_non_tuple (q : Q (.bl false) H) : rIsi K [.non, .ty "tuple"] H Q := i_isi (b := false) (.base (.non)) (by decide +kernel) q
theorem isi_lst_int (h : H a = some (.lst xs)) (q : Q (.bl false) H) : rIsi K [.ref a, .ty "int"] H Q := i_isi (b := false) (.base (.lst h)) (by decide +kernel) q
theorem isi_lst_bool (h : H a = some (.lst xs)) (q : Q (.bl false) H) : rIsi K [.ref a, .ty "bool"] H Q := i_isi (b := false) (.base (.lst h)) (by decide +kernel) q
theorem isi_lst_str (h : H a = some (.lst xs)) (q : Q (.bl false) H) : rIsi K [.ref a, .ty "str"] H Q := i_isi (b := false) (.base (.lst h)) (by decide +kernel) q
theorem isi_lst_list (h : H a = some (.lst xs)) (q : Q (.bl true) H) : rIsi K [.ref a, .ty "list"] H Q := i_isi (b := true) (.base (.lst h)) (by decide +kernel) q
theorem isi_lst_tuple (h : H a = some (.lst xs)) (q : Q (.bl false) H) : rIsi K [.ref a, .ty "tuple"] H Q := i_isi (b := false) (.base (.lst h)) (by decide +kernel) q
theorem isi_tup_int (h : H a = some (.tup xs)) (q : Q (.bl false) H) : rIsi K [.ref a, .ty "int"] H Q := i_isi (b := false) (.base (.tup h)) (by decide +kernel) q
theorem isi_tup_bool (h : H a = some (.tup xs)) (q : Q (.bl false) H) : rIsi K [.ref a, .ty "bool"] H Q := i_isi (b := false) (.base (.tup h)) (by decide +kernel) q
theorem isi_tup_str (h : H a = some (.tup xs)) (q : Q (.bl false) H) : rIsi K [.ref a, .ty "str"] H Q := i_isi (b := false) (.base (.tup h)) (by decide +kernel) q
theorem isi_tup_list (h : H a = some (.tup xs)) (q : Q (.bl false) H) : rIsi K [.ref a, .ty "list"] H Q := i_isi (b := false) (.base (.tup h)) (by decide +kernel) q
theorem isi_tup_tuple (h : H a = some (.tup xs)) (q : Q (.bl true) H) : rIsi K [.ref a, .ty "tuple"] H Q := i_isi (b := true) (.base (.tup h)) (by decide +kernel) q
end
/-! ## bs.count(b), a list of bools -/
def isBl (k : Bool) (v : Value) : Bool := match v with
  | .bool b => b == k
  | _ => false
def rCountB (K : PySem.W.Frag) : V → List V → Hp → VK → Prop := fun x xs H Q => ∃ (p : Addr) (bs : List Bool) (k : Bool), x = .ref p ∧ xs = [.bl k] ∧ SqL K H p (bs.map V.bl) ∧ Q (.int (bs.count k : Nat)) H
theorem bools_are : ∀ {bs : List Bool} {us : List Value}, Vals (bs.map V.bl) us → us = bs.map Value.bool
  | [], _, .nil => rfl
  | b :: r, _, .cons h t => by
    cases (show _ = Value.bool b from h)
    rw [bools_are t]
    rfl
theorem bools_count {k : Bool} : ∀ bs : List Bool, (bs.map Value.bool).countP (isBl k) = bs.count k
  | [] => rfl
  | b :: r => by
    rw [List.map_cons, List.countP_cons, List.count_cons, bools_count r]
    rfl
theorem mCountB {X : Cx} : MtR X "list.count" (rCountB X.K) := by
  intro pins s σ H x xs v us Q I rx rxs h
  obtain ⟨p, bs, k, rfl, rfl, hs, q⟩ := h
  cases rx
  obtain ⟨u, rfl, ru⟩ := rxs.one
  cases (show u = Value.bool k from ru)
  obtain ⟨its, rv, ⟨⟨cls, dd, data, sl⟩, n, ho, hc, hdn, hd⟩, hlen⟩ := I.list hs
  simp only at hc hd
  subst hc hd
  have hi := bools_are rv
  refine call_meets PySem.F.slot_list_count ⟨_, ho, rfl⟩ PySem.F.entry_list_count (PySem.F.args_list_count_2 _ _)
    (SeqAt.list_countAt p its.toArray n dd sl (.bool k) (isBl k)) ⟨ho, fun y hy => ?_, ?_⟩
  · have hy2 : y ∈ its := by simpa using hy
    rw [hi] at hy2
    obtain ⟨b, _, rfl⟩ := List.mem_map.mp hy2
    exact SeqAt.EqAt.bool_bool b k
  · have ec : its.toArray.toList.countP (isBl k) = bs.count k := by
      show its.countP (isBl k) = bs.count k
      rw [hi]
      exact bools_count bs
    refine ⟨.int (bs.count k : Nat), H, I.tok _, ⟨s.toks, ?_⟩, q⟩
    show Value.int ((its.toArray.toList.countP (isBl k) : Nat) : Int) s.toks = Value.int ((bs.count k : Nat) : Int) s.toks
    rw [ec]
theorem i_count {K : PySem.W.Frag} {H : Hp} {p : Addr} {bs : List Bool} {k : Bool} {Q : VK} (h : SqL K H p (bs.map V.bl)) (q : Q (.int (bs.count k : Nat)) H) : rCountB K (.ref p) [.bl k] H Q := ⟨p, bs, k, rfl, rfl, h, q⟩
/-- a method of a list -/
theorem i_bmL {K : PySem.W.Frag} {σ : Sl} {H : Hp} {Q : VK} {r : V → List V → Hp → VK → Prop} {to : TE} {t : TA} (q : to σ H fun x H1 => tyV K "list" x H1 ∧ t σ H1 fun xs H2 => r x xs H2 Q) : tBM K "list" r to t σ H Q := q
theorem i_tyL {K : PySem.W.Frag} {H : Hp} {p : Addr} {xs : List V} {P : Prop} (h : SqL K H p xs) (q : P) : tyV K "list" (.ref p) H ∧ P := ⟨.inl ⟨rfl, _, h⟩, q⟩
theorem i_app {H : Hp} {p : Addr} {xs : List V} {v : V} {Q : VK} (h : H p = some (.lst xs)) (hz : xs.length < 16777216) (q : Q .non (upd H p (.lst (xs ++ [v])))) : rAppend (.ref p) [v] H Q := ⟨p, xs, v, rfl, rfl, h, by rw [sizeLine_eq]; exact hz, q⟩
theorem i_slL {K : PySem.W.Frag} {H : Hp} {p : Addr} {xs : List V} {lo hi : Option Int} {Q : VK} (h : SqL K H p xs) (q : ∀ l, H l = none → Q (.ref l) (upd H l (.lst (cutV xs lo hi)))) : rSlL K (.ref p) lo hi H Q := ⟨p, xs, rfl, h, q⟩
theorem i_sl {r : V → Option Int → Option Int → Hp → VK → Prop} {te : TE} {tl th : TO} {σ : Sl} {H : Hp} {Q : VK} (q : te σ H fun x H1 => tl σ H1 fun l H2 => th σ H2 fun u H3 => r x l u H3 Q) : tSl r te tl th σ H Q := q
theorem i_noP {σ : Sl} {H : Hp} {Q : Option Int → Hp → Prop} (q : Q none H) : tNoPart σ H Q := q
theorem i_part {te : TE} {σ : Sl} {H : Hp} {Q : Option Int → Hp → Prop} (q : te σ H fun x H1 => ∃ i, x = .int i ∧ Q (some i) H1) : tPart te σ H Q := q
end NB

namespace NB
open PySem PySem.Spec PyProof.Rows L2
open He (ga ma)
/-! ## the text by places -/
def top (i : Nat) : Stmt := PySem.Challenge.pw_noisebound_k43_press_errors_bounded.main.body.getD i (.Pass ⟨0, 0, 0, 0⟩)
abbrev s_OutOfRange___init__ : Stmt := inClass (top 2) 0
theorem sc_OutOfRange___init__ : FnScope ["self", "name"] ["self", "name"] (defScope s_OutOfRange___init__) := ⟨rfl, rfl, rfl, by decide +kernel, rfl, by decide +kernel, by decide +kernel⟩
def d_OutOfRange___init__ : He.DefD := ⟨("OutOfRange", some "__init__"), "__init__", "OutOfRange.__init__", defArgs s_OutOfRange___init__, defBody s_OutOfRange___init__, defScope s_OutOfRange___init__, [], []⟩
abbrev s_whole : Stmt := top 22
theorem sc_whole : FnScope ["value"] ["value"] (defScope s_whole) := ⟨rfl, rfl, rfl, by decide +kernel, rfl, by decide +kernel, by decide +kernel⟩
def d_whole : He.DefD := ⟨("whole", none), "whole", "whole", defArgs s_whole, defBody s_whole, defScope s_whole, [], []⟩
abbrev s_check_any : Stmt := top 23
theorem sc_check_any : FnScope ["value", "name"] ["value", "name"] (defScope s_check_any) := ⟨rfl, rfl, rfl, by decide +kernel, rfl, by decide +kernel, by decide +kernel⟩
def d_check_any : He.DefD := ⟨("check_any", none), "check_any", "check_any", defArgs s_check_any, defBody s_check_any, defScope s_check_any, [], []⟩
abbrev s_check_within : Stmt := top 24
theorem sc_check_within : FnScope ["value", "low", "high", "name"] ["value", "low", "high", "name"] (defScope s_check_within) := ⟨rfl, rfl, rfl, by decide +kernel, rfl, by decide +kernel, by decide +kernel⟩
def d_check_within : He.DefD := ⟨("check_within", none), "check_within", "check_within", defArgs s_check_within, defBody s_check_within, defScope s_check_within, [], []⟩
abbrev s_check_modulus : Stmt := top 25
theorem sc_check_modulus : FnScope ["q"] ["q"] (defScope s_check_modulus) := ⟨rfl, rfl, rfl, by decide +kernel, rfl, by decide +kernel, by decide +kernel⟩
def d_check_modulus : He.DefD := ⟨("check_modulus", none), "check_modulus", "check_modulus", defArgs s_check_modulus, defBody s_check_modulus, defScope s_check_modulus, [], []⟩
abbrev s_centred_form : Stmt := top 26
theorem sc_centred_form : FnScope ["value", "q", "rest"] ["value", "q"] (defScope s_centred_form) := ⟨rfl, rfl, rfl, by decide +kernel, rfl, by decide +kernel, by decide +kernel⟩
def d_centred_form : He.DefD := ⟨("centred_form", none), "centred_form", "centred_form", defArgs s_centred_form, defBody s_centred_form, defScope s_centred_form, [], []⟩
abbrev s_centred : Stmt := top 27
theorem sc_centred : FnScope ["value", "q"] ["value", "q"] (defScope s_centred) := ⟨rfl, rfl, rfl, by decide +kernel, rfl, by decide +kernel, by decide +kernel⟩
def d_centred : He.DefD := ⟨("centred", none), "centred", "centred", defArgs s_centred, defBody s_centred, defScope s_centred, [], []⟩
abbrev s_is_whole : Stmt := top 29
theorem sc_is_whole : FnScope ["value"] ["value"] (defScope s_is_whole) := ⟨rfl, rfl, rfl, by decide +kernel, rfl, by decide +kernel, by decide +kernel⟩
def d_is_whole : He.DefD := ⟨("is_whole", none), "is_whole", "is_whole", defArgs s_is_whole, defBody s_is_whole, defScope s_is_whole, [], []⟩
abbrev s_need_integer : Stmt := top 30
theorem sc_need_integer : FnScope ["name", "value", "low", "high"] ["name", "value", "low", "high"] (defScope s_need_integer) := ⟨rfl, rfl, rfl, by decide +kernel, rfl, by decide +kernel, by decide +kernel⟩
def d_need_integer : He.DefD := ⟨("need_integer", none), "need_integer", "need_integer", defArgs s_need_integer, defBody s_need_integer, defScope s_need_integer, [], []⟩
abbrev s_need_modulus_and_width : Stmt := top 32
theorem sc_need_modulus_and_width : FnScope ["q", "width"] ["q", "width"] (defScope s_need_modulus_and_width) := ⟨rfl, rfl, rfl, by decide +kernel, rfl, by decide +kernel, by decide +kernel⟩
def d_need_modulus_and_width : He.DefD := ⟨("need_modulus_and_width", none), "need_modulus_and_width", "need_modulus_and_width", defArgs s_need_modulus_and_width, defBody s_need_modulus_and_width, defScope s_need_modulus_and_width, [], []⟩
abbrev s_code_of : Stmt := top 33
theorem sc_code_of : FnScope ["q", "width", "value", "rounded"] ["q", "width", "value"] (defScope s_code_of) := ⟨rfl, rfl, rfl, by decide +kernel, rfl, by decide +kernel, by decide +kernel⟩
def d_code_of : He.DefD := ⟨("code_of", none), "code_of", "code_of", defArgs s_code_of, defBody s_code_of, defScope s_code_of, [], []⟩
abbrev s_residue_of : Stmt := top 34
theorem sc_residue_of : FnScope ["q", "width", "code", "rounded"] ["q", "width", "code"] (defScope s_residue_of) := ⟨rfl, rfl, rfl, by decide +kernel, rfl, by decide +kernel, by decide +kernel⟩
def d_residue_of : He.DefD := ⟨("residue_of", none), "residue_of", "residue_of", defArgs s_residue_of, defBody s_residue_of, defScope s_residue_of, [], []⟩
abbrev s_error_of : Stmt := top 35
theorem sc_error_of : FnScope ["q", "width", "value", "restored"] ["q", "width", "value"] (defScope s_error_of) := ⟨rfl, rfl, rfl, by decide +kernel, rfl, by decide +kernel, by decide +kernel⟩
def d_error_of : He.DefD := ⟨("error_of", none), "error_of", "error_of", defArgs s_error_of, defBody s_error_of, defScope s_error_of, [], []⟩
abbrev s_press_error : Stmt := top 36
theorem sc_press_error : FnScope ["q", "width", "value"] ["q", "width", "value"] (defScope s_press_error) := ⟨rfl, rfl, rfl, by decide +kernel, rfl, by decide +kernel, by decide +kernel⟩
def d_press_error : He.DefD := ⟨("press_error", none), "press_error", "press_error", defArgs s_press_error, defBody s_press_error, defScope s_press_error, [], []⟩
abbrev s_press_bound : Stmt := top 37
theorem sc_press_bound : FnScope ["q", "width"] ["q", "width"] (defScope s_press_bound) := ⟨rfl, rfl, rfl, by decide +kernel, rfl, by decide +kernel, by decide +kernel⟩
def d_press_bound : He.DefD := ⟨("press_bound", none), "press_bound", "press_bound", defArgs s_press_bound, defBody s_press_bound, defScope s_press_bound, [], []⟩
abbrev s_presses_exactly : Stmt := top 38
theorem sc_presses_exactly : FnScope ["q", "width"] ["q", "width"] (defScope s_presses_exactly) := ⟨rfl, rfl, rfl, by decide +kernel, rfl, by decide +kernel, by decide +kernel⟩
def d_presses_exactly : He.DefD := ⟨("presses_exactly", none), "presses_exactly", "presses_exactly", defArgs s_presses_exactly, defBody s_presses_exactly, defScope s_presses_exactly, [], []⟩
abbrev s_law_begin : Stmt := top 40
theorem sc_law_begin : FnScope ["_law_script"] ["_law_script"] (defScope s_law_begin) := ⟨rfl, rfl, rfl, by decide +kernel, rfl, by decide +kernel, by decide +kernel⟩
def d_law_begin : He.DefD := ⟨("_law_begin", none), "_law_begin", "_law_begin", defArgs s_law_begin, defBody s_law_begin, defScope s_law_begin, [], []⟩
abbrev s_law_mixed : Stmt := top 41
theorem sc_law_mixed : FnScope ["_law_seed", "_law_turn", "_law_number"] ["_law_seed", "_law_turn"] (defScope s_law_mixed) := ⟨rfl, rfl, rfl, by decide +kernel, rfl, by decide +kernel, by decide +kernel⟩
def d_law_mixed : He.DefD := ⟨("_law_mixed", none), "_law_mixed", "_law_mixed", defArgs s_law_mixed, defBody s_law_mixed, defScope s_law_mixed, [], []⟩
abbrev s_law_take : Stmt := top 42
theorem sc_law_take : FnScope ["_law_store", "_law_many", "_law_limit", "_law_cell", "_law_rest"] ["_law_store", "_law_many"] (defScope s_law_take) := ⟨rfl, rfl, rfl, by decide +kernel, rfl, by decide +kernel, by decide +kernel⟩
def d_law_take : He.DefD := ⟨("_law_take", none), "_law_take", "_law_take", defArgs s_law_take, defBody s_law_take, defScope s_law_take, [], []⟩
abbrev s_law_wide : Stmt := top 43
theorem sc_law_wide : FnScope ["_law_store", "_law_many", "_law_limit", "_law_number", "_law_span", "_law_turn"] ["_law_store", "_law_many"] (defScope s_law_wide) := ⟨rfl, rfl, rfl, by decide +kernel, rfl, by decide +kernel, by decide +kernel⟩
def d_law_wide : He.DefD := ⟨("_law_wide", none), "_law_wide", "_law_wide", defArgs s_law_wide, defBody s_law_wide, defScope s_law_wide, [], []⟩
abbrev s_law_pick : Stmt := top 44
theorem sc_law_pick : FnScope ["_law_store", "_law_row"] ["_law_store", "_law_row"] (defScope s_law_pick) := ⟨rfl, rfl, rfl, by decide +kernel, rfl, by decide +kernel, by decide +kernel⟩
def d_law_pick : He.DefD := ⟨("_law_pick", none), "_law_pick", "_law_pick", defArgs s_law_pick, defBody s_law_pick, defScope s_law_pick, [], []⟩
abbrev s_law_between : Stmt := top 45
theorem sc_law_between : FnScope ["_law_store", "_law_low", "_law_high", "_law_span"] ["_law_store", "_law_low", "_law_high"] (defScope s_law_between) := ⟨rfl, rfl, rfl, by decide +kernel, rfl, by decide +kernel, by decide +kernel⟩
def d_law_between : He.DefD := ⟨("_law_between", none), "_law_between", "_law_between", defArgs s_law_between, defBody s_law_between, defScope s_law_between, [], []⟩
abbrev s_law_other : Stmt := top 46
theorem sc_law_other : FnScope ["_law_store"] ["_law_store"] (defScope s_law_other) := ⟨rfl, rfl, rfl, by decide +kernel, rfl, by decide +kernel, by decide +kernel⟩
def d_law_other : He.DefD := ⟨("_law_other", none), "_law_other", "_law_other", defArgs s_law_other, defBody s_law_other, defScope s_law_other, [], []⟩
abbrev s_law_beyond : Stmt := top 47
theorem sc_law_beyond : FnScope ["_law_store", "_law_low", "_law_high", "_law_kind"] ["_law_store", "_law_low", "_law_high"] (defScope s_law_beyond) := ⟨rfl, rfl, rfl, by decide +kernel, rfl, by decide +kernel, by decide +kernel⟩
def d_law_beyond : He.DefD := ⟨("_law_beyond", none), "_law_beyond", "_law_beyond", defArgs s_law_beyond, defBody s_law_beyond, defScope s_law_beyond, [], []⟩
abbrev s_law_same : Stmt := top 48
theorem sc_law_same : FnScope ["_law_actual", "_law_expected", "_law_at"] ["_law_actual", "_law_expected"] (defScope s_law_same) := ⟨rfl, rfl, rfl, by decide +kernel, rfl, by decide +kernel, by decide +kernel⟩
def d_law_same : He.DefD := ⟨("_law_same", none), "_law_same", "_law_same", defArgs s_law_same, defBody s_law_same, defScope s_law_same, [], []⟩
abbrev s_law_whole : Stmt := top 49
theorem sc_law_whole : FnScope ["_law_actual"] ["_law_actual"] (defScope s_law_whole) := ⟨rfl, rfl, rfl, by decide +kernel, rfl, by decide +kernel, by decide +kernel⟩
def d_law_whole : He.DefD := ⟨("_law_whole", none), "_law_whole", "_law_whole", defArgs s_law_whole, defBody s_law_whole, defScope s_law_whole, [], []⟩
abbrev s_law_within : Stmt := top 50
theorem sc_law_within : FnScope ["_law_actual", "_law_low", "_law_high"] ["_law_actual", "_law_low", "_law_high"] (defScope s_law_within) := ⟨rfl, rfl, rfl, by decide +kernel, rfl, by decide +kernel, by decide +kernel⟩
def d_law_within : He.DefD := ⟨("_law_within", none), "_law_within", "_law_within", defArgs s_law_within, defBody s_law_within, defScope s_law_within, [], []⟩
abbrev s_law_odd : Stmt := top 51
theorem sc_law_odd : FnScope ["_law_store", "_law_near_here"] ["_law_store"] (defScope s_law_odd) := ⟨rfl, rfl, rfl, by decide +kernel, rfl, by decide +kernel, by decide +kernel⟩
def d_law_odd : He.DefD := ⟨("_law_odd", none), "_law_odd", "_law_odd", defArgs s_law_odd, defBody s_law_odd, defScope s_law_odd, [], []⟩
abbrev s_law_bad_odd : Stmt := top 52
theorem sc_law_bad_odd : FnScope ["_law_store"] ["_law_store"] (defScope s_law_bad_odd) := ⟨rfl, rfl, rfl, by decide +kernel, rfl, by decide +kernel, by decide +kernel⟩
def d_law_bad_odd : He.DefD := ⟨("_law_bad_odd", none), "_law_bad_odd", "_law_bad_odd", defArgs s_law_bad_odd, defBody s_law_bad_odd, defScope s_law_bad_odd, [], []⟩
abbrev s_law_width : Stmt := top 53
theorem sc_law_width : FnScope ["_law_store", "_law_most"] ["_law_store", "_law_most"] (defScope s_law_width) := ⟨rfl, rfl, rfl, by decide +kernel, rfl, by decide +kernel, by decide +kernel⟩
def d_law_width : He.DefD := ⟨("_law_width", none), "_law_width", "_law_width", defArgs s_law_width, defBody s_law_width, defScope s_law_width, [], []⟩
abbrev s_law_tell : Stmt := top 54
theorem sc_law_tell : FnScope ["_law_error", "_law_others", "_law_kin"] ["_law_error"] (defScope s_law_tell) := ⟨rfl, rfl, rfl, by decide +kernel, rfl, by decide +kernel, by decide +kernel⟩
def d_law_tell : He.DefD := ⟨("_law_tell", none), "_law_tell", "_law_tell", defArgs s_law_tell, defBody s_law_tell, defScope s_law_tell, [], []⟩
abbrev s_law_width_for : Stmt := top 55
theorem sc_law_width_for : FnScope ["_law_store", "_law_q"] ["_law_store", "_law_q"] (defScope s_law_width_for) := ⟨rfl, rfl, rfl, by decide +kernel, rfl, by decide +kernel, by decide +kernel⟩
def d_law_width_for : He.DefD := ⟨("_law_width_for", none), "_law_width_for", "_law_width_for", defArgs s_law_width_for, defBody s_law_width_for, defScope s_law_width_for, [], []⟩
abbrev s_law_spots : Stmt := top 56
theorem sc_law_spots : FnScope ["_law_store", "_law_q", "_law_width_here", "_law_many", "_law_found", "_law_code", "_law_edge", "_law_turn"] ["_law_store", "_law_q", "_law_width_here"] (defScope s_law_spots) := ⟨rfl, rfl, rfl, by decide +kernel, rfl, by decide +kernel, by decide +kernel⟩
def d_law_spots : He.DefD := ⟨("_law_spots", none), "_law_spots", "_law_spots", defArgs s_law_spots, defBody s_law_spots, defScope s_law_spots, [], []⟩
abbrev s_law_near : Stmt := top 57
theorem sc_law_near : FnScope ["_law_one", "_law_other_here", "_law_found"] ["_law_one", "_law_other_here"] (defScope s_law_near) := ⟨rfl, rfl, rfl, by decide +kernel, rfl, by decide +kernel, by decide +kernel⟩
def d_law_near : He.DefD := ⟨("_law_near", none), "_law_near", "_law_near", defArgs s_law_near, defBody s_law_near, defScope s_law_near, [], []⟩
abbrev s_law_due : Stmt := top 58
theorem sc_law_due : FnScope ["_law_q", "_law_width_here", "_law_x", "_law_many", "_law_code", "_law_rest"] ["_law_q", "_law_width_here", "_law_x"] (defScope s_law_due) := ⟨rfl, rfl, rfl, by decide +kernel, rfl, by decide +kernel, by decide +kernel⟩
def d_law_due : He.DefD := ⟨("_law_due", none), "_law_due", "_law_due", defArgs s_law_due, defBody s_law_due, defScope s_law_due, [], []⟩
abbrev s_law_told : Stmt := top 59
theorem sc_law_told : FnScope ["_law_kind", "_law_q", "_law_width_here", "_law_x", "e"] ["_law_kind", "_law_q", "_law_width_here", "_law_x"] (defScope s_law_told) := ⟨rfl, rfl, rfl, by decide +kernel, rfl, by decide +kernel, by decide +kernel⟩
def d_law_told : He.DefD := ⟨("_law_told", none), "_law_told", "_law_told", defArgs s_law_told, defBody s_law_told, defScope s_law_told, [], []⟩
abbrev s_law_refused : Stmt := top 60
theorem sc_law_refused : FnScope ["_law_store", "_law_q", "_law_width_here", "_law_bad_width", "_law_bad_value", "_law_rows", "_law_row", "_law_kind"] ["_law_store", "_law_q", "_law_width_here"] (defScope s_law_refused) := ⟨rfl, rfl, rfl, by decide +kernel, rfl, by decide +kernel, by decide +kernel⟩
def d_law_refused : He.DefD := ⟨("_law_refused", none), "_law_refused", "_law_refused", defArgs s_law_refused, defBody s_law_refused, defScope s_law_refused, [], []⟩
abbrev s_law_bounded : Stmt := top 61
theorem sc_law_bounded : FnScope ["_law_q", "_law_width_here", "_law_spots_here", "_law_many", "_law_bound", "_law_exact", "_law_worst", "_law_x", "_law_error"] ["_law_q", "_law_width_here", "_law_spots_here"] (defScope s_law_bounded) := ⟨rfl, rfl, rfl, by decide +kernel, rfl, by decide +kernel, by decide +kernel⟩
def d_law_bounded : He.DefD := ⟨("_law_bounded", none), "_law_bounded", "_law_bounded", defArgs s_law_bounded, defBody s_law_bounded, defScope s_law_bounded, [], []⟩
abbrev s_law : Stmt := top 62
theorem sc_law : FnScope ["_law_script", "_law_store", "_law_q", "_law_width_here", "_law_spots_here", "_law_other_q", "_law_other_width"] ["_law_script"] (defScope s_law) := ⟨rfl, rfl, rfl, by decide +kernel, rfl, by decide +kernel, by decide +kernel⟩
def d_law : He.DefD := ⟨("law", none), "law", "law", defArgs s_law, defBody s_law, defScope s_law, [], []⟩
def fn : List He.DefD := [
  d_OutOfRange___init__, d_whole, d_check_any, d_check_within, d_check_modulus, d_centred_form, d_centred, d_is_whole,
  d_need_integer, d_need_modulus_and_width, d_code_of, d_residue_of, d_error_of, d_press_error, d_press_bound, d_presses_exactly,
  d_law_begin, d_law_mixed, d_law_take, d_law_wide, d_law_pick, d_law_between, d_law_other, d_law_beyond,
  d_law_same, d_law_whole, d_law_within, d_law_odd, d_law_bad_odd, d_law_width, d_law_tell, d_law_width_for,
  d_law_spots, d_law_near, d_law_due, d_law_told, d_law_refused, d_law_bounded, d_law]
def fa : List He.Fa := [
  .glo "NoiseboundError", .glo "OutOfRange", .glo "BadItem", .glo "BadLength", .glo "BadText", .glo "BadPadding",
  .glo "WrongPhase", .glo "NotInvertible", .glo "BadRing", .glo "BadParameters", .glo "UnknownName", .glo "DifferentRings",
  .glo "BadKey", .glo "BadLetter", .glo "BadKeyText", .glo "BadRecord", .glo "BadCommand", .glo "NoEntry",
  .glo "NothingLeft", .glo "whole", .glo "check_any", .glo "check_within", .glo "check_modulus", .glo "centred_form",
  .glo "centred", .glo "is_whole", .glo "need_integer", .glo "need_modulus_and_width", .glo "code_of", .glo "residue_of",
  .glo "error_of", .glo "press_error", .glo "press_bound", .glo "presses_exactly", .glo "_law_begin", .glo "_law_mixed",
  .glo "_law_take", .glo "_law_wide", .glo "_law_pick", .glo "_law_between", .glo "_law_other", .glo "_law_beyond",
  .glo "_law_same", .glo "_law_whole", .glo "_law_within", .glo "_law_odd", .glo "_law_bad_odd", .glo "_law_width",
  .glo "_law_tell", .glo "_law_width_for", .glo "_law_spots", .glo "_law_near", .glo "_law_due", .glo "_law_told",
  .glo "_law_refused", .glo "_law_bounded", .glo "law", .free "ValueError", .free "abs", .free "bool",
  .free "int", .free "isinstance", .free "len", .free "list", .free "max", .free "min",
  .free "range", .free "str", .free "tuple", .int "LARGEST" 4095]
def errNames : List Str := [
  "NoiseboundError", "OutOfRange", "BadItem", "BadLength", "BadText", "BadPadding", "WrongPhase", "NotInvertible",
  "BadRing", "BadParameters", "UnknownName", "DifferentRings", "BadKey", "BadLetter", "BadKeyText", "BadRecord",
  "BadCommand", "NoEntry", "NothingLeft"]
def exB (K : PySem.W.Frag) : Bool :=
  errB K errNames "NoiseboundError" "OutOfRange" ["name"]
structure Txt (K : PySem.W.Frag) (mg : Str → Option Value) : Prop where
  d : He.SaysD fa fn K
  g_NoiseboundError : mg "NoiseboundError" = some (.ref (ga K "NoiseboundError"))
  g_OutOfRange : mg "OutOfRange" = some (.ref (ga K "OutOfRange"))
  g_BadItem : mg "BadItem" = some (.ref (ga K "BadItem"))
  g_BadLength : mg "BadLength" = some (.ref (ga K "BadLength"))
  g_BadText : mg "BadText" = some (.ref (ga K "BadText"))
  g_BadPadding : mg "BadPadding" = some (.ref (ga K "BadPadding"))
  g_WrongPhase : mg "WrongPhase" = some (.ref (ga K "WrongPhase"))
  g_NotInvertible : mg "NotInvertible" = some (.ref (ga K "NotInvertible"))
  g_BadRing : mg "BadRing" = some (.ref (ga K "BadRing"))
  g_BadParameters : mg "BadParameters" = some (.ref (ga K "BadParameters"))
  g_UnknownName : mg "UnknownName" = some (.ref (ga K "UnknownName"))
  g_DifferentRings : mg "DifferentRings" = some (.ref (ga K "DifferentRings"))
  g_BadKey : mg "BadKey" = some (.ref (ga K "BadKey"))
  g_BadLetter : mg "BadLetter" = some (.ref (ga K "BadLetter"))
  g_BadKeyText : mg "BadKeyText" = some (.ref (ga K "BadKeyText"))
  g_BadRecord : mg "BadRecord" = some (.ref (ga K "BadRecord"))
  g_BadCommand : mg "BadCommand" = some (.ref (ga K "BadCommand"))
  g_NoEntry : mg "NoEntry" = some (.ref (ga K "NoEntry"))
  g_NothingLeft : mg "NothingLeft" = some (.ref (ga K "NothingLeft"))
  g_whole : mg "whole" = some (.ref (ga K "whole"))
  g_check_any : mg "check_any" = some (.ref (ga K "check_any"))
  g_check_within : mg "check_within" = some (.ref (ga K "check_within"))
  g_check_modulus : mg "check_modulus" = some (.ref (ga K "check_modulus"))
  g_centred_form : mg "centred_form" = some (.ref (ga K "centred_form"))
  g_centred : mg "centred" = some (.ref (ga K "centred"))
  g_is_whole : mg "is_whole" = some (.ref (ga K "is_whole"))
  g_need_integer : mg "need_integer" = some (.ref (ga K "need_integer"))
  g_need_modulus_and_width : mg "need_modulus_and_width" = some (.ref (ga K "need_modulus_and_width"))
  g_code_of : mg "code_of" = some (.ref (ga K "code_of"))
  g_residue_of : mg "residue_of" = some (.ref (ga K "residue_of"))
  g_error_of : mg "error_of" = some (.ref (ga K "error_of"))
  g_press_error : mg "press_error" = some (.ref (ga K "press_error"))
  g_press_bound : mg "press_bound" = some (.ref (ga K "press_bound"))
  g_presses_exactly : mg "presses_exactly" = some (.ref (ga K "presses_exactly"))
  g__law_begin : mg "_law_begin" = some (.ref (ga K "_law_begin"))
  g__law_mixed : mg "_law_mixed" = some (.ref (ga K "_law_mixed"))
  g__law_take : mg "_law_take" = some (.ref (ga K "_law_take"))
  g__law_wide : mg "_law_wide" = some (.ref (ga K "_law_wide"))
  g__law_pick : mg "_law_pick" = some (.ref (ga K "_law_pick"))
  g__law_between : mg "_law_between" = some (.ref (ga K "_law_between"))
  g__law_other : mg "_law_other" = some (.ref (ga K "_law_other"))
  g__law_beyond : mg "_law_beyond" = some (.ref (ga K "_law_beyond"))
  g__law_same : mg "_law_same" = some (.ref (ga K "_law_same"))
  g__law_whole : mg "_law_whole" = some (.ref (ga K "_law_whole"))
  g__law_within : mg "_law_within" = some (.ref (ga K "_law_within"))
  g__law_odd : mg "_law_odd" = some (.ref (ga K "_law_odd"))
  g__law_bad_odd : mg "_law_bad_odd" = some (.ref (ga K "_law_bad_odd"))
  g__law_width : mg "_law_width" = some (.ref (ga K "_law_width"))
  g__law_tell : mg "_law_tell" = some (.ref (ga K "_law_tell"))
  g__law_width_for : mg "_law_width_for" = some (.ref (ga K "_law_width_for"))
  g__law_spots : mg "_law_spots" = some (.ref (ga K "_law_spots"))
  g__law_near : mg "_law_near" = some (.ref (ga K "_law_near"))
  g__law_due : mg "_law_due" = some (.ref (ga K "_law_due"))
  g__law_told : mg "_law_told" = some (.ref (ga K "_law_told"))
  g__law_refused : mg "_law_refused" = some (.ref (ga K "_law_refused"))
  g__law_bounded : mg "_law_bounded" = some (.ref (ga K "_law_bounded"))
  g_law : mg "law" = some (.ref (ga K "law"))
  b_ValueError : mg "ValueError" = none
  b_abs : mg "abs" = none
  b_bool : mg "bool" = none
  b_int : mg "int" = none
  b_isinstance : mg "isinstance" = none
  b_len : mg "len" = none
  b_list : mg "list" = none
  b_max : mg "max" = none
  b_min : mg "min" = none
  b_range : mg "range" = none
  b_str : mg "str" = none
  b_tuple : mg "tuple" = none
  c_LARGEST : ∃ t, mg "LARGEST" = some (.int 4095 t)
  e_OutOfRange : ErrT K errNames "NoiseboundError" "OutOfRange" ["name"]
theorem txt_of {K : PySem.W.Frag} {h : Heap} {mg : Str → Option Value} (X : K.In h) (G : h.Ns mainGlobals mg) (c : He.SaysD fa fn K) (e : exB K = true) : Txt K mg := by
  unfold exB at e
  have e0 := e
  exact {
    d := c
    g_NoiseboundError := He.glo_ok X G (c.fact 0 rfl)
    g_OutOfRange := He.glo_ok X G (c.fact 1 rfl)
    g_BadItem := He.glo_ok X G (c.fact 2 rfl)
    g_BadLength := He.glo_ok X G (c.fact 3 rfl)
    g_BadText := He.glo_ok X G (c.fact 4 rfl)
    g_BadPadding := He.glo_ok X G (c.fact 5 rfl)
    g_WrongPhase := He.glo_ok X G (c.fact 6 rfl)
    g_NotInvertible := He.glo_ok X G (c.fact 7 rfl)
    g_BadRing := He.glo_ok X G (c.fact 8 rfl)
    g_BadParameters := He.glo_ok X G (c.fact 9 rfl)
    g_UnknownName := He.glo_ok X G (c.fact 10 rfl)
    g_DifferentRings := He.glo_ok X G (c.fact 11 rfl)
    g_BadKey := He.glo_ok X G (c.fact 12 rfl)
    g_BadLetter := He.glo_ok X G (c.fact 13 rfl)
    g_BadKeyText := He.glo_ok X G (c.fact 14 rfl)
    g_BadRecord := He.glo_ok X G (c.fact 15 rfl)
    g_BadCommand := He.glo_ok X G (c.fact 16 rfl)
    g_NoEntry := He.glo_ok X G (c.fact 17 rfl)
    g_NothingLeft := He.glo_ok X G (c.fact 18 rfl)
    g_whole := He.glo_ok X G (c.fact 19 rfl)
    g_check_any := He.glo_ok X G (c.fact 20 rfl)
    g_check_within := He.glo_ok X G (c.fact 21 rfl)
    g_check_modulus := He.glo_ok X G (c.fact 22 rfl)
    g_centred_form := He.glo_ok X G (c.fact 23 rfl)
    g_centred := He.glo_ok X G (c.fact 24 rfl)
    g_is_whole := He.glo_ok X G (c.fact 25 rfl)
    g_need_integer := He.glo_ok X G (c.fact 26 rfl)
    g_need_modulus_and_width := He.glo_ok X G (c.fact 27 rfl)
    g_code_of := He.glo_ok X G (c.fact 28 rfl)
    g_residue_of := He.glo_ok X G (c.fact 29 rfl)
    g_error_of := He.glo_ok X G (c.fact 30 rfl)
    g_press_error := He.glo_ok X G (c.fact 31 rfl)
    g_press_bound := He.glo_ok X G (c.fact 32 rfl)
    g_presses_exactly := He.glo_ok X G (c.fact 33 rfl)
    g__law_begin := He.glo_ok X G (c.fact 34 rfl)
    g__law_mixed := He.glo_ok X G (c.fact 35 rfl)
    g__law_take := He.glo_ok X G (c.fact 36 rfl)
    g__law_wide := He.glo_ok X G (c.fact 37 rfl)
    g__law_pick := He.glo_ok X G (c.fact 38 rfl)
    g__law_between := He.glo_ok X G (c.fact 39 rfl)
    g__law_other := He.glo_ok X G (c.fact 40 rfl)
    g__law_beyond := He.glo_ok X G (c.fact 41 rfl)
    g__law_same := He.glo_ok X G (c.fact 42 rfl)
    g__law_whole := He.glo_ok X G (c.fact 43 rfl)
    g__law_within := He.glo_ok X G (c.fact 44 rfl)
    g__law_odd := He.glo_ok X G (c.fact 45 rfl)
    g__law_bad_odd := He.glo_ok X G (c.fact 46 rfl)
    g__law_width := He.glo_ok X G (c.fact 47 rfl)
    g__law_tell := He.glo_ok X G (c.fact 48 rfl)
    g__law_width_for := He.glo_ok X G (c.fact 49 rfl)
    g__law_spots := He.glo_ok X G (c.fact 50 rfl)
    g__law_near := He.glo_ok X G (c.fact 51 rfl)
    g__law_due := He.glo_ok X G (c.fact 52 rfl)
    g__law_told := He.glo_ok X G (c.fact 53 rfl)
    g__law_refused := He.glo_ok X G (c.fact 54 rfl)
    g__law_bounded := He.glo_ok X G (c.fact 55 rfl)
    g_law := He.glo_ok X G (c.fact 56 rfl)
    b_ValueError := He.free_ok X G (c.fact 57 rfl)
    b_abs := He.free_ok X G (c.fact 58 rfl)
    b_bool := He.free_ok X G (c.fact 59 rfl)
    b_int := He.free_ok X G (c.fact 60 rfl)
    b_isinstance := He.free_ok X G (c.fact 61 rfl)
    b_len := He.free_ok X G (c.fact 62 rfl)
    b_list := He.free_ok X G (c.fact 63 rfl)
    b_max := He.free_ok X G (c.fact 64 rfl)
    b_min := He.free_ok X G (c.fact 65 rfl)
    b_range := He.free_ok X G (c.fact 66 rfl)
    b_str := He.free_ok X G (c.fact 67 rfl)
    b_tuple := He.free_ok X G (c.fact 68 rfl)
    c_LARGEST := He.int_ok X G (c.fact 69 rfl)
    e_OutOfRange := errB_ok e0
  }
end NB

namespace NB
open PySem PySem.Spec PyProof.Rows L2
open He (ga ma)
local macro_rules | `(tactic| walk_at "nb.side") => `(tactic| first
  | assumption
  | decide
  | omega
  | exact mulR (by omega) (by omega)
  | exact mulL (by omega) (by omega)
  | exact divS (by omega) (by omega)
  | exact powS (by omega) (by omega) (by omega) (by omega)
  | exact shlS (by omega) (by omega) (by omega) (by omega))
local macro_rules | `(tactic| walk_at "nb.len") => `(tactic| first
  | decide
  | (simp only [List.length_cons, List.length_nil, List.length_append, List.length_map, List.length_replicate]; first | decide | omega)
  | (refine ⟨?_, ?_⟩ <;> (simp only [List.length_cons, List.length_nil, List.length_append, List.length_map, List.length_replicate]; first | decide | omega)))
local macro_rules | `(tactic| walk_at "nb.hp") => `(tactic| first
  | assumption
  | exact upd_same
  | ((with_reducible apply upd_old); (focus first | assumption | walk_at "nb.free"); walk_at "nb.hp")
  | ((with_reducible apply upd_other); (focus first | assumption | exact Ne.symm (by assumption)); walk_at "nb.hp")
  | ((with_reducible apply ext_at); (focus assumption); walk_at "nb.hp")
  | ((with_reducible apply exX_at); (focus assumption); (focus first | assumption | exact Ne.symm (by assumption)); walk_at "nb.hp"))
local macro_rules | `(tactic| walk_at "nb.free") => `(tactic| first
  | assumption
  | ((with_reducible apply upd_free); assumption)
  | ((with_reducible apply ext_free); (focus assumption); first | assumption | ((with_reducible apply upd_free); assumption))
  | ((with_reducible apply upd_free); with_reducible apply upd_free; assumption)
  | ((with_reducible apply upd_free); with_reducible apply ext_free; (focus assumption); assumption))
local macro_rules | `(tactic| walk_at "nb.sq") => `(tactic| first
  | assumption
  | ((with_reducible apply sqL_of); walk_at "nb.hp")
  | ((with_reducible apply sqT_of); walk_at "nb.hp")
  | ((with_reducible apply sqL_ext); (focus assumption); walk_at "nb.sq")
  | ((with_reducible apply sqT_ext); (focus assumption); walk_at "nb.sq")
  | ((with_reducible apply sqL_upd); (focus first | assumption | walk_at "nb.free"); walk_at "nb.sq"))
local macro_rules | `(tactic| walk_at "nb.isi") => `(tactic| first
  | with_reducible refine isi_int_int ?_
  | with_reducible refine isi_int_bool ?_
  | with_reducible refine isi_int_str ?_
  | with_reducible refine isi_int_list ?_
  | with_reducible refine isi_int_tuple ?_
  | with_reducible refine isi_bl_int ?_
  | with_reducible refine isi_bl_bool ?_
  | with_reducible refine isi_bl_str ?_
  | with_reducible refine isi_bl_list ?_
  | with_reducible refine isi_bl_tuple ?_
  | with_reducible refine isi_str_int ?_
  | with_reducible refine isi_str_bool ?_
  | with_reducible refine isi_str_str ?_
  | with_reducible refine isi_str_list ?_
  | with_reducible refine isi_str_tuple ?_
  | with_reducible refine isi_non_int ?_
  | with_reducible refine isi_non_bool ?_
  | with_reducible refine isi_non_str ?_
  | with_reducible refine isi_non_list ?_
  | with_reducible refine isi_non_tuple ?_
  | ((with_reducible apply isi_lst_int); (focus walk_at "nb.hp"))
  | ((with_reducible apply isi_lst_bool); (focus walk_at "nb.hp"))
  | ((with_reducible apply isi_lst_str); (focus walk_at "nb.hp"))
  | ((with_reducible apply isi_lst_list); (focus walk_at "nb.hp"))
  | ((with_reducible apply isi_lst_tuple); (focus walk_at "nb.hp"))
  | ((with_reducible apply isi_tup_int); (focus walk_at "nb.hp"))
  | ((with_reducible apply isi_tup_bool); (focus walk_at "nb.hp"))
  | ((with_reducible apply isi_tup_str); (focus walk_at "nb.hp"))
  | ((with_reducible apply isi_tup_list); (focus walk_at "nb.hp"))
  | ((with_reducible apply isi_tup_tuple); (focus walk_at "nb.hp")))
local macro_rules | `(tactic| walk_at "nb.s") => `(tactic| repeat (first
  | with_reducible refine i_var rfl ?_
  | with_reducible refine i_c ?_
  | with_reducible refine i_op ?_
  | with_reducible refine i_cons ?_
  | with_reducible refine i_nil ?_
  | with_reducible refine i_seq ?_
  | with_reducible refine i_asg ?_
  | with_reducible refine i_name ?_
  | with_reducible refine i_if ?_
  | with_reducible refine i_test ?_
  | with_reducible refine i_bl ?_
  | with_reducible refine i_cb ?_
  | with_reducible refine i_ret ?_
  | with_reducible refine i_next ?_
  | with_reducible refine i_call ?_
  | with_reducible refine i_callS ?_
  | with_reducible refine i_callP ?_
  | with_reducible refine i_kw ?_
  | with_reducible refine i_errF ?_
  | with_reducible refine i_kwP ?_
  | with_reducible refine i_T ?_
  | with_reducible refine i_F ?_
  | with_reducible refine i_nT ?_
  | with_reducible refine i_nF ?_
  | with_reducible refine i_add ?_
  | with_reducible refine i_sub ?_
  | with_reducible refine i_mul (by walk_at "nb.side") ?_
  | with_reducible refine i_div (by walk_at "nb.side") ?_
  | with_reducible refine i_mod (by walk_at "nb.side") ?_
  | with_reducible refine i_lt ?_
  | with_reducible refine i_le ?_
  | with_reducible refine i_gt ?_
  | with_reducible refine i_ge ?_
  | with_reducible refine i_eqI ?_
  | with_reducible refine i_neI ?_
  | with_reducible refine i_eqS ?_
  | with_reducible refine i_eqB ?_
  | with_reducible refine i_and2 ?_
  | with_reducible refine i_or2 ?_
  | with_reducible refine i_not ?_
  | with_reducible refine i_andV ?_
  | with_reducible refine i_orV ?_
  | with_reducible refine i_notV ?_
  | with_reducible refine i_B ?_
  | with_reducible refine i_un ?_
  | with_reducible refine i_neg ?_
  | with_reducible refine i_pow (by walk_at "nb.side") ?_
  | with_reducible refine i_shl (by walk_at "nb.side") ?_
  | with_reducible refine i_shr (by walk_at "nb.side") ?_
  | with_reducible refine i_and ?_
  | with_reducible refine i_or ?_
  | with_reducible refine i_xor ?_
  | with_reducible refine i_max2 ?_
  | with_reducible refine i_min2 ?_
  | with_reducible refine i_abs ?_
  | with_reducible refine i_int ?_
  | with_reducible refine i_intB ?_
  | with_reducible refine i_isN ?_
  | with_reducible refine i_isB ?_
  | with_reducible refine i_ifE ?_
  | with_reducible refine i_chain ?_
  | with_reducible refine i_brk ?_
  | with_reducible refine i_drop ?_
  | with_reducible refine i_sub1 ?_
  | with_reducible refine i_tup ?_
  | with_reducible refine i_lst ?_
  | with_reducible refine i_size (by walk_at "nb.len") ?_
  | with_reducible refine i_mkO ?_
  | with_reducible refine i_inv ?_
  | with_reducible refine i_forR1 ?_
  | with_reducible refine i_forR2 ?_
  | with_reducible refine i_forL ?_
  | with_reducible refine i_lcR1 ?_
  | with_reducible refine i_lcR2 ?_
  | with_reducible refine i_lcL ?_
  | with_reducible refine i_lrg ?_
  | with_reducible refine i_rg1 ?_
  | with_reducible refine i_rg2 ?_
  | with_reducible refine i_bits ?_
  | with_reducible refine i_bmL ?_
  | with_reducible refine i_sl ?_
  | with_reducible refine i_noP ?_
  | with_reducible refine i_part ?_
  | with_reducible refine i_isInt ?_
  | with_reducible refine i_isInt2 ?_
  | ((with_reducible apply i_ixL0); (focus walk_at "nb.sq"))
  | ((with_reducible apply i_ixT0); (focus walk_at "nb.sq"))
  | ((with_reducible apply i_set0); (focus walk_at "nb.hp"))
  | ((with_reducible apply i_ixL1); (focus walk_at "nb.sq"))
  | ((with_reducible apply i_ixT1); (focus walk_at "nb.sq"))
  | ((with_reducible apply i_set1); (focus walk_at "nb.hp"))
  | ((with_reducible apply i_ixL2); (focus walk_at "nb.sq"))
  | ((with_reducible apply i_ixT2); (focus walk_at "nb.sq"))
  | ((with_reducible apply i_set2); (focus walk_at "nb.hp"))
  | ((with_reducible apply i_ixL3); (focus walk_at "nb.sq"))
  | ((with_reducible apply i_ixT3); (focus walk_at "nb.sq"))
  | ((with_reducible apply i_set3); (focus walk_at "nb.hp"))
  | ((with_reducible apply i_ixL4); (focus walk_at "nb.sq"))
  | ((with_reducible apply i_ixT4); (focus walk_at "nb.sq"))
  | ((with_reducible apply i_set4); (focus walk_at "nb.hp"))
  | ((with_reducible apply i_ixL5); (focus walk_at "nb.sq"))
  | ((with_reducible apply i_ixT5); (focus walk_at "nb.sq"))
  | ((with_reducible apply i_set5); (focus walk_at "nb.hp"))
  | ((with_reducible apply i_ixL6); (focus walk_at "nb.sq"))
  | ((with_reducible apply i_ixT6); (focus walk_at "nb.sq"))
  | ((with_reducible apply i_ixL7); (focus walk_at "nb.sq"))
  | ((with_reducible apply i_ixT7); (focus walk_at "nb.sq"))
  | ((with_reducible apply i_lenL); (focus walk_at "nb.sq"))
  | ((with_reducible apply i_tyL); (focus walk_at "nb.sq"))
  | (refine (id (α := rIsi _ _ _ _) ?_); walk_at "nb.isi")
  | ((with_reducible apply i_lenT); (focus walk_at "nb.sq"))))
section
variable {P : Program} {w : World} {K : PySem.W.Frag} {mg : Str → Option Value} {base : Heap}
theorem len_OutOfRange___init__ {vs : List V} {H : Hp} {Q : VK} {E : XK} (h : spInit1 (ga K "OutOfRange") "name" vs H Q E) : vs.length = 2 := by
  obtain ⟨a, v, rfl, _⟩ := h
  rfl
theorem ok_OutOfRange___init__ (T : Txt K mg) : Good P w K mg base 1 (ma K (ga K "OutOfRange") "__init__") ["self", "name"] (spInit1 (ga K "OutOfRange") "name") := by
  obtain ⟨fd, F⟩ := T.d.def_ 0 (d := d_OutOfRange___init__) rfl
  have b := F.bindsN (ps := ["self", "name"]) fun _ _ _ _ _ _ us hl => match us, hl with | [_, _], _ => rfl
  refine ⟨fd, F.ok sc_OutOfRange___init__ (fun vs H Q E h => len_OutOfRange___init__ h) (fun cdv A outer s H vs Q E hr h => ⟨_, PSs.nox ((pss_one (ps_ost (pv 0) (pv 1)))), ?_⟩), b, F.kp, fun_at F⟩
  obtain ⟨a, v, rfl, ha, k⟩ := h
  exact ⟨_, rfl, _, rfl, a, _, rfl, T.e_OutOfRange.o, T.e_OutOfRange.n _ (by decide), .inl ⟨ha, fun dx hn ne => k dx hn ne⟩⟩
/-- the law's store of draws, at st -/
abbrev StoreAt (H : Hp) (st l : Addr) : Prop := ∃ (ns : List Int) (c1 c2 c3 c4 c5 : Int), H st = some (.lst [.ref l, .int c1, .int c2, .int c3, .int c4, .int c5]) ∧ l ≠ st ∧ H l = some (.lst (ns.map V.int)) ∧ 0 ≤ c1
def StoreOk (H : Hp) (st : Addr) : Prop := ∃ l : Addr, StoreAt H st l
theorem StoreAt.ext {H H' : Hp} {st l : Addr} (e : Ext H H') (h : StoreAt H st l) : StoreAt H' st l := by
  obtain ⟨ns, c1, c2, c3, c4, c5, h1, h2, h3, h4⟩ := h
  exact ⟨ns, c1, c2, c3, c4, c5, e _ _ h1, h2, e _ _ h3, h4⟩
theorem StoreOk.ext {H H' : Hp} {st : Addr} (e : Ext H H') (h : StoreOk H st) : StoreOk H' st := by
  obtain ⟨l, ns, c1, c2, c3, c4, c5, h1, h2, h3, h4⟩ := h
  exact ⟨l, ns, c1, c2, c3, c4, c5, e _ _ h1, h2, e _ _ h3, h4⟩
theorem StoreOk.some {H : Hp} {st : Addr} (h : StoreOk H st) : ∃ o, H st = Option.some o := by
  obtain ⟨l, ns, c1, c2, c3, c4, c5, h1, _⟩ := h
  exact ⟨_, h1⟩
theorem StoreOk.ne {H : Hp} {st p : Addr} (h : StoreOk H st) (n : H p = none) : p ≠ st := by
  obtain ⟨o, e⟩ := h.some
  exact (ne_of_none e n).symm
theorem StoreOk.upd {H : Hp} {st p : Addr} {o : HO} (h : StoreOk H st) (n : H p = none) : StoreOk (L2.upd H p o) st := h.ext (Ext.new n)
/-- a def that draws: what it leaves -/
structure Drew (H : Hp) (st : Addr) (H' : Hp) : Prop where
  x : ExX st H H'
  o : StoreOk H' st
  l : ∀ l, StoreAt H st l → StoreAt H' st l
theorem Drew.trans {H H1 H2 : Hp} {st : Addr} (a : Drew H st H1) (b : Drew H1 st H2) : Drew H st H2 := ⟨a.1.trans b.1, b.2, fun l h => b.3 l (a.3 l h)⟩
theorem Drew.then {H H1 H2 : Hp} {st : Addr} (a : Drew H st H1) (b : Ext H1 H2) : Drew H st H2 := ⟨a.1.ext b, a.2.ext b, fun l h => (a.3 l h).ext b⟩
theorem Drew.refl {H : Hp} {st : Addr} (h : StoreOk H st) : Drew H st H := ⟨.refl _ _, h, fun _ h => h⟩
theorem Drew.of {H H' : Hp} {st : Addr} (h : StoreOk H st) (e : Ext H H') : Drew H st H' := (Drew.refl h).then e
theorem Drew.mk' {H H' : Hp} {st l : Addr} {r : List V} (h1 : H st = Option.some (.lst (.ref l :: r))) (x : ExX st H H') (a : StoreAt H' st l) : Drew H st H' := ⟨x, ⟨l, a⟩, fun l' h' => by
  obtain ⟨ns, c1, c2, c3, c4, c5, e, _⟩ := h'
  rw [h1] at e
  cases e
  exact a⟩
theorem Drew.ne {H H' : Hp} {st p : Addr} (d : Drew H st H') (n : H' p = none) : p ≠ st := d.2.ne n
/-- a new list at the end of what was drawn -/
theorem Drew.new {H H' : Hp} {st p : Addr} {o : HO} (d : Drew H st H') (n : H' p = none) : Drew H st (L2.upd H' p o) := d.then (.new n)
theorem Drew.mut {H H' : Hp} {st D : Addr} {o : HO} (ho : StoreOk H st) (d : Drew H st H') (hD : H D = none) : Drew H st (L2.upd H' D o) := by
  obtain ⟨l, hl⟩ := ho
  have hne : D ≠ st := StoreOk.ne ⟨l, hl⟩ hD
  obtain ⟨ns0, _, _, _, _, _, h1, _, h3, _⟩ := _root_.id hl
  obtain ⟨ns, c1, c2, c3, c4, c5, g1, g2, g3, g4⟩ := d.3 l hl
  refine Drew.mk' h1 (d.1.mut hD) ⟨ns, c1, c2, c3, c4, c5, ?_, g2, ?_, g4⟩
  · rw [upd_ne hne.symm]
    exact g1
  · rw [upd_ne (ne_of_none h3 hD)]
    exact g3
theorem keeps_drew {H : Hp} {st : Addr} (ho : StoreOk H st) : Keeps H (Drew H st) := ⟨.refl ho, fun D H' o hD d => d.mut ho hD⟩
def spBegin (K : PySem.W.Frag) : Sp := fun vs H Q _ => ∃ (a : Addr) (ns : List Int), vs = [.ref a] ∧ SqL K H a (ns.map V.int) ∧ ∀ st H', Ext H H' → H st = none → StoreOk H' st → Q (.ref st) H' 
theorem len_law_begin {K : PySem.W.Frag} {vs : List V} {H : Hp} {Q : VK} {E : XK} (h : spBegin K vs H Q E) : vs.length = 1 := by
  obtain ⟨_, _, rfl, _⟩ := h
  rfl
theorem ok_law_begin (T : Txt K mg) : Good P w K mg base 1 (ga K "_law_begin") ["_law_script"] (spBegin K) := by
  obtain ⟨fd, F⟩ := T.d.def_ 16 (d := d_law_begin) rfl
  have b := F.bindsN (ps := ["_law_script"]) fun _ _ _ _ _ _ us hl => match us, hl with | [_], _ => rfl
  refine ⟨fd, F.ok sc_law_begin (fun vs H Q E h => len_law_begin h) (fun cdv A outer s H vs Q E hr h => ⟨_, PSs.nox ((pss_one (ps_ret (pe_lst (pa_cons (pe_callTy (kList) (by rfl) T.b_list (by decide +kernel) (pa_cons (pv 0) pa_nil)) (pa_cons pe_int (pa_cons pe_int (pa_cons pe_int (pa_cons pe_int (pa_cons pe_int pa_nil)))))))))), ?_⟩), b, F.kp, fun_at F⟩
  obtain ⟨a, ns, rfl, hS, k⟩ := h
  walk_at "nb.s"
  refine i_listL hS fun l hl => ?_
  walk_at "nb.s"
  refine fun p hp => ?_
  have e1 : Ext H (upd H l (.lst (ns.map V.int))) := .new hl
  refine k p _ (e1.trans (.new hp)) (e1.free hp) ⟨l, ns, _, _, _, _, _, upd_same, ?_, upd_old hp upd_same, ?_⟩
  · exact ne_of_none upd_same hp
  · decide
def spMixed : Sp := fun vs H Q _ => ∃ (a b : Int), vs = [.int a, .int b] ∧ ∀ n : Int, 0 ≤ n → n < 2305843009213693951 → Q (.int n) H
theorem len_law_mixed {vs : List V} {H : Hp} {Q : VK} {E : XK} (h : spMixed vs H Q E) : vs.length = 2 := by
  obtain ⟨_, _, rfl, _⟩ := h
  rfl
theorem ok_law_mixed (T : Txt K mg) : Good P w K mg base 1 (ga K "_law_mixed") ["_law_seed", "_law_turn"] spMixed := by
  obtain ⟨fd, F⟩ := T.d.def_ 17 (d := d_law_mixed) rfl
  have b := F.bindsN (ps := ["_law_seed", "_law_turn"]) fun _ _ _ _ _ _ us hl => match us, hl with | [_, _], _ => rfl
  refine ⟨fd, F.ok sc_law_mixed (fun vs H Q E h => len_law_mixed h) (fun cdv A outer s H vs Q E hr h => ⟨_, PSs.nox ((pss_cons (ps_set (i := 2) sc_law_mixed.nd rfl (Or.inl rfl) (pe_op oAdd (pe_op oMul (pe_op oMod (pe_callTy (kInt) (by rfl) T.b_int (by decide +kernel) (pa_cons (pv 0) pa_nil)) pe_int) pe_int) (pe_op oMul (pe_op oMod (pe_callTy (kInt) (by rfl) T.b_int (by decide +kernel) (pa_cons (pv 1) pa_nil)) pe_int) pe_int))) (pss_cons (ps_set (i := 2) sc_law_mixed.nd rfl (Or.inl rfl) (pe_op oMod (pe_callTy (kInt) (by rfl) T.b_int (by decide +kernel) (pa_cons (pe_op oAdd (pv 2) pe_int) pa_nil)) pe_int)) (pss_cons (ps_set (i := 2) sc_law_mixed.nd rfl (Or.inl rfl) (pe_op oMul (pe_op oXor (pv 2) (pe_op oDiv (pv 2) pe_int)) pe_int)) (pss_cons (ps_set (i := 2) sc_law_mixed.nd rfl (Or.inl rfl) (pe_op oMod (pe_callTy (kInt) (by rfl) T.b_int (by decide +kernel) (pa_cons (pv 2) pa_nil)) pe_int)) (pss_cons (ps_set (i := 2) sc_law_mixed.nd rfl (Or.inl rfl) (pe_op oMul (pe_op oXor (pv 2) (pe_op oDiv (pv 2) pe_int)) pe_int)) (pss_one (ps_ret (pe_op oMod (pe_callTy (kInt) (by rfl) T.b_int (by decide +kernel) (pa_cons (pv 2) pa_nil)) pe_int))))))))), ?_⟩), b, F.kp, fun_at F⟩
  obtain ⟨a, b, rfl, k⟩ := h
  have z0 : ∀ i : Int, 0 ≤ i % 2305843009213693951 := fun i => Int.emod_nonneg _ (by decide)
  have z1 : ∀ i : Int, i % 2305843009213693951 < 2305843009213693951 := fun i => Int.emod_lt_of_pos _ (by decide)
  walk_at "nb.s"
  exact k _ (z0 _) (z1 _)
theorem max1 (m : Int) : 0 < (if m > 1 then m else 1) := by split <;> omega
theorem if_neg_or_pos {m : Int} (h : 0 < m) : (if m > 1 then m else 1) = m := by split <;> omega
def drawMax : Int := 2 ^ 8000
theorem draw_small {m : Int} (h : m ≤ 2 ^ 64) : m ≤ drawMax := by
  have e : (2 : Int) ^ 64 ≤ 2 ^ 8000 := by decide +kernel
  exact Int.le_trans h e
theorem draw_div {m i : Int} (hm : m ≤ drawMax) : CDivW i (if m > 1 then m else 1) := divL (b := 8001) (max1 m) (by
  have e : (2 : Int) ^ 8001 = 2 ^ 8000 * 2 := Int.pow_succ _ _
  have p0 : (0 : Int) < 2 ^ 8000 := Int.pow_pos (by decide)
  unfold drawMax at hm
  rw [e]
  generalize (2 : Int) ^ 8000 = z at hm p0
  split <;> omega) (by decide) (by decide)
/-- the greatest draw that is asked at once has fewer bits than this -/
def spTake : Sp := fun vs H Q _ => ∃ (st : Addr) (many : Int), vs = [.ref st, .int many] ∧ StoreOk H st ∧ many ≤ drawMax ∧ ∀ (n : Int) H', Drew H st H' → 0 ≤ n → n < (if many > 1 then many else 1) → Q (.int n) H'
theorem use_take {st : Addr} {many : Int} {H : Hp} {Q : VK} {E : XK} (h : StoreOk H st) (hm : many ≤ drawMax) (q : ∀ (n : Int) H', Drew H st H' → 0 ≤ n → n < (if many > 1 then many else 1) → Q (.int n) H') : spTake [.ref st, .int many] H Q E := ⟨st, many, rfl, h, hm, q⟩
theorem store_set {H : Hp} {st l : Addr} {ns : List Int} {c1 c2 c3 c4 c5 : Int} (h2 : l ≠ st) (h3 : H l = some (.lst (ns.map V.int))) (h0 : 0 ≤ c1) : StoreAt (upd H st (.lst [.ref l, .int c1, .int c2, .int c3, .int c4, .int c5])) st l :=
  ⟨ns, c1, c2, c3, c4, c5, upd_same, h2, by rw [upd_ne h2]; exact h3, h0⟩
theorem len_law_take {vs : List V} {H : Hp} {Q : VK} {E : XK} (h : spTake vs H Q E) : vs.length = 2 := by
  obtain ⟨_, _, rfl, _⟩ := h
  rfl
theorem ok_law_take (T : Txt K mg) : Good P w K mg base 2 (ga K "_law_take") ["_law_store", "_law_many"] spTake := by
  obtain ⟨fd, F⟩ := T.d.def_ 18 (d := d_law_take) rfl
  have b := F.bindsN (ps := ["_law_store", "_law_many"]) fun _ _ _ _ _ _ us hl => match us, hl with | [_, _], _ => rfl
  obtain ⟨f_law_mixed, G_law_mixed, b_law_mixed, k_law_mixed, l_law_mixed⟩ := ok_law_mixed (P := P) (w := w) (base := base) T
  refine ⟨fd, F.ok sc_law_take (fun vs H Q E h => len_law_take h) (fun cdv A outer s H vs Q E hr h => ⟨_, PSs.nox ((pss_cons (ps_set (i := 2) sc_law_take.nd rfl (Or.inl rfl) (pe_callB (kMax2 rfl) (by rfl) T.b_max (by decide +kernel) (pa_cons pe_int (pa_cons (pv 1) pa_nil)))) (pss_cons (ps_asg (pe_op oAdd (pe_ix ix_list (pv 0) pe_int (fun _ _ => rfl)) pe_int) (pg_sub (pv 0) pe_int set_list)) (Evl.pss_cut (ps_if (PW.pt (pw_and (pt_cmpR op_eq (pe_ix ix_list (pv 0) pe_int (fun _ _ => rfl)) pe_int (nomark _)) (pw_and (pt_cmpR op_eq (pe_ix ix_list (pv 0) pe_int (fun _ _ => rfl)) pe_int (nomark _)) (pw_and1 (pt_cmpR oLt (pe_ix ix_list (pv 0) pe_int (fun _ _ => rfl)) (pe_callB (kLen) (by rfl) T.b_len (by decide +kernel) (pa_cons (pe_ix ix_list (pv 0) pe_int (fun _ _ => rfl)) pa_nil)) (nomark _)))))) (pss_cons (ps_set (i := 3) sc_law_take.nd rfl (Or.inl rfl) (pe_callTy (kInt) (by rfl) T.b_int (by decide +kernel) (pa_cons (pe_ix ix_list (pe_ix ix_list (pv 0) pe_int (fun _ _ => rfl)) (pe_ix ix_list (pv 0) pe_int (fun _ _ => rfl)) (fun _ _ => rfl)) pa_nil))) (pss_cons (ps_asg (pe_op oAdd (pe_ix ix_list (pv 0) pe_int (fun _ _ => rfl)) pe_int) (pg_sub (pv 0) pe_int set_list)) (pss_cons (ps_asg (pe_op oMod (pe_callTy (kInt) (by rfl) T.b_int (by decide +kernel) (pa_cons (pe_op oAdd (pe_op oAdd (pe_op oMul (pe_callTy (kInt) (by rfl) T.b_int (by decide +kernel) (pa_cons (pe_ix ix_list (pv 0) pe_int (fun _ _ => rfl)) pa_nil)) pe_int) (pe_op oMod (pe_callTy (kInt) (by rfl) T.b_int (by decide +kernel) (pa_cons (pv 3) pa_nil)) pe_int)) pe_int) pa_nil)) pe_int) (pg_sub (pv 0) pe_int set_list)) (pss_one (ps_if (pt_cmpR oGe (pv 3) (pe_powC (v := 1000000000000000000) pe_int pe_int (powS (by decide) (by decide) (by decide) (by decide)) (by decide +kernel)) (nomark _)) (pss_one (ps_asg (pv 3) (pg_sub (pv 0) pe_int set_list))) (pss_one (ps_asg pe_int (pg_sub (pv 0) pe_int set_list)))))))) pss_nil) (pss_cons (ps_if (pt_cmpR oGt (pe_ix ix_list (pv 0) pe_int (fun _ _ => rfl)) pe_int (nomark _)) (pss_cons (ps_set (i := 4) sc_law_take.nd rfl (Or.inl rfl) (pe_callTy (kInt) (by rfl) T.b_int (by decide +kernel) (pa_cons (pe_ix ix_list (pv 0) pe_int (fun _ _ => rfl)) pa_nil))) (pss_cons (ps_asg (pe_op oDiv (pv 4) (pv 2)) (pg_sub (pv 0) pe_int set_list)) (pss_one (ps_ret (pe_op oMod (pe_callTy (kInt) (by rfl) T.b_int (by decide +kernel) (pa_cons (pv 4) pa_nil)) (pv 2)))))) pss_nil) (Evl.pss_cut (ps_if (pt_cmpR oGt (pe_ix ix_list (pv 0) pe_int (fun _ _ => rfl)) pe_int (nomark _)) (pss_one (ps_asg (pe_op oSub (pe_ix ix_list (pv 0) pe_int (fun _ _ => rfl)) pe_int) (pg_sub (pv 0) pe_int set_list))) pss_nil) (pss_one (ps_ret (pe_op oMod (pe_callTy (kInt) (by rfl) T.b_int (by decide +kernel) (pa_cons (pe_call G_law_mixed (hr.mono (by decide)) rfl T.g__law_mixed k_law_mixed b_law_mixed .nil passN (pa_cons (pe_ix ix_list (pv 0) pe_int (fun _ _ => rfl)) (pa_cons (pe_ix ix_list (pv 0) pe_int (fun _ _ => rfl)) pa_nil))) pa_nil)) (pv 2)))))))))), ?_⟩), b, F.kp, fun_at F⟩
  obtain ⟨st, many, rfl, ⟨l, ns, c1, c2, c3, c4, c5, h1, hne, h3, h0⟩, hm, k⟩ := h
  have hp := max1 many
  have hdiv : ∀ i : Int, CDivW i (if many > 1 then many else 1) := fun i => draw_div hm
  have hr0 : ∀ i : Int, 0 ≤ i % (if many > 1 then many else 1) := fun i => Int.emod_nonneg _ (by omega)
  have hr1 : ∀ i : Int, i % (if many > 1 then many else 1) < (if many > 1 then many else 1) := fun i => Int.emod_lt_of_pos _ hp
  walk_at "nb.s"
  generalize (if many > 1 then many else 1) = lim at *
  refine ⟨fun σ' H' => ∃ v3 d1 d2 d3 d4 d5, σ' = [some (.ref st), some (.int many), some (.int lim), v3, none] ∧ 0 ≤ d1 ∧ H' st = some (.lst [.ref l, .int d1, .int d2, .int d3, .int d4, .int d5]) ∧ ExX st H H', ?_, ?_⟩
  · have e0 : ∀ o, ExX st H (upd H st o) := fun o => (ExX.refl st H).upd
    walk_at "nb.s"
    refine i_ite (fun h2 => ?_) (fun h2 => ?_)
    · walk_at "nb.s"
      refine i_ite (fun h3 => ?_) (fun h3 => ?_)
      · walk_at "nb.s"
        refine i_ite (fun h4 => ?_) (fun h4 => ?_)
        · obtain ⟨m, rfl⟩ := Int.eq_ofNat_of_zero_le h0
          rw [List.length_map] at h4
          have hm4 : m < ns.length := by omega
          have hx : atI (ns.map V.int) (m : Int) = some (.int (ns[m]'hm4)) := by
            unfold atI
            rw [List.length_map, Evl.ixN_nat hm4, Option.bind_some, List.getElem?_map, List.getElem?_eq_getElem hm4]
            rfl
          walk_at "nb.s"
          refine i_ixL (by walk_at "nb.sq") hx ?_
          walk_at "nb.s"
          refine i_ite (fun h5 => ?_) (fun h5 => ?_)
          · walk_at "nb.s"
            exact ⟨_, _, _, _, _, _, rfl, by omega, upd_same, ((((e0 _).upd).upd).upd)⟩
          · walk_at "nb.s"
            exact ⟨_, _, _, _, _, _, rfl, by omega, upd_same, ((((e0 _).upd).upd).upd)⟩
        · walk_at "nb.s"
          exact ⟨_, _, _, _, _, _, rfl, by omega, upd_same, e0 _⟩
      · walk_at "nb.s"
        exact ⟨_, _, _, _, _, _, rfl, by omega, upd_same, e0 _⟩
    · walk_at "nb.s"
      exact ⟨_, _, _, _, _, _, rfl, by omega, upd_same, e0 _⟩
  · rintro σ' H' ⟨v3, d1, d2, d3, d4, d5, rfl, hd1, hs, x⟩
    walk_at "nb.s"
    refine i_ite (fun h2 => ?_) (fun h2 => ?_)
    · walk_at "nb.s"
      refine i_div (hdiv _) ?_
      walk_at "nb.s"
      exact k _ _ (Drew.mk' h1 x.upd (store_set hne (x _ _ hne h3) hd1)) (hr0 _) (hr1 _)
    · walk_at "nb.s"
      refine ⟨fun σ2 H2 => ∃ d3, σ2 = [some (.ref st), some (.int many), some (.int lim), v3, none] ∧ H2 st = some (.lst [.ref l, .int d1, .int d2, .int d3, .int d4, .int d5]) ∧ ExX st H H2, ?_, ?_⟩
      · walk_at "nb.s"
        refine i_ite (fun h3 => ?_) (fun h3 => ?_)
        · walk_at "nb.s"
          exact ⟨_, rfl, upd_same, x.upd⟩
        · walk_at "nb.s"
          exact ⟨_, rfl, hs, x⟩
      · rintro σ2 H2 ⟨d3, rfl, hs, x⟩
        walk_at "nb.s"
        refine ⟨_, _, rfl, fun n z0 z1 => ?_⟩
        walk_at "nb.s"
        exact k _ _ (Drew.mk' h1 x ⟨ns, d1, d2, d3, d4, d5, hs, hne, x _ _ hne h3, hd1⟩) (hr0 _) (hr1 _)
def spWide : Sp := fun vs H Q _ => ∃ (st : Addr) (many : Int), vs = [.ref st, .int many] ∧ StoreOk H st ∧ ∀ (n : Int) H', Drew H st H' → 0 ≤ n → n < (if many > 1 then many else 1) → Q (.int n) H'
theorem len_law_wide {vs : List V} {H : Hp} {Q : VK} {E : XK} (h : spWide vs H Q E) : vs.length = 2 := by
  obtain ⟨_, _, rfl, _⟩ := h
  rfl
theorem ok_law_wide (T : Txt K mg) : Good P w K mg base 3 (ga K "_law_wide") ["_law_store", "_law_many"] spWide := by
  obtain ⟨fd, F⟩ := T.d.def_ 19 (d := d_law_wide) rfl
  have b := F.bindsN (ps := ["_law_store", "_law_many"]) fun _ _ _ _ _ _ us hl => match us, hl with | [_, _], _ => rfl
  obtain ⟨f_law_take, G_law_take, b_law_take, k_law_take, l_law_take⟩ := ok_law_take (P := P) (w := w) (base := base) T
  refine ⟨fd, F.ok sc_law_wide (fun vs H Q E h => len_law_wide h) (fun cdv A outer s H vs Q E hr h => ⟨_, PSs.nox ((pss_cons (ps_set (i := 2) sc_law_wide.nd rfl (Or.inl rfl) (pe_callB (kMax2 rfl) (by rfl) T.b_max (by decide +kernel) (pa_cons pe_int (pa_cons (pv 1) pa_nil)))) (pss_cons (ps_if (pt_cmpR oLe (pv 2) (pe_powC (v := 1000000000000000) pe_int pe_int (powS (by decide) (by decide) (by decide) (by decide)) (by decide +kernel)) (nomark _)) (pss_one (ps_ret (pe_call G_law_take (hr.mono (by decide)) rfl T.g__law_take k_law_take b_law_take .nil passN (pa_cons (pv 0) (pa_cons (pv 2) pa_nil))))) pss_nil) (pss_cons (ps_set (i := 3) sc_law_wide.nd rfl (Or.inl rfl) pe_int) (pss_cons (ps_set (i := 4) sc_law_wide.nd rfl (Or.inl rfl) pe_int) (pss_cons (ps_for PassesOwn.never rfl (pi_range1 rfl T.b_range (pa_cons pe_int pa_nil)) (pg_name (i := 5) sc_law_wide.nd rfl (Or.inl rfl)) (pss_cons (ps_if (pt_cmpR oGe (pv 4) (pv 2) (nomark _)) (pss_one ps_break) pss_nil) (pss_cons (ps_set (i := 3) sc_law_wide.nd rfl (Or.inl rfl) (pe_op oAdd (pe_op oMul (pv 3) (pe_powC (v := 1000000000000000) pe_int pe_int (powS (by decide) (by decide) (by decide) (by decide)) (by decide +kernel))) (pe_call G_law_take (hr.mono (by decide)) rfl T.g__law_take k_law_take b_law_take .nil passN (pa_cons (pv 0) (pa_cons (pe_powC (v := 1000000000000000) pe_int pe_int (powS (by decide) (by decide) (by decide) (by decide)) (by decide +kernel)) pa_nil))))) (pss_one (ps_set (i := 4) sc_law_wide.nd rfl (Or.inl rfl) (pe_op oMul (pv 4) (pe_powC (v := 1000000000000000) pe_int pe_int (powS (by decide) (by decide) (by decide) (by decide)) (by decide +kernel)))))))) (pss_one (ps_ret (pe_op oMod (pe_callTy (kInt) (by rfl) T.b_int (by decide +kernel) (pa_cons (pv 3) pa_nil)) (pv 2)))))))))), ?_⟩), b, F.kp, fun_at F⟩
  obtain ⟨st, many, rfl, ho, k⟩ := h
  have hp := max1 many
  have hr0 : ∀ i : Int, 0 ≤ i % (if many > 1 then many else 1) := fun i => Int.emod_nonneg _ (by omega)
  have hr1 : ∀ i : Int, i % (if many > 1 then many else 1) < (if many > 1 then many else 1) := fun i => Int.emod_lt_of_pos _ hp
  walk_at "nb.s"
  generalize (if many > 1 then many else 1) = lim at *
  refine i_ite (fun h2 => ?_) (fun h2 => ?_)
  · walk_at "nb.s"
    refine use_take ho (draw_small (by omega)) fun n H' d h0 h1 => k n H' d h0 ?_
    rw [if_neg_or_pos hp] at h1
    exact h1
  · walk_at "nb.s"
    refine i_rng1 (by decide) (by decide) ?_
    refine fr_of (fun i σ' H' => ∃ (a b : Int) (v : Option V), σ' = [some (.ref st), some (.int many), some (.int lim), some (.int a), some (.int b), v] ∧ Drew H st H') ⟨_, _, _, rfl, .refl ho⟩ ?_ ?_
    · rintro i σ' H' hi ⟨a, b, v, rfl, d⟩
      walk_at "nb.s"
      refine i_ite (fun h3 => ?_) (fun h3 => ?_)
      · walk_at "nb.s"
        exact k _ _ d (hr0 _) (hr1 _)
      · walk_at "nb.s"
        refine use_take d.2 (by exact draw_small (by decide)) fun n H2 d2 _ _ => ?_
        walk_at "nb.s"
        exact ⟨_, _, _, rfl, d.trans d2⟩
    · rintro σ' H' ⟨a, b, v, rfl, d⟩
      walk_at "nb.s"
      exact k _ _ d (hr0 _) (hr1 _)
theorem use_wide {st : Addr} {many : Int} {H : Hp} {Q : VK} {E : XK} (h : StoreOk H st) (q : ∀ (n : Int) H', Drew H st H' → 0 ≤ n → n < (if many > 1 then many else 1) → Q (.int n) H') : spWide [.ref st, .int many] H Q E := ⟨st, many, rfl, h, q⟩
def spPick (K : PySem.W.Frag) : Sp := fun vs H Q _ => ∃ (st p : Addr) (xs : List V), vs = [.ref st, .ref p] ∧ StoreOk H st ∧ SqL K H p xs ∧ p ≠ st ∧ 0 < xs.length ∧ xs.length ≤ 1000000 ∧ ∀ (i : Nat) (v : V) H', xs[i]? = some v → Drew H st H' → Q v H'
theorem use_pick {st p : Addr} {xs : List V} {H : Hp} {Q : VK} {E : XK} (h : StoreOk H st) (hx : SqL K H p xs) (hne : p ≠ st) (h0 : 0 < xs.length) (h1 : xs.length ≤ 1000000) (q : ∀ (i : Nat) (v : V) H', xs[i]? = some v → Drew H st H' → Q v H') : spPick K [.ref st, .ref p] H Q E :=
  ⟨st, p, xs, rfl, h, hx, hne, h0, h1, q⟩
/-- the row is new -/
theorem use_pickN {st p : Addr} {xs : List V} {H : Hp} {Q : VK} {E : XK} (h : StoreOk H st) (hp : H p = none) (h0 : 0 < xs.length ∧ xs.length ≤ 1000000) (q : ∀ (i : Nat) (v : V) H', xs[i]? = some v → Drew H st H' → Q v H') : spPick K [.ref st, .ref p] (upd H p (.lst xs)) Q E :=
  use_pick (h.upd hp) (sqL_of upd_same) (h.ne hp) h0.1 h0.2 fun i v H' hi d => q i v H' hi ((Drew.of h (.new hp)).trans d)
theorem len_law_pick {K : PySem.W.Frag} {vs : List V} {H : Hp} {Q : VK} {E : XK} (h : spPick K vs H Q E) : vs.length = 2 := by
  obtain ⟨_, _, _, rfl, _⟩ := h
  rfl
theorem ok_law_pick (T : Txt K mg) : Good P w K mg base 3 (ga K "_law_pick") ["_law_store", "_law_row"] (spPick K) := by
  obtain ⟨fd, F⟩ := T.d.def_ 20 (d := d_law_pick) rfl
  have b := F.bindsN (ps := ["_law_store", "_law_row"]) fun _ _ _ _ _ _ us hl => match us, hl with | [_, _], _ => rfl
  obtain ⟨f_law_take, G_law_take, b_law_take, k_law_take, l_law_take⟩ := ok_law_take (P := P) (w := w) (base := base) T
  refine ⟨fd, F.ok sc_law_pick (fun vs H Q E h => len_law_pick h) (fun cdv A outer s H vs Q E hr h => ⟨_, PSs.nox ((pss_one (ps_ret (pe_ix ix_list (pv 1) (pe_call G_law_take (hr.mono (by decide)) rfl T.g__law_take k_law_take b_law_take .nil passN (pa_cons (pv 0) (pa_cons (pe_callB (kLen) (by rfl) T.b_len (by decide +kernel) (pa_cons (pv 1) pa_nil)) pa_nil))) (fun _ _ => rfl))))), ?_⟩), b, F.kp, fun_at F⟩
  obtain ⟨st, p, xs, rfl, ho, hx, hne, h0, h1, k⟩ := h
  walk_at "nb.s"
  refine use_take ho (draw_small (by omega)) fun n H' d z0 z1 => ?_
  obtain ⟨m, rfl⟩ := Int.eq_ofNat_of_zero_le z0
  have hm : m < xs.length := by split at z1 <;> omega
  exact i_ixL (sqL_exX d.1 hne hx) (Evl_at (List.getElem?_eq_getElem hm)) (k m _ _ (List.getElem?_eq_getElem hm) d)
def spBetween : Sp := fun vs H Q _ => ∃ (st : Addr) (lo hi : Int), vs = [.ref st, .int lo, .int hi] ∧ StoreOk H st ∧ ∀ (n : Int) H', Drew H st H' → lo ≤ n → (n ≤ hi ∨ n = lo) → Q (.int n) H'
theorem use_between {st : Addr} {lo hi : Int} {H : Hp} {Q : VK} {E : XK} (h : StoreOk H st) (q : ∀ (n : Int) H', Drew H st H' → lo ≤ n → (n ≤ hi ∨ n = lo) → Q (.int n) H') : spBetween [.ref st, .int lo, .int hi] H Q E := ⟨st, lo, hi, rfl, h, q⟩
theorem len_law_between {vs : List V} {H : Hp} {Q : VK} {E : XK} (h : spBetween vs H Q E) : vs.length = 3 := by
  obtain ⟨_, _, _, rfl, _⟩ := h
  rfl
theorem ok_law_between (T : Txt K mg) : Good P w K mg base 4 (ga K "_law_between") ["_law_store", "_law_low", "_law_high"] spBetween := by
  obtain ⟨fd, F⟩ := T.d.def_ 21 (d := d_law_between) rfl
  have b := F.bindsN (ps := ["_law_store", "_law_low", "_law_high"]) fun _ _ _ _ _ _ us hl => match us, hl with | [_, _, _], _ => rfl
  obtain ⟨f_law_wide, G_law_wide, b_law_wide, k_law_wide, l_law_wide⟩ := ok_law_wide (P := P) (w := w) (base := base) T
  obtain ⟨f_law_take, G_law_take, b_law_take, k_law_take, l_law_take⟩ := ok_law_take (P := P) (w := w) (base := base) T
  obtain ⟨f_law_pick, G_law_pick, b_law_pick, k_law_pick, l_law_pick⟩ := ok_law_pick (P := P) (w := w) (base := base) T
  refine ⟨fd, F.ok sc_law_between (fun vs H Q E h => len_law_between h) (fun cdv A outer s H vs Q E hr h => ⟨_, PSs.nox ((pss_cons (ps_set (i := 3) sc_law_between.nd rfl (Or.inl rfl) (pe_callB (kMax2 rfl) (by rfl) T.b_max (by decide +kernel) (pa_cons pe_int (pa_cons (pe_op oAdd (pe_op oSub (pv 2) (pv 1)) pe_int) pa_nil)))) (pss_cons (ps_if (PW.pt (pw_and (pt_cmpR oGt (pv 3) pe_int (nomark _)) (pw_and1 (pt_cmpR op_eq (pe_call G_law_take (hr.mono (by decide)) rfl T.g__law_take k_law_take b_law_take .nil passN (pa_cons (pv 0) (pa_cons pe_int pa_nil))) pe_int (nomark _))))) (pss_one (ps_ret (pe_call G_law_pick (hr.mono (by decide)) rfl T.g__law_pick k_law_pick b_law_pick .nil passN (pa_cons (pv 0) (pa_cons (pe_lst (pa_cons (pv 1) (pa_cons (pv 2) (pa_cons (pe_op oAdd (pv 1) pe_int) (pa_cons (pe_op oSub (pv 2) pe_int) (pa_cons (pe_op oAdd (pv 1) (pe_op oDiv (pv 3) pe_int)) pa_nil)))))) pa_nil))))) pss_nil) (pss_one (ps_ret (pe_op oAdd (pv 1) (pe_call G_law_wide (hr.mono (by decide)) rfl T.g__law_wide k_law_wide b_law_wide .nil passN (pa_cons (pv 0) (pa_cons (pv 3) pa_nil))))))))), ?_⟩), b, F.kp, fun_at F⟩
  obtain ⟨st, lo, hi, rfl, ho, k⟩ := h
  walk_at "nb.s"
  have wide : ∀ H1, Drew H st H1 → spWide [.ref st, .int (if hi - lo + 1 > 1 then hi - lo + 1 else 1)] H1 (fun y H2 => rAddI (.int lo) y H2 Q) E0 := fun H1 d => by
    refine use_wide d.2 fun n H' d2 z0 z1 => ?_
    walk_at "nb.s"
    refine k _ _ (d.trans d2) (by omega) ?_
    rw [if_neg_or_pos (max1 _)] at z1
    split at z1 <;> first | (left; omega) | (right; omega)
  refine i_ite (fun h2 => ?_) (fun h2 => ?_)
  · have h3 : hi - lo + 1 > 2 := by
      split at h2 <;> omega
    rw [if_pos (by omega : hi - lo + 1 > 1)] at *
    walk_at "nb.s"
    refine use_take ho (draw_small (by decide)) fun n H1 d z0 z1 => ?_
    walk_at "nb.s"
    refine i_ite (fun h4 => ?_) (fun h4 => ?_)
    · walk_at "nb.s"
      intro p hp
      walk_at "nb.s"
      refine use_pickN d.2 hp (by walk_at "nb.len") fun i v H2 hi2 d2 => ?_
      match i, hi2 with
      | 0, e => cases e; exact k _ _ (d.trans d2) (by omega) (by omega)
      | 1, e => cases e; exact k _ _ (d.trans d2) (by omega) (by omega)
      | 2, e => cases e; exact k _ _ (d.trans d2) (by omega) (by omega)
      | 3, e => cases e; exact k _ _ (d.trans d2) (by omega) (by omega)
      | 4, e => cases e; exact k _ _ (d.trans d2) (by omega) (by omega)
      | j + 5, e => cases e
    · walk_at "nb.s"
      exact wide _ d
  · walk_at "nb.s"
    exact wide _ (.refl ho)
def spOther : Sp := fun vs H Q _ => ∃ (st : Addr), vs = [.ref st] ∧ StoreOk H st ∧ ∀ v H', Drew H st H' → AnyV H' v → isI v = false → v ≠ .ref st → Q v H'
theorem AnyV.exX {H H' : Hp} {st : Addr} {v : V} (e : ExX st H H') (n : v ≠ .ref st) (h : AnyV H v) : AnyV H' v := by
  cases h with
  | non => exact .non
  | bl b => exact .bl b
  | int i => exact .int i
  | str z => exact .str z
  | lst h => exact .lst (e _ _ (fun z => n (by rw [z])) h)
  | tup h => exact .tup (e _ _ (fun z => n (by rw [z])) h)
  | dK h => exact .dK (e _ _ (fun z => n (by rw [z])) h)
theorem use_other {st : Addr} {H : Hp} {Q : VK} {E : XK} (h : StoreOk H st) (q : ∀ v H', Drew H st H' → AnyV H' v → isI v = false → v ≠ .ref st → Q v H') : spOther [.ref st] H Q E := ⟨st, rfl, h, q⟩
theorem len_law_other {vs : List V} {H : Hp} {Q : VK} {E : XK} (h : spOther vs H Q E) : vs.length = 1 := by
  obtain ⟨_, rfl, _⟩ := h
  rfl
theorem ok_law_other (T : Txt K mg) : Good P w K mg base 3 (ga K "_law_other") ["_law_store"] spOther := by
  obtain ⟨fd, F⟩ := T.d.def_ 22 (d := d_law_other) rfl
  have b := F.bindsN (ps := ["_law_store"]) fun _ _ _ _ _ _ us hl => match us, hl with | [_], _ => rfl
  obtain ⟨f_law_take, G_law_take, b_law_take, k_law_take, l_law_take⟩ := ok_law_take (P := P) (w := w) (base := base) T
  refine ⟨fd, F.ok sc_law_other (fun vs H Q E h => len_law_other h) (fun cdv A outer s H vs Q E hr h => ⟨_, PSs.nox ((pss_one (ps_ret (pe_ix ix_list (pe_lst (pa_cons pe_bl (pa_cons pe_bl (pa_cons pe_non (pa_cons pe_str (pa_cons pe_str (pa_cons (pe_lst pa_nil) (pa_cons (pe_lst (pa_cons pe_int pa_nil)) (pa_cons (pe_tup pa_nil) (pa_cons (pe_tup (pa_cons pe_int pa_nil)) (pa_cons pe_str pa_nil))))))))))) (pe_call G_law_take (hr.mono (by decide)) rfl T.g__law_take k_law_take b_law_take .nil passN (pa_cons (pv 0) (pa_cons pe_int pa_nil))) (fun _ _ => rfl))))), ?_⟩), b, F.kp, fun_at F⟩
  obtain ⟨st, rfl, ho, k⟩ := h
  walk_at "nb.s"
  intro p1 n1
  walk_at "nb.s"
  intro p2 n2
  walk_at "nb.s"
  intro p3 n3
  walk_at "nb.s"
  intro p4 n4
  walk_at "nb.s"
  intro p5 n5
  walk_at "nb.s"
  have e1 := Ext.new (o := .lst []) n1
  have e2 := Ext.new (o := .lst [.int 3]) n2
  have e3 := Ext.new (o := .tup []) n3
  have e4 := Ext.new (o := .tup [.int 3]) n4
  have h1 : upd H p1 (.lst []) p1 = some (.lst []) := upd_same
  have h2 : upd (upd H p1 (.lst [])) p2 (.lst [.int 3]) p2 = some (.lst [.int 3]) := upd_same
  have h3 : upd (upd (upd H p1 (.lst [])) p2 (.lst [.int 3])) p3 (.tup []) p3 = some (.tup []) := upd_same
  have h4 : upd (upd (upd (upd H p1 (.lst [])) p2 (.lst [.int 3])) p3 (.tup [])) p4 (.tup [.int 3]) p4 = some (.tup [.int 3]) := upd_same
  have o4 := (((ho.ext e1).ext e2).ext e3).ext e4
  have e0 := ((e1.trans e2).trans e3).trans e4
  have h1' := e4 _ _ (e3 _ _ (e2 _ _ h1))
  have h2' := e4 _ _ (e3 _ _ h2)
  have h3' := e4 _ _ h3
  generalize upd (upd (upd (upd H p1 (.lst [])) p2 (.lst [.int 3])) p3 (.tup [])) p4 (.tup [.int 3]) = G at *
  have d1 : p1 ≠ st := ho.ne (n1)
  have d2 : p2 ≠ st := (ho.ext e1).ne n2
  have d3 : p3 ≠ st := ((ho.ext e1).ext e2).ne n3
  have d4 : p4 ≠ st := (((ho.ext e1).ext e2).ext e3).ne n4
  refine use_take (o4.upd n5) (draw_small (by decide)) fun n H' d z0 z1 => ?_
  have D : Drew H st H' := (Drew.of ho (e0.trans (.new n5))).trans d
  have g : ∀ v, v ≠ .ref st → AnyV G v → AnyV H' v := fun v hv a => AnyV.exX d.1 hv (a.ext (.new n5))
  obtain ⟨m, rfl⟩ := Int.eq_ofNat_of_zero_le z0
  have hm : m < 10 := by
    have e : (if (10 : Int) > 1 then (10 : Int) else 1) = 10 := by decide
    rw [e] at z1
    omega
  have d5 : p5 ≠ st := o4.ne n5
  have row := d.1 p5 _ d5 upd_same
  have go : ∀ v, ([V.bl true, .bl false, .non, .str "", .str "3", .ref p1, .ref p2, .ref p3, .ref p4, .str "a"])[m]? = some v → AnyV G v → isI v = false → v ≠ .ref st → rIxL K (.ref p5) (.int (m : Int)) H' Q := fun v e a i nv =>
    i_ixL (sqL_of row) (Evl_at e) (k v H' D (g v nv a) i nv)
  have ns : ∀ z : Str, V.str z ≠ .ref st := fun z q => nomatch q
  match m, hm with
  | 0, _ => exact go _ rfl (.bl _) rfl (fun q => nomatch q)
  | 1, _ => exact go _ rfl (.bl _) rfl (fun q => nomatch q)
  | 2, _ => exact go _ rfl .non rfl (fun q => nomatch q)
  | 3, _ => exact go _ rfl (.str _) rfl (ns _)
  | 4, _ => exact go _ rfl (.str _) rfl (ns _)
  | 5, _ => exact go _ rfl (.lst h1') rfl (fun q => d1 (V.ref.inj q))
  | 6, _ => exact go _ rfl (.lst h2') rfl (fun q => d2 (V.ref.inj q))
  | 7, _ => exact go _ rfl (.tup h3') rfl (fun q => d3 (V.ref.inj q))
  | 8, _ => exact go _ rfl (.tup h4) rfl (fun q => d4 (V.ref.inj q))
  | 9, _ => exact go _ rfl (.str _) rfl (ns _)
  | j + 10, hj => omega
def spBeyond : Sp := fun vs H Q _ => ∃ (st : Addr) (lo hi : Int), vs = [.ref st, .int lo, .int hi] ∧ StoreOk H st ∧ ∀ v H', Drew H st H' → AnyV H' v → ¬ inR v lo hi → v ≠ .ref st → Q v H'
theorem use_beyond {st : Addr} {lo hi : Int} {H : Hp} {Q : VK} {E : XK} (h : StoreOk H st) (q : ∀ v H', Drew H st H' → AnyV H' v → ¬ inR v lo hi → v ≠ .ref st → Q v H') : spBeyond [.ref st, .int lo, .int hi] H Q E := ⟨st, lo, hi, rfl, h, q⟩
theorem len_law_beyond {vs : List V} {H : Hp} {Q : VK} {E : XK} (h : spBeyond vs H Q E) : vs.length = 3 := by
  obtain ⟨_, _, _, rfl, _⟩ := h
  rfl
theorem ok_law_beyond (T : Txt K mg) : Good P w K mg base 4 (ga K "_law_beyond") ["_law_store", "_law_low", "_law_high"] spBeyond := by
  obtain ⟨fd, F⟩ := T.d.def_ 23 (d := d_law_beyond) rfl
  have b := F.bindsN (ps := ["_law_store", "_law_low", "_law_high"]) fun _ _ _ _ _ _ us hl => match us, hl with | [_, _, _], _ => rfl
  obtain ⟨f_law_wide, G_law_wide, b_law_wide, k_law_wide, l_law_wide⟩ := ok_law_wide (P := P) (w := w) (base := base) T
  obtain ⟨f_law_pick, G_law_pick, b_law_pick, k_law_pick, l_law_pick⟩ := ok_law_pick (P := P) (w := w) (base := base) T
  obtain ⟨f_law_other, G_law_other, b_law_other, k_law_other, l_law_other⟩ := ok_law_other (P := P) (w := w) (base := base) T
  obtain ⟨f_law_take, G_law_take, b_law_take, k_law_take, l_law_take⟩ := ok_law_take (P := P) (w := w) (base := base) T
  refine ⟨fd, F.ok sc_law_beyond (fun vs H Q E h => len_law_beyond h) (fun cdv A outer s H vs Q E hr h => ⟨_, PSs.nox ((pss_cons (ps_set (i := 3) sc_law_beyond.nd rfl (Or.inl rfl) (pe_call G_law_take (hr.mono (by decide)) rfl T.g__law_take k_law_take b_law_take .nil passN (pa_cons (pv 0) (pa_cons pe_int pa_nil)))) (pss_cons (ps_if (pt_cmpR op_eq (pv 3) pe_int (nomark _)) (pss_one (ps_ret (pe_call G_law_other (hr.mono (by decide)) rfl T.g__law_other k_law_other b_law_other .nil passN (pa_cons (pv 0) pa_nil)))) pss_nil) (pss_cons (ps_if (pt_cmpR op_eq (pv 3) pe_int (nomark _)) (pss_one (ps_ret (pe_call G_law_pick (hr.mono (by decide)) rfl T.g__law_pick k_law_pick b_law_pick .nil passN (pa_cons (pv 0) (pa_cons (pe_lst (pa_cons (pe_op oSub (pv 1) pe_int) (pa_cons (pe_op oAdd (pv 2) pe_int) pa_nil))) pa_nil))))) pss_nil) (pss_cons (ps_if (pt_cmpR op_eq (pv 3) pe_int (nomark _)) (pss_one (ps_ret (pe_op oSub (pe_op oSub (pv 1) pe_int) (pe_call G_law_wide (hr.mono (by decide)) rfl T.g__law_wide k_law_wide b_law_wide .nil passN (pa_cons (pv 0) (pa_cons (pe_powC (v := 1000000000000000000000000000000000000000000000000000000000000) pe_int pe_int (powS (by decide) (by decide) (by decide) (by decide)) (by decide +kernel)) pa_nil)))))) pss_nil) (pss_one (ps_ret (pe_op oAdd (pe_op oAdd (pv 2) pe_int) (pe_call G_law_wide (hr.mono (by decide)) rfl T.g__law_wide k_law_wide b_law_wide .nil passN (pa_cons (pv 0) (pa_cons (pe_powC (v := 1000000000000000000000000000000000000000000000000000000000000) pe_int pe_int (powS (by decide) (by decide) (by decide) (by decide)) (by decide +kernel)) pa_nil))))))))))), ?_⟩), b, F.kp, fun_at F⟩
  obtain ⟨st, lo, hi, rfl, ho, k⟩ := h
  have ki : ∀ (n : Int) H', Drew H st H' → (n < lo ∨ hi < n) → Q (.int n) H' := fun n H' d c => k _ _ d (.int n) (fun z => by
    have z2 := inR_int.mp z
    omega) (fun q => nomatch q)
  walk_at "nb.s"
  refine use_take ho (draw_small (by decide)) fun n H1 d z0 z1 => ?_
  walk_at "nb.s"
  refine i_ite (fun h1 => ?_) (fun h1 => ?_)
  · walk_at "nb.s"
    exact use_other d.2 fun v H2 d2 a i nv => k v H2 (d.trans d2) a (inR_not i) nv
  · walk_at "nb.s"
    refine i_ite (fun h2 => ?_) (fun h2 => ?_)
    · walk_at "nb.s"
      intro p hp
      walk_at "nb.s"
      refine use_pickN d.2 hp (by walk_at "nb.len") fun i v H2 hi2 d2 => ?_
      match i, hi2 with
      | 0, e => cases e; exact ki _ _ (d.trans d2) (by omega)
      | 1, e => cases e; exact ki _ _ (d.trans d2) (by omega)
      | j + 2, e => cases e
    · walk_at "nb.s"
      refine i_ite (fun h3 => ?_) (fun h3 => ?_)
      · walk_at "nb.s"
        refine use_wide d.2 fun m H2 d2 y0 y1 => ?_
        walk_at "nb.s"
        exact ki _ _ (d.trans d2) (by omega)
      · walk_at "nb.s"
        refine use_wide d.2 fun m H2 d2 y0 y1 => ?_
        walk_at "nb.s"
        exact ki _ _ (d.trans d2) (by omega)
/-- flat values: None, bools, ints, texts -/
inductive Flat : V → Prop where
  | non : Flat .non
  | bl (b : Bool) : Flat (.bl b)
  | int (i : Int) : Flat (.int i)
  | str (z : Str) : Flat (.str z)
theorem Flat.any {H : Hp} {v : V} (h : Flat v) : AnyV H v := by
  cases h with
  | non => exact .non
  | bl b => exact .bl b
  | int i => exact .int i
  | str z => exact .str z
/-- the same data, lists and tuples nested at most n deep -/
def Sm (H : Hp) : Nat → V → V → Prop
  | 0, x, y => x = y ∧ Flat x
  | n + 1, x, y => (x = y ∧ Flat x) ∨ ∃ (a b : Addr) (xs ys : List V), x = .ref a ∧ y = .ref b ∧ ((H a = some (.lst xs) ∧ H b = some (.lst ys)) ∨ (H a = some (.tup xs) ∧ H b = some (.tup ys))) ∧ xs.length = ys.length ∧ xs.length ≤ 1000000 ∧
      ∀ (i : Nat) (u v : V), xs[i]? = some u → ys[i]? = some v → Sm H n u v
theorem Sm.ext {H H' : Hp} (e : Ext H H') : ∀ (n : Nat) (x y : V), Sm H n x y → Sm H' n x y
  | 0, _, _, h => h
  | n + 1, x, y, h => by
    rcases h with h | ⟨a, b, xs, ys, e1, e2, h, hl, hz, hi⟩
    · exact .inl h
    · refine .inr ⟨a, b, xs, ys, e1, e2, ?_, hl, hz, fun i u v hu hv => Sm.ext e n u v (hi i u v hu hv)⟩
      rcases h with ⟨p, q⟩ | ⟨p, q⟩
      · exact .inl ⟨e _ _ p, e _ _ q⟩
      · exact .inr ⟨e _ _ p, e _ _ q⟩
theorem Sm.flat {H : Hp} {n : Nat} {x : V} (h : Flat x) : Sm H n x x := by
  cases n with
  | zero => exact ⟨rfl, h⟩
  | succ n => exact .inl ⟨rfl, h⟩
theorem Sm.lst {H : Hp} {n : Nat} {a b : Addr} {xs ys : List V} (p : H a = some (.lst xs)) (q : H b = some (.lst ys)) (hl : xs.length = ys.length) (hz : xs.length ≤ 1000000) (hi : ∀ (i : Nat) (u v : V), xs[i]? = some u → ys[i]? = some v → Sm H n u v) : Sm H (n + 1) (.ref a) (.ref b) := .inr ⟨a, b, xs, ys, rfl, rfl, .inl ⟨p, q⟩, hl, hz, hi⟩
theorem Sm.tup {H : Hp} {n : Nat} {a b : Addr} {xs ys : List V} (p : H a = some (.tup xs)) (q : H b = some (.tup ys)) (hl : xs.length = ys.length) (hz : xs.length ≤ 1000000) (hi : ∀ (i : Nat) (u v : V), xs[i]? = some u → ys[i]? = some v → Sm H n u v) : Sm H (n + 1) (.ref a) (.ref b) := .inr ⟨a, b, xs, ys, rfl, rfl, .inr ⟨p, q⟩, hl, hz, hi⟩
/-- a list of ints is the same as an equal one -/
theorem Sm.ints {H : Hp} {n : Nat} {a b : Addr} {ns : List Int} (p : H a = some (.lst (ns.map V.int))) (q : H b = some (.lst (ns.map V.int))) (hz : ns.length ≤ 1000000) : Sm H (n + 1) (.ref a) (.ref b) :=
  .lst p q rfl (by rw [List.length_map]; exact hz) fun i u v hu hv => by
    rw [hu] at hv
    cases hv
    rw [List.getElem?_map] at hu
    cases e : ns[i]? with
    | none => rw [e] at hu; cases hu
    | some z => rw [e] at hu; cases hu; exact .flat (.int z)
/-- tuples, lists of flat values -/
theorem Sm.tupF {H : Hp} {n : Nat} {a b : Addr} {xs : List V} (p : H a = some (.tup xs)) (q : H b = some (.tup xs)) (hz : xs.length ≤ 1000000) (hf : ∀ x ∈ xs, Flat x) : Sm H (n + 1) (.ref a) (.ref b) :=
  .tup p q rfl hz fun i u v hu hv => by
    rw [hu] at hv
    cases hv
    exact .flat (hf u (List.mem_of_getElem? hu))
theorem Sm.lstF {H : Hp} {n : Nat} {a b : Addr} {xs : List V} (p : H a = some (.lst xs)) (q : H b = some (.lst xs)) (hz : xs.length ≤ 1000000) (hf : ∀ x ∈ xs, Flat x) : Sm H (n + 1) (.ref a) (.ref b) :=
  .lst p q rfl hz fun i u v hu hv => by
    rw [hu] at hv
    cases hv
    exact .flat (hf u (List.mem_of_getElem? hu))
def spSame (n : Nat) : Sp := fun vs H Q _ => ∃ (x y : V), vs = [x, y] ∧ Sm H n x y ∧ ∀ H', Ext H H' → Q (.bl true) H'
theorem use_same {n : Nat} {x y : V} {H : Hp} {Q : VK} {E : XK} (h : Sm H n x y) (q : ∀ H', Ext H H' → Q (.bl true) H') : spSame n [x, y] H Q E := ⟨x, y, rfl, h, q⟩
theorem i_eqF {x : V} {H : Hp} {Q : VK} (h : Flat x) (q : Q (.bl true) H) : rEq x x H Q := by
  refine ⟨?_, by rw [decide_eq_true rfl]; exact q⟩
  cases h <;> rfl
theorem len_law_same {n : Nat} {vs : List V} {H : Hp} {Q : VK} {E : XK} (h : spSame n vs H Q E) : vs.length = 2 := by
  obtain ⟨_, _, rfl, _⟩ := h
  rfl
theorem same_body (T : Txt K mg) {k n : Nat} (hG : n = 0 ∨ ∃ m, n = m + 1 ∧ Good P w K mg base k (ga K "_law_same") ["_law_actual", "_law_expected"] (spSame m)) : Good P w K mg base (k + 1) (ga K "_law_same") ["_law_actual", "_law_expected"] (spSame n) := by
  obtain ⟨fd, F⟩ := T.d.def_ 24 (d := d_law_same) rfl
  have b := F.bindsN (ps := ["_law_actual", "_law_expected"]) fun _ _ _ _ _ _ us hl => match us, hl with | [_, _], _ => rfl
  have key : ∀ (sp0 : Sp), (n = 0 → sp0 = fun _ _ _ _ => False) → (∀ m, n = m + 1 → sp0 = spSame m) → (∃ fd0, FnOk P w K mg base (L2N.CX P w) k (ga K "_law_same") fd0 ["_law_actual", "_law_expected"] sp0 ∧ Binds K fd0 ["_law_actual", "_law_expected"] [] ∧ PySem.W.keepIn K (.ref (ga K "_law_same")) = true ∧ ∃ (oc : Value) (od : Option Addr) (osl : Array (Option Value)), K.lookup (ga K "_law_same") = some ⟨oc, od, .func fd0, osl⟩) → Good P w K mg base (k + 1) (ga K "_law_same") ["_law_actual", "_law_expected"] (spSame n) := fun sp0 s0 s1 hg => by
    obtain ⟨f_law_same, G_law_same, b_law_same, k_law_same, l_law_same⟩ := hg
    refine ⟨fd, F.ok sc_law_same (fun vs H Q E h => len_law_same h) (fun cdv A outer s H vs Q E hr h => ⟨_, PSs.nox ((pss_cons (ps_if (pt_cmpR oIsK (pv 1) pe_non (nomark _)) (pss_one (ps_ret (pe_cmpR oIsK (pv 0) pe_non (nomark _)))) pss_nil) (pss_cons (ps_if (pt_cmpR oIsK (pv 1) pe_bl (nomark _)) (pss_one (ps_ret (pe_cmpR oIsK (pv 0) pe_bl (nomark _)))) pss_nil) (pss_cons (ps_if (pt_cmpR oIsK (pv 1) pe_bl (nomark _)) (pss_one (ps_ret (pe_cmpR oIsK (pv 0) pe_bl (nomark _)))) pss_nil) (pss_cons (ps_if (pt_val (pe_callB (call_isi) (by rfl) T.b_isinstance (by decide +kernel) (pa_cons (pv 1) (pa_cons (pe_bltn (v := .ty "int") (by rfl) T.b_int (by decide +kernel) rfl) pa_nil)))) (pss_one (ps_ret (pe_and (pe_callB (call_isi) (by rfl) T.b_isinstance (by decide +kernel) (pa_cons (pv 0) (pa_cons (pe_bltn (v := .ty "int") (by rfl) T.b_int (by decide +kernel) rfl) pa_nil))) (pe_and (pe_not (pe_callB (call_isi) (by rfl) T.b_isinstance (by decide +kernel) (pa_cons (pv 0) (pa_cons (pe_bltn (v := .ty "bool") (by rfl) T.b_bool (by decide +kernel) rfl) pa_nil)))) (pe_one (pe_cmpR op_eq (pv 0) (pv 1) (nomark _))))))) pss_nil) (pss_cons (ps_if (pt_val (pe_callB (call_isi) (by rfl) T.b_isinstance (by decide +kernel) (pa_cons (pv 1) (pa_cons (pe_bltn (v := .ty "str") (by rfl) T.b_str (by decide +kernel) rfl) pa_nil)))) (pss_one (ps_ret (pe_and (pe_callB (call_isi) (by rfl) T.b_isinstance (by decide +kernel) (pa_cons (pv 0) (pa_cons (pe_bltn (v := .ty "str") (by rfl) T.b_str (by decide +kernel) rfl) pa_nil))) (pe_one (pe_cmpR op_eq (pv 0) (pv 1) (nomark _)))))) pss_nil) (pss_cons (ps_if (PW.pt (pw_and (pt_val (pe_callB (call_isi) (by rfl) T.b_isinstance (by decide +kernel) (pa_cons (pv 1) (pa_cons (pe_bltn (v := .ty "list") (by rfl) T.b_list (by decide +kernel) rfl) pa_nil)))) (pw_and1 (pt_not (pt_val (pe_callB (call_isi) (by rfl) T.b_isinstance (by decide +kernel) (pa_cons (pv 0) (pa_cons (pe_bltn (v := .ty "list") (by rfl) T.b_list (by decide +kernel) rfl) pa_nil)))))))) (pss_one (ps_ret pe_bl)) pss_nil) (pss_cons (ps_if (PW.pt (pw_and (pt_val (pe_callB (call_isi) (by rfl) T.b_isinstance (by decide +kernel) (pa_cons (pv 1) (pa_cons (pe_bltn (v := .ty "tuple") (by rfl) T.b_tuple (by decide +kernel) rfl) pa_nil)))) (pw_and1 (pt_not (pt_val (pe_callB (call_isi) (by rfl) T.b_isinstance (by decide +kernel) (pa_cons (pv 0) (pa_cons (pe_bltn (v := .ty "tuple") (by rfl) T.b_tuple (by decide +kernel) rfl) pa_nil)))))))) (pss_one (ps_ret pe_bl)) pss_nil) (pss_cons (ps_if (PW.pt (pw_or (pt_not (pt_val (pe_callB (call_isiT) (by rfl) T.b_isinstance (by decide +kernel) (pa_cons (pv 1) (pa_cons (pe_tup (pa_cons (pe_bltn (v := .ty "list") (by rfl) T.b_list (by decide +kernel) rfl) (pa_cons (pe_bltn (v := .ty "tuple") (by rfl) T.b_tuple (by decide +kernel) rfl) pa_nil))) pa_nil))))) (pw_or1 (pt_cmpR op_ne (pe_callB (kLen) (by rfl) T.b_len (by decide +kernel) (pa_cons (pv 0) pa_nil)) (pe_callB (kLen) (by rfl) T.b_len (by decide +kernel) (pa_cons (pv 1) pa_nil)) (nomark _))))) (pss_one (ps_ret pe_bl)) pss_nil) (pss_cons (ps_for PassesOwn.never rfl (pi_range1 rfl T.b_range (pa_cons (pe_callB (kLen) (by rfl) T.b_len (by decide +kernel) (pa_cons (pv 1) pa_nil)) pa_nil)) (pg_name (i := 2) sc_law_same.nd rfl (Or.inl rfl)) (pss_one (ps_if (pt_not (pt_val (pe_call G_law_same hr rfl T.g__law_same k_law_same b_law_same .nil passN (pa_cons (pe_ix ix_seq (pv 0) (pv 2) (fun _ _ => rfl)) (pa_cons (pe_ix ix_seq (pv 1) (pv 2) (fun _ _ => rfl)) pa_nil))))) (pss_one (ps_ret pe_bl)) pss_nil))) (pss_one (ps_ret pe_bl)))))))))))), ?_⟩), b, F.kp, fun_at F⟩
    obtain ⟨x, y, rfl, hs, q⟩ := h
    have flat : ∀ x, Flat x → Sm H 0 x x := fun x hx => ⟨rfl, hx⟩
    have hcase : (x = y ∧ Flat x) ∨ ∃ m, n = m + 1 ∧ ∃ (a b : Addr) (xs ys : List V), x = .ref a ∧ y = .ref b ∧ ((H a = some (.lst xs) ∧ H b = some (.lst ys)) ∨ (H a = some (.tup xs) ∧ H b = some (.tup ys))) ∧ xs.length = ys.length ∧ xs.length ≤ 1000000 ∧
        ∀ (i : Nat) (u v : V), xs[i]? = some u → ys[i]? = some v → Sm H m u v := by
      cases n with
      | zero => exact .inl hs
      | succ m =>
        rcases hs with h | h
        · exact .inl h
        · exact .inr ⟨m, rfl, h⟩
    rcases hcase with ⟨rfl, hf⟩ | ⟨m, hm, a, c, xs, ys, rfl, rfl, hac, hl, hz, hi⟩
    · cases hf with
      | non =>
        walk_at "nb.s"
        refine i_ite (fun _ => ?_) (fun z => absurd rfl z)
        walk_at "nb.s"
        exact q H (.refl H)
      | bl b =>
        walk_at "nb.s"
        refine i_ite (fun z => nomatch z) (fun _ => ?_)
        walk_at "nb.s"
        refine i_ite (fun z => ?_) (fun z => ?_)
        · cases z
          walk_at "nb.s"
          exact q H (.refl H)
        · walk_at "nb.s"
          refine i_ite (fun z2 => ?_) (fun z2 => ?_)
          · cases z2
            walk_at "nb.s"
            exact q H (.refl H)
          · cases b
            · exact absurd rfl z2
            · exact absurd rfl z
      | int i =>
        walk_at "nb.s"
        refine i_ite (fun z => nomatch z) (fun _ => ?_)
        walk_at "nb.s"
        refine i_ite (fun z => nomatch z) (fun _ => ?_)
        walk_at "nb.s"
        refine i_ite (fun z => nomatch z) (fun _ => ?_)
        walk_at "nb.s"
        have e : decide (i = i) = true := decide_eq_true rfl
        rw [e]
        exact q H (.refl H)
      | str z =>
        walk_at "nb.s"
        refine i_ite (fun z => nomatch z) (fun _ => ?_)
        walk_at "nb.s"
        refine i_ite (fun z => nomatch z) (fun _ => ?_)
        walk_at "nb.s"
        refine i_ite (fun z => nomatch z) (fun _ => ?_)
        walk_at "nb.s"
        have e : decide (z = z) = true := decide_eq_true rfl
        rw [e]
        exact q H (.refl H)
    · have sp0e := s1 m hm
      subst sp0e
      walk_at "nb.s"
      refine i_ite (fun z => nomatch z) (fun _ => ?_)
      walk_at "nb.s"
      refine i_ite (fun z => nomatch z) (fun _ => ?_)
      walk_at "nb.s"
      refine i_ite (fun z => nomatch z) (fun _ => ?_)
      walk_at "nb.s"
      rcases hac with ⟨h1, h2⟩ | ⟨h1, h2⟩
      · walk_at "nb.s"
        intro p hp
        walk_at "nb.s"
        refine isi_lt upd_same (.base (.lst (upd_old hp h2))) (.inl rfl) ?_
        walk_at "nb.s"
        refine i_iteN (fun z => absurd (by rw [hl]) z) (fun _ => ?_)
        walk_at "nb.s"
        refine i_rng1 (by omega) (by omega) ?_
        refine fr_of (fun i σ' H' => ∃ v : Option V, σ' = [some (.ref a), some (.ref c), v] ∧ Ext H H') ⟨_, rfl, .new hp⟩ ?_ ?_
        · rintro i σ' H' hi2 ⟨v, rfl, e⟩
          have hi3 : i < ys.length := by omega
          have hi4 : i < xs.length := by omega
          have z0 : (0 : Int) + (i : Int) = (i : Int) := Int.zero_add _
          walk_at "nb.s"
          rw [z0]
          refine .inl (i_ixL (sqL_of (e _ _ h1)) (Evl_at (List.getElem?_eq_getElem hi4)) ?_)
          walk_at "nb.s"
          refine .inl (i_ixL (sqL_of (e _ _ h2)) (Evl_at (List.getElem?_eq_getElem hi3)) ?_)
          walk_at "nb.s"
          refine use_same (Sm.ext e _ _ _ (hi i _ _ (List.getElem?_eq_getElem hi4) (List.getElem?_eq_getElem hi3))) fun H2 e2 => ?_
          walk_at "nb.s"
          exact ⟨_, rfl, e.trans e2⟩
        · rintro σ' H' ⟨v, rfl, e⟩
          walk_at "nb.s"
          exact q H' e
      · walk_at "nb.s"
        intro p hp
        walk_at "nb.s"
        refine isi_lt upd_same (.base (.tup (upd_old hp h2))) (.inr rfl) ?_
        walk_at "nb.s"
        refine i_iteN (fun z => absurd (by rw [hl]) z) (fun _ => ?_)
        walk_at "nb.s"
        refine i_rng1 (by omega) (by omega) ?_
        refine fr_of (fun i σ' H' => ∃ v : Option V, σ' = [some (.ref a), some (.ref c), v] ∧ Ext H H') ⟨_, rfl, .new hp⟩ ?_ ?_
        · rintro i σ' H' hi2 ⟨v, rfl, e⟩
          have hi3 : i < ys.length := by omega
          have hi4 : i < xs.length := by omega
          have z0 : (0 : Int) + (i : Int) = (i : Int) := Int.zero_add _
          walk_at "nb.s"
          rw [z0]
          refine .inr (.inl (i_ixT (sqT_of (e _ _ h1)) (Evl_at (List.getElem?_eq_getElem hi4)) ?_))
          walk_at "nb.s"
          refine .inr (.inl (i_ixT (sqT_of (e _ _ h2)) (Evl_at (List.getElem?_eq_getElem hi3)) ?_))
          walk_at "nb.s"
          refine use_same (Sm.ext e _ _ _ (hi i _ _ (List.getElem?_eq_getElem hi4) (List.getElem?_eq_getElem hi3))) fun H2 e2 => ?_
          walk_at "nb.s"
          exact ⟨_, rfl, e.trans e2⟩
        · rintro σ' H' ⟨v, rfl, e⟩
          walk_at "nb.s"
          exact q H' e
  rcases hG with rfl | ⟨m, rfl, hg⟩
  · exact key (fun _ _ _ _ => False) (fun _ => rfl) (fun m e => nomatch e) ⟨fd, ⟨fun _ _ _ _ h => h.elim, fun _ _ _ _ _ _ _ _ _ _ _ _ _ h => h.elim⟩, b, F.kp, fun_at F⟩
  · exact key (spSame m) (fun z => nomatch z) (fun m' e => by cases e; rfl) hg
theorem ok_law_same (T : Txt K mg) : ∀ n : Nat, Good P w K mg base (n + 1) (ga K "_law_same") ["_law_actual", "_law_expected"] (spSame n)
  | 0 => same_body (k := 0) T (.inl rfl)
  | n + 1 => same_body T (.inr ⟨n, rfl, ok_law_same T n⟩)
def spIs_whole : Sp := fun vs H Q _ => ∃ v, vs = [v] ∧ AnyV H v ∧ ∀ H', Ext H H' → Q (.bl (isI v)) H'
theorem use_is_whole {v : V} {H : Hp} {Q : VK} {E : XK} (h : AnyV H v) (q : ∀ H', Ext H H' → Q (.bl (isI v)) H') : spIs_whole [v] H Q E := ⟨v, rfl, h, q⟩
theorem isI_int {v : V} (h : isI v = true) : ∃ i, v = .int i := by
  cases v with
  | int i => exact ⟨i, rfl⟩
  | _ => cases h
theorem len_is_whole {vs : List V} {H : Hp} {Q : VK} {E : XK} (h : spIs_whole vs H Q E) : vs.length = 1 := by
  obtain ⟨_, rfl, _⟩ := h
  rfl
theorem ok_is_whole (T : Txt K mg) : Good P w K mg base 1 (ga K "is_whole") ["value"] spIs_whole := by
  obtain ⟨fd, F⟩ := T.d.def_ 7 (d := d_is_whole) rfl
  have b := F.bindsN (ps := ["value"]) fun _ _ _ _ _ _ us hl => match us, hl with | [_], _ => rfl
  refine ⟨fd, F.ok sc_is_whole (fun vs H Q E h => len_is_whole h) (fun cdv A outer s H vs Q E hr h => ⟨_, PSs.nox ((pss_one (ps_ret (pe_and (pe_callB (call_isi) (by rfl) T.b_isinstance (by decide +kernel) (pa_cons (pv 0) (pa_cons (pe_bltn (v := .ty "int") (by rfl) T.b_int (by decide +kernel) rfl) pa_nil))) (pe_one (pe_not (pe_callB (call_isi) (by rfl) T.b_isinstance (by decide +kernel) (pa_cons (pv 0) (pa_cons (pe_bltn (v := .ty "bool") (by rfl) T.b_bool (by decide +kernel) rfl) pa_nil))))))))), ?_⟩), b, F.kp, fun_at F⟩
  obtain ⟨v, rfl, hv, k⟩ := h
  have kk := k H (.refl H)
  cases hv with
  | non => walk_at "nb.s"; exact kk
  | bl b => walk_at "nb.s"; exact kk
  | int i => walk_at "nb.s"; exact kk
  | str z => walk_at "nb.s"; exact kk
  | lst h => walk_at "nb.s"; exact kk
  | tup h => walk_at "nb.s"; exact kk
  | dK h =>
    walk_at "nb.s"
    refine isi_int (.dK h) ?_
    walk_at "nb.s"
    exact i_F kk
/-- OutOfRange(nm) is raised -/
def Rz (K : PySem.W.Frag) (nm : Str) (H : Hp) (E : XK) : Prop := ∀ d H', Ext H H' → H d = none → H' d = some (.xd [("name", .str nm)]) → E (.ref (ga K "OutOfRange")) (some d) H'
theorem Rz.ext {K : PySem.W.Frag} {nm : Str} {H H1 : Hp} {E : XK} (e : Ext H H1) (h : Rz K nm H E) : Rz K nm H1 E := fun d H' e1 n x => h d H' (e.trans e1) (e.free n) x
def spNeed_integer (K : PySem.W.Frag) : Sp := fun vs H Q E => ∃ (nm : Str) (v : V) (lo hi : Int), vs = [.str nm, v, .int lo, .int hi] ∧ AnyV H v ∧ (inR v lo hi → ∀ H', Ext H H' → Q .non H') ∧ (¬ inR v lo hi → Rz K nm H E)
theorem use_need {K : PySem.W.Frag} {nm : Str} {v : V} {lo hi : Int} {H : Hp} {Q : VK} {E : XK} (h : AnyV H v) (q : inR v lo hi → ∀ H', Ext H H' → Q .non H') (r : ¬ inR v lo hi → Rz K nm H E) : spNeed_integer K [.str nm, v, .int lo, .int hi] H Q E := ⟨nm, v, lo, hi, rfl, h, q, r⟩
theorem len_need_integer {K : PySem.W.Frag} {vs : List V} {H : Hp} {Q : VK} {E : XK} (h : spNeed_integer K vs H Q E) : vs.length = 4 := by
  obtain ⟨_, _, _, _, rfl, _⟩ := h
  rfl
theorem ok_need_integer (T : Txt K mg) : Good P w K mg base 3 (ga K "need_integer") ["name", "value", "low", "high"] (spNeed_integer K) := by
  obtain ⟨fd, F⟩ := T.d.def_ 8 (d := d_need_integer) rfl
  have b := F.bindsN (ps := ["name", "value", "low", "high"]) fun _ _ _ _ _ _ us hl => match us, hl with | [_, _, _, _], _ => rfl
  obtain ⟨f_is_whole, G_is_whole, b_is_whole, k_is_whole, l_is_whole⟩ := ok_is_whole (P := P) (w := w) (base := base) T
  obtain ⟨f_OutOfRange, I_OutOfRange, J_OutOfRange, _, _⟩ := ok_OutOfRange___init__ (P := P) (w := w) (base := base) T
  refine ⟨fd, F.ok sc_need_integer (fun vs H Q E h => len_need_integer h) (fun cdv A outer s H vs Q E hr h => ⟨_, (pss_one (ps_if (PW.pt (pw_or (pt_not (pt_val (pe_call G_is_whole (hr.mono (by decide)) rfl T.g_is_whole k_is_whole b_is_whole .nil passN (pa_cons (pv 1) pa_nil)))) (pw_or (pt_cmpR oLt (pv 1) (pv 2) (nomark _)) (pw_or1 (pt_cmpR oGt (pv 1) (pv 3) (nomark _)))))) (pss_one (L2N.ps_raise rfl (L2N.takes_of rfl rfl rfl rfl) (mkErr T.e_OutOfRange.o T.e_OutOfRange.i T.e_OutOfRange.t I_OutOfRange (hr.mono (by decide)) J_OutOfRange passN (by exact rfl) T.g_OutOfRange (by exact (pa_cons (pv 0) pa_nil))))) pss_nil)), ?_⟩), b, F.kp, fun_at F⟩
  obtain ⟨nm, v, lo, hi, rfl, hv, k, r⟩ := h
  have raise : ¬ inR v lo hi → ∀ H1, Ext H H1 → Rz K nm H1 E := fun hn H1 e => (r hn).ext e
  walk_at "nb.s"
  refine use_is_whole hv fun H1 e1 => ?_
  walk_at "nb.s"
  refine i_iteNB (fun hI => ?_) (fun hI => ?_)
  · walk_at "nb.s"
    exact mk1 fun d H2 e n x => raise (inR_not hI) H1 e1 d H2 e n x
  · obtain ⟨i, rfl⟩ := isI_int hI
    walk_at "nb.s"
    refine i_ite (fun h1 => ?_) (fun h1 => ?_)
    · walk_at "nb.s"
      exact mk1 fun d H2 e n x => raise (fun z => by have := inR_int.mp z; omega) H1 e1 d H2 e n x
    · walk_at "nb.s"
      refine i_ite (fun h2 => ?_) (fun h2 => ?_)
      · walk_at "nb.s"
        exact mk1 fun d H2 e n x => raise (fun z => by have := inR_int.mp z; omega) H1 e1 d H2 e n x
      · walk_at "nb.s"
        exact k (inR_int.mpr (by omega)) H1 e1
def OddQ (v : V) : Prop := ∃ n, v = .int n ∧ 3 ≤ n ∧ n ≤ 4095 ∧ n % 2 = 1
theorem OddQ.int {n : Int} : OddQ (.int n) ↔ 3 ≤ n ∧ n ≤ 4095 ∧ n % 2 = 1 := ⟨fun ⟨m, e, h⟩ => by cases e; exact h, fun h => ⟨n, rfl, h⟩⟩
def spNmw (K : PySem.W.Frag) : Sp := fun vs H Q E => ∃ (q v : V), vs = [q, v] ∧ AnyV H q ∧ AnyV H v ∧ (OddQ q → inR v 1 11 → ∀ H', Ext H H' → Q .non H') ∧ (¬ OddQ q → Rz K "q" H E) ∧ (OddQ q → ¬ inR v 1 11 → Rz K "width" H E)
theorem use_nmw {K : PySem.W.Frag} {q v : V} {H : Hp} {Q : VK} {E : XK} (hq : AnyV H q) (hv : AnyV H v) (k : OddQ q → inR v 1 11 → ∀ H', Ext H H' → Q .non H') (r1 : ¬ OddQ q → Rz K "q" H E) (r2 : OddQ q → ¬ inR v 1 11 → Rz K "width" H E) : spNmw K [q, v] H Q E := ⟨q, v, rfl, hq, hv, k, r1, r2⟩
theorem len_need_modulus_and_width {K : PySem.W.Frag} {vs : List V} {H : Hp} {Q : VK} {E : XK} (h : spNmw K vs H Q E) : vs.length = 2 := by
  obtain ⟨_, _, rfl, _⟩ := h
  rfl
theorem ok_need_modulus_and_width (T : Txt K mg) : Good P w K mg base 4 (ga K "need_modulus_and_width") ["q", "width"] (spNmw K) := by
  obtain ⟨fd, F⟩ := T.d.def_ 9 (d := d_need_modulus_and_width) rfl
  have b := F.bindsN (ps := ["q", "width"]) fun _ _ _ _ _ _ us hl => match us, hl with | [_, _], _ => rfl
  obtain ⟨f_need_integer, G_need_integer, b_need_integer, k_need_integer, l_need_integer⟩ := ok_need_integer (P := P) (w := w) (base := base) T
  obtain ⟨f_is_whole, G_is_whole, b_is_whole, k_is_whole, l_is_whole⟩ := ok_is_whole (P := P) (w := w) (base := base) T
  obtain ⟨f_OutOfRange, I_OutOfRange, J_OutOfRange, _, _⟩ := ok_OutOfRange___init__ (P := P) (w := w) (base := base) T
  refine ⟨fd, F.ok sc_need_modulus_and_width (fun vs H Q E h => len_need_modulus_and_width h) (fun cdv A outer s H vs Q E hr h => ⟨_, (pss_cons (ps_if (PW.pt (pw_or (pt_not (pt_val (pe_call G_is_whole (hr.mono (by decide)) rfl T.g_is_whole k_is_whole b_is_whole .nil passN (pa_cons (pv 0) pa_nil)))) (pw_or (pt_cmpR oLt (pv 0) pe_int (nomark _)) (pw_or (pt_cmpR oGt (pv 0) pe_int (nomark _)) (pw_or1 (pt_cmpR op_eq (pe_op oAnd (pv 0) pe_int) pe_int (nomark _))))))) (pss_one (L2N.ps_raise rfl (L2N.takes_of rfl rfl rfl rfl) (mkErr T.e_OutOfRange.o T.e_OutOfRange.i T.e_OutOfRange.t I_OutOfRange (hr.mono (by decide)) J_OutOfRange passN (by exact rfl) T.g_OutOfRange (by exact (pa_cons pe_str pa_nil))))) pss_nil) (pss_one (ps_expr (pe_callS G_need_integer (hr.mono (by decide)) rfl T.g_need_integer k_need_integer b_need_integer (fun σ => L2N.passAt (L2N.takes_of rfl rfl rfl rfl) σ) (pa_cons pe_str (pa_cons (pv 1) (pa_cons pe_int (pa_cons pe_int pa_nil)))))))), ?_⟩), b, F.kp, fun_at F⟩
  obtain ⟨qv, v, rfl, hq, hv, k, r1, r2⟩ := h
  walk_at "nb.s"
  refine use_is_whole hq fun H1 e1 => ?_
  walk_at "nb.s"
  refine i_iteNB (fun hI => ?_) (fun hI => ?_)
  · walk_at "nb.s"
    exact mk1 fun d H2 e n x => r1 (fun ⟨m, z, _⟩ => by rw [z] at hI; cases hI) d H2 (e1.trans e) (e1.free n) x
  · obtain ⟨i, rfl⟩ := isI_int hI
    walk_at "nb.s"
    refine i_ite (fun h1 => ?_) (fun h1 => ?_)
    · walk_at "nb.s"
      exact mk1 fun d H2 e n x => r1 (fun z => by have := OddQ.int.mp z; omega) d H2 (e1.trans e) (e1.free n) x
    · walk_at "nb.s"
      refine i_ite (fun h2 => ?_) (fun h2 => ?_)
      · walk_at "nb.s"
        exact mk1 fun d H2 e n x => r1 (fun z => by have := OddQ.int.mp z; omega) d H2 (e1.trans e) (e1.free n) x
      · walk_at "nb.s"
        rw [bitAnd_m1]
        refine i_ite (fun h3 => ?_) (fun h3 => ?_)
        · walk_at "nb.s"
          exact mk1 fun d H2 e n x => r1 (fun z => by have := OddQ.int.mp z; omega) d H2 (e1.trans e) (e1.free n) x
        · have ho : OddQ (.int i) := OddQ.int.mpr (by omega)
          walk_at "nb.s"
          refine use_need (hv.ext e1) (fun hr H2 e2 => ?_) (fun hr d H2 e n x => r2 ho hr d H2 (e1.trans e) (e1.free n) x)
          walk_at "nb.s"
          exact k ho hr H2 (e1.trans e2)
def codeOf (q m x : Int) : Int := (2 * m * x + q) / (2 * q) % m
theorem pow_w {w : Int} (h0 : 0 ≤ w) (h1 : w ≤ 12) : 1 ≤ (2 : Int) ^ w.toNat ∧ (2 : Int) ^ w.toNat ≤ 4096 := by
  obtain ⟨n, rfl⟩ := Int.eq_ofNat_of_zero_le h0
  have hn : n ≤ 12 := by omega
  rw [Int.toNat_natCast]
  match n, hn with
  | 0, _ => decide
  | 1, _ => decide
  | 2, _ => decide
  | 3, _ => decide
  | 4, _ => decide
  | 5, _ => decide
  | 6, _ => decide
  | 7, _ => decide
  | 8, _ => decide
  | 9, _ => decide
  | 10, _ => decide
  | 11, _ => decide
  | 12, _ => decide
  | j + 13, h => omega
def spCode_of : Sp := fun vs H Q _ => ∃ (q w x : Int), vs = [.int q, .int w, .int x] ∧ 0 < q ∧ q ≤ 4095 ∧ 0 ≤ w ∧ w ≤ 12 ∧ 0 ≤ x ∧ x ≤ 4095 ∧ Q (.int (codeOf q (2 ^ w.toNat) x)) H
theorem use_code {q w x : Int} {H : Hp} {Q : VK} {E : XK} (h1 : 0 < q) (h2 : q ≤ 4095) (h3 : 0 ≤ w) (h4 : w ≤ 12) (h5 : 0 ≤ x) (h6 : x ≤ 4095) (k : Q (.int (codeOf q (2 ^ w.toNat) x)) H) : spCode_of [.int q, .int w, .int x] H Q E := ⟨q, w, x, rfl, h1, h2, h3, h4, h5, h6, k⟩
theorem len_code_of {vs : List V} {H : Hp} {Q : VK} {E : XK} (h : spCode_of vs H Q E) : vs.length = 3 := by
  obtain ⟨_, _, _, rfl, _⟩ := h
  rfl
theorem ok_code_of (T : Txt K mg) : Good P w K mg base 1 (ga K "code_of") ["q", "width", "value"] spCode_of := by
  obtain ⟨fd, F⟩ := T.d.def_ 10 (d := d_code_of) rfl
  have b := F.bindsN (ps := ["q", "width", "value"]) fun _ _ _ _ _ _ us hl => match us, hl with | [_, _, _], _ => rfl
  refine ⟨fd, F.ok sc_code_of (fun vs H Q E h => len_code_of h) (fun cdv A outer s H vs Q E hr h => ⟨_, PSs.nox ((pss_cons (ps_set (i := 3) sc_code_of.nd rfl (Or.inl rfl) (pe_op oDiv (pe_op oAdd (pe_op oMul (pe_op oShl pe_int (pv 1)) (pv 2)) (pv 0)) (pe_op oMul pe_int (pv 0)))) (pss_one (ps_ret (pe_op oAnd (pv 3) (pe_op oSub (pe_op oShl pe_int (pv 1)) pe_int)))))), ?_⟩), b, F.kp, fun_at F⟩
  obtain ⟨q, w, x, rfl, h1, h2, h3, h4, h5, h6, k⟩ := h
  obtain ⟨m1, m2⟩ := pow_w h3 h4
  walk_at "nb.s"
  have e : Builtin.bitAnd ((2 * 2 ^ w.toNat * x + q) / (2 * q)) (1 * 2 ^ w.toNat - 1) = codeOf q (2 ^ w.toNat) x := by
    rw [Int.one_mul, PySem.W.kbt_mask]
    rfl
  rw [e]
  exact k
theorem use_whole {v : V} {H : Hp} {Q : VK} {E : XK} (h : AnyV H v) (q : ∀ H', Ext H H' → Q (.bl (isI v)) H') : spIs_whole [v] H Q E := ⟨v, rfl, h, q⟩
theorem len_law_whole {vs : List V} {H : Hp} {Q : VK} {E : XK} (h : spIs_whole vs H Q E) : vs.length = 1 := by
  obtain ⟨_, rfl, _⟩ := h
  rfl
theorem ok_law_whole (T : Txt K mg) : Good P w K mg base 1 (ga K "_law_whole") ["_law_actual"] spIs_whole := by
  obtain ⟨fd, F⟩ := T.d.def_ 25 (d := d_law_whole) rfl
  have b := F.bindsN (ps := ["_law_actual"]) fun _ _ _ _ _ _ us hl => match us, hl with | [_], _ => rfl
  refine ⟨fd, F.ok sc_law_whole (fun vs H Q E h => len_law_whole h) (fun cdv A outer s H vs Q E hr h => ⟨_, PSs.nox ((pss_one (ps_ret (pe_and (pe_callB (call_isi) (by rfl) T.b_isinstance (by decide +kernel) (pa_cons (pv 0) (pa_cons (pe_bltn (v := .ty "int") (by rfl) T.b_int (by decide +kernel) rfl) pa_nil))) (pe_one (pe_not (pe_callB (call_isi) (by rfl) T.b_isinstance (by decide +kernel) (pa_cons (pv 0) (pa_cons (pe_bltn (v := .ty "bool") (by rfl) T.b_bool (by decide +kernel) rfl) pa_nil))))))))), ?_⟩), b, F.kp, fun_at F⟩
  obtain ⟨v, rfl, hv, k⟩ := h
  have kk := k H (.refl H)
  cases hv with
  | non => walk_at "nb.s"; exact kk
  | bl b => walk_at "nb.s"; exact kk
  | int i => walk_at "nb.s"; exact kk
  | str z => walk_at "nb.s"; exact kk
  | lst h => walk_at "nb.s"; exact kk
  | tup h => walk_at "nb.s"; exact kk
  | dK h =>
    walk_at "nb.s"
    refine isi_int (.dK h) ?_
    walk_at "nb.s"
    exact i_F kk
def inRb (v : V) (lo hi : Int) : Bool := match v with
  | .int i => decide (lo ≤ i) && decide (i ≤ hi)
  | _ => false
theorem inRb_no {v : V} {lo hi : Int} (h : isI v = false) : inRb v lo hi = false := by
  cases v with
  | int i => cases h
  | _ => rfl
def spWithin : Sp := fun vs H Q _ => ∃ (v : V) (lo hi : Int), vs = [v, .int lo, .int hi] ∧ AnyV H v ∧ ∀ H', Ext H H' → Q (.bl (inRb v lo hi)) H'
theorem use_within {v : V} {lo hi : Int} {H : Hp} {Q : VK} {E : XK} (h : AnyV H v) (q : ∀ H', Ext H H' → Q (.bl (inRb v lo hi)) H') : spWithin [v, .int lo, .int hi] H Q E := ⟨v, lo, hi, rfl, h, q⟩
theorem len_law_within {vs : List V} {H : Hp} {Q : VK} {E : XK} (h : spWithin vs H Q E) : vs.length = 3 := by
  obtain ⟨_, _, _, rfl, _⟩ := h
  rfl
theorem ok_law_within (T : Txt K mg) : Good P w K mg base 2 (ga K "_law_within") ["_law_actual", "_law_low", "_law_high"] spWithin := by
  obtain ⟨fd, F⟩ := T.d.def_ 26 (d := d_law_within) rfl
  have b := F.bindsN (ps := ["_law_actual", "_law_low", "_law_high"]) fun _ _ _ _ _ _ us hl => match us, hl with | [_, _, _], _ => rfl
  obtain ⟨f_law_whole, G_law_whole, b_law_whole, k_law_whole, l_law_whole⟩ := ok_law_whole (P := P) (w := w) (base := base) T
  refine ⟨fd, F.ok sc_law_within (fun vs H Q E h => len_law_within h) (fun cdv A outer s H vs Q E hr h => ⟨_, PSs.nox ((pss_one (ps_ret (pe_and (pe_call G_law_whole (hr.mono (by decide)) rfl T.g__law_whole k_law_whole b_law_whole .nil passN (pa_cons (pv 0) pa_nil)) (pe_one (pe_chain oLe oLe (pv 1) (pv 0) (pv 2))))))), ?_⟩), b, F.kp, fun_at F⟩
  obtain ⟨v, lo, hi, rfl, hv, k⟩ := h
  walk_at "nb.s"
  refine use_whole hv fun H1 e1 => ?_
  have kk := k H1 e1
  walk_at "nb.s"
  refine i_iteB (fun hI => ?_) (fun hI => ?_)
  · obtain ⟨i, rfl⟩ := isI_int hI
    walk_at "nb.s"
    refine i_ite (fun h1 => ?_) (fun h1 => ?_)
    · walk_at "nb.s"
      have e : inRb (.int i) lo hi = decide (i ≤ hi) := by
        show (decide (lo ≤ i) && decide (i ≤ hi)) = _
        rw [decide_eq_true h1, Bool.true_and]
      rw [e] at kk
      exact kk
    · walk_at "nb.s"
      have e : inRb (.int i) lo hi = false := by
        show (decide (lo ≤ i) && decide (i ≤ hi)) = _
        rw [decide_eq_false h1, Bool.false_and]
      rw [e] at kk
      exact kk
  · rw [inRb_no hI] at kk
    exact kk
def spOdd : Sp := fun vs H Q _ => ∃ (st : Addr), vs = [.ref st] ∧ StoreOk H st ∧ ∀ (n : Int) H', Drew H st H' → 3 ≤ n → n ≤ 4095 → n % 2 = 1 → Q (.int n) H'
theorem use_odd {st : Addr} {H : Hp} {Q : VK} {E : XK} (h : StoreOk H st) (q : ∀ (n : Int) H', Drew H st H' → 3 ≤ n → n ≤ 4095 → n % 2 = 1 → Q (.int n) H') : spOdd [.ref st] H Q E := ⟨st, rfl, h, q⟩
theorem pow_even {w : Int} (h0 : 2 ≤ w) (h1 : w ≤ 11) : 4 ≤ (2 : Int) ^ w.toNat ∧ (2 : Int) ^ w.toNat ≤ 2048 ∧ (2 : Int) ^ w.toNat % 2 = 0 := by
  obtain ⟨n, rfl⟩ := Int.eq_ofNat_of_zero_le (by omega : 0 ≤ w)
  have hn : n ≤ 11 := by omega
  have hn2 : 2 ≤ n := by omega
  rw [Int.toNat_natCast]
  match n, hn, hn2 with
  | 2, _, _ => decide
  | 3, _, _ => decide
  | 4, _, _ => decide
  | 5, _, _ => decide
  | 6, _, _ => decide
  | 7, _, _ => decide
  | 8, _, _ => decide
  | 9, _, _ => decide
  | 10, _, _ => decide
  | 11, _, _ => decide
  | j + 12, h, _ => omega
theorem len_law_odd {vs : List V} {H : Hp} {Q : VK} {E : XK} (h : spOdd vs H Q E) : vs.length = 1 := by
  obtain ⟨_, rfl, _⟩ := h
  rfl
theorem ok_law_odd (T : Txt K mg) : Good P w K mg base 4 (ga K "_law_odd") ["_law_store"] spOdd := by
  obtain ⟨fd, F⟩ := T.d.def_ 27 (d := d_law_odd) rfl
  have b := F.bindsN (ps := ["_law_store"]) fun _ _ _ _ _ _ us hl => match us, hl with | [_], _ => rfl
  obtain ⟨f_law_take, G_law_take, b_law_take, k_law_take, l_law_take⟩ := ok_law_take (P := P) (w := w) (base := base) T
  obtain ⟨f_law_pick, G_law_pick, b_law_pick, k_law_pick, l_law_pick⟩ := ok_law_pick (P := P) (w := w) (base := base) T
  refine ⟨fd, F.ok sc_law_odd (fun vs H Q E h => len_law_odd h) (fun cdv A outer s H vs Q E hr h => ⟨_, PSs.nox ((pss_cons (ps_if (pt_cmpR op_eq (pe_call G_law_take (hr.mono (by decide)) rfl T.g__law_take k_law_take b_law_take .nil passN (pa_cons (pv 0) (pa_cons pe_int pa_nil))) pe_int (nomark _)) (pss_cons (ps_set (i := 1) sc_law_odd.nd rfl (Or.inl rfl) (pe_op oShl pe_int (pe_op oAdd pe_int (pe_call G_law_take (hr.mono (by decide)) rfl T.g__law_take k_law_take b_law_take .nil passN (pa_cons (pv 0) (pa_cons pe_int pa_nil)))))) (pss_one (ps_ret (pe_call G_law_pick (hr.mono (by decide)) rfl T.g__law_pick k_law_pick b_law_pick .nil passN (pa_cons (pv 0) (pa_cons (pe_lst (pa_cons pe_int (pa_cons (pe_op oSub (pv 1) pe_int) (pa_cons (pe_op oAdd (pv 1) pe_int) (pa_cons pe_int (pa_cons pe_int pa_nil)))))) pa_nil)))))) pss_nil) (pss_cons (ps_if (pt_cmpR op_eq (pe_call G_law_take (hr.mono (by decide)) rfl T.g__law_take k_law_take b_law_take .nil passN (pa_cons (pv 0) (pa_cons pe_int pa_nil))) pe_int (nomark _)) (pss_one (ps_ret (pe_call G_law_pick (hr.mono (by decide)) rfl T.g__law_pick k_law_pick b_law_pick .nil passN (pa_cons (pv 0) (pa_cons (pe_lst (pa_cons pe_int (pa_cons pe_int (pa_cons pe_int (pa_cons pe_int (pa_cons pe_int (pa_cons pe_int (pa_cons pe_int pa_nil)))))))) pa_nil))))) pss_nil) (pss_one (ps_ret (pe_op oAdd pe_int (pe_op oMul pe_int (pe_call G_law_take (hr.mono (by decide)) rfl T.g__law_take k_law_take b_law_take .nil passN (pa_cons (pv 0) (pa_cons pe_int pa_nil)))))))))), ?_⟩), b, F.kp, fun_at F⟩
  obtain ⟨st, rfl, ho, k⟩ := h
  walk_at "nb.s"
  refine use_take ho (draw_small (by decide)) fun n H1 d z0 z1 => ?_
  walk_at "nb.s"
  refine i_ite (fun h1 => ?_) (fun h1 => ?_)
  · walk_at "nb.s"
    refine use_take d.2 (draw_small (by decide)) fun m H2 d2 y0 y1 => ?_
    have y2 : m < 10 := y1
    walk_at "nb.s"
    obtain ⟨p1, p2, p3⟩ := pow_even (w := 2 + m) (by omega) (by omega)
    generalize (2 : Int) ^ (2 + m).toNat = z at *
    intro p hp
    walk_at "nb.s"
    refine use_pickN d2.2 hp (by walk_at "nb.len") fun i v H3 hi d3 => ?_
    have D := (d.trans d2).trans d3
    match i, hi with
    | 0, e => cases e; exact k _ _ D (by omega) (by omega) (by omega)
    | 1, e => cases e; exact k _ _ D (by omega) (by omega) (by omega)
    | 2, e => cases e; exact k _ _ D (by omega) (by omega) (by omega)
    | 3, e => cases e; exact k _ _ D (by omega) (by omega) (by omega)
    | 4, e => cases e; exact k _ _ D (by omega) (by omega) (by omega)
    | j + 5, e => cases e
  · walk_at "nb.s"
    refine use_take d.2 (draw_small (by decide)) fun m H2 d2 y0 y1 => ?_
    walk_at "nb.s"
    refine i_ite (fun h2 => ?_) (fun h2 => ?_)
    · walk_at "nb.s"
      intro p hp
      walk_at "nb.s"
      refine use_pickN d2.2 hp (by walk_at "nb.len") fun i v H3 hi d3 => ?_
      have D := (d.trans d2).trans d3
      match i, hi with
      | 0, e => cases e; exact k _ _ D (by decide) (by decide) (by decide)
      | 1, e => cases e; exact k _ _ D (by decide) (by decide) (by decide)
      | 2, e => cases e; exact k _ _ D (by decide) (by decide) (by decide)
      | 3, e => cases e; exact k _ _ D (by decide) (by decide) (by decide)
      | 4, e => cases e; exact k _ _ D (by decide) (by decide) (by decide)
      | 5, e => cases e; exact k _ _ D (by decide) (by decide) (by decide)
      | 6, e => cases e; exact k _ _ D (by decide) (by decide) (by decide)
      | j + 7, e => cases e
    · walk_at "nb.s"
      refine use_take d2.2 (draw_small (by decide)) fun u H3 d3 x0 x1 => ?_
      have x2 : u < 2047 := x1
      walk_at "nb.s"
      exact k _ _ ((d.trans d2).trans d3) (by omega) (by omega) (by omega)
def spBadOdd : Sp := fun vs H Q _ => ∃ (st : Addr), vs = [.ref st] ∧ StoreOk H st ∧ ∀ v H', Drew H st H' → AnyV H' v → ¬ OddQ v → v ≠ .ref st → Q v H'
theorem use_badOdd {st : Addr} {H : Hp} {Q : VK} {E : XK} (h : StoreOk H st) (q : ∀ v H', Drew H st H' → AnyV H' v → ¬ OddQ v → v ≠ .ref st → Q v H') : spBadOdd [.ref st] H Q E := ⟨st, rfl, h, q⟩
theorem len_law_bad_odd {vs : List V} {H : Hp} {Q : VK} {E : XK} (h : spBadOdd vs H Q E) : vs.length = 1 := by
  obtain ⟨_, rfl, _⟩ := h
  rfl
theorem ok_law_bad_odd (T : Txt K mg) : Good P w K mg base 5 (ga K "_law_bad_odd") ["_law_store"] spBadOdd := by
  obtain ⟨fd, F⟩ := T.d.def_ 28 (d := d_law_bad_odd) rfl
  have b := F.bindsN (ps := ["_law_store"]) fun _ _ _ _ _ _ us hl => match us, hl with | [_], _ => rfl
  obtain ⟨f_law_pick, G_law_pick, b_law_pick, k_law_pick, l_law_pick⟩ := ok_law_pick (P := P) (w := w) (base := base) T
  obtain ⟨f_law_take, G_law_take, b_law_take, k_law_take, l_law_take⟩ := ok_law_take (P := P) (w := w) (base := base) T
  obtain ⟨f_law_beyond, G_law_beyond, b_law_beyond, k_law_beyond, l_law_beyond⟩ := ok_law_beyond (P := P) (w := w) (base := base) T
  refine ⟨fd, F.ok sc_law_bad_odd (fun vs H Q E h => len_law_bad_odd h) (fun cdv A outer s H vs Q E hr h => ⟨_, PSs.nox ((pss_cons (ps_if (pt_cmpR op_eq (pe_call G_law_take (hr.mono (by decide)) rfl T.g__law_take k_law_take b_law_take .nil passN (pa_cons (pv 0) (pa_cons pe_int pa_nil))) pe_int (nomark _)) (pss_one (ps_ret (pe_call G_law_beyond (hr.mono (by decide)) rfl T.g__law_beyond k_law_beyond b_law_beyond .nil passN (pa_cons (pv 0) (pa_cons pe_int (pa_cons pe_int pa_nil)))))) pss_nil) (pss_one (ps_ret (pe_call G_law_pick (hr.mono (by decide)) rfl T.g__law_pick k_law_pick b_law_pick .nil passN (pa_cons (pv 0) (pa_cons (pe_lst (pa_cons pe_int (pa_cons pe_int (pa_cons pe_int (pa_cons pe_int (pa_cons pe_int (pa_cons pe_int (pa_cons pe_int (pa_cons pe_int (pa_cons pe_int (pa_cons (pe_negC (v := -3) pe_int (by decide +kernel)) (pa_cons (pe_negC (v := -17) pe_int (by decide +kernel)) (pa_cons (pe_op oAdd pe_int (pe_op oMul pe_int (pe_call G_law_take (hr.mono (by decide)) rfl T.g__law_take k_law_take b_law_take .nil passN (pa_cons (pv 0) (pa_cons pe_int pa_nil))))) pa_nil))))))))))))) pa_nil))))))), ?_⟩), b, F.kp, fun_at F⟩
  obtain ⟨st, rfl, ho, k⟩ := h
  have ki : ∀ (n : Int) H', Drew H st H' → (n < 3 ∨ 4095 < n ∨ n % 2 = 0) → Q (.int n) H' := fun n H' d c => k _ _ d (.int n) (fun z => by
    have z2 := OddQ.int.mp z
    omega) (fun q => nomatch q)
  walk_at "nb.s"
  refine use_take ho (draw_small (by decide)) fun n H1 d z0 z1 => ?_
  walk_at "nb.s"
  refine i_ite (fun h1 => ?_) (fun h1 => ?_)
  · walk_at "nb.s"
    exact use_beyond d.2 fun v H2 d2 a i nv => k v H2 (d.trans d2) a (fun ⟨m, e, m1, m2, _⟩ => i ⟨m, e, m1, m2⟩) nv
  · walk_at "nb.s"
    refine use_take d.2 (draw_small (by decide)) fun m H2 d2 y0 y1 => ?_
    walk_at "nb.s"
    intro p hp
    walk_at "nb.s"
    refine use_pickN d2.2 hp (by walk_at "nb.len") fun i v H3 hi d3 => ?_
    have D := (d.trans d2).trans d3
    match i, hi with
    | 0, e => cases e; exact ki _ _ D (by omega)
    | 1, e => cases e; exact ki _ _ D (by omega)
    | 2, e => cases e; exact ki _ _ D (by omega)
    | 3, e => cases e; exact ki _ _ D (by omega)
    | 4, e => cases e; exact ki _ _ D (by omega)
    | 5, e => cases e; exact ki _ _ D (by omega)
    | 6, e => cases e; exact ki _ _ D (by omega)
    | 7, e => cases e; exact ki _ _ D (by omega)
    | 8, e => cases e; exact ki _ _ D (by omega)
    | 9, e => cases e; exact ki _ _ D (by omega)
    | 10, e => cases e; exact ki _ _ D (by omega)
    | 11, e => cases e; exact ki _ _ D (by omega)
    | j + 12, e => cases e
def spWidth : Sp := fun vs H Q _ => ∃ (st : Addr) (m : Int), vs = [.ref st, .int m] ∧ StoreOk H st ∧ 1 ≤ m ∧ ∀ (n : Int) H', Drew H st H' → 1 ≤ n → n ≤ m → Q (.int n) H'
theorem use_width {st : Addr} {m : Int} {H : Hp} {Q : VK} {E : XK} (h : StoreOk H st) (hm : 1 ≤ m) (q : ∀ (n : Int) H', Drew H st H' → 1 ≤ n → n ≤ m → Q (.int n) H') : spWidth [.ref st, .int m] H Q E := ⟨st, m, rfl, h, hm, q⟩
theorem len_law_width {vs : List V} {H : Hp} {Q : VK} {E : XK} (h : spWidth vs H Q E) : vs.length = 2 := by
  obtain ⟨_, _, rfl, _⟩ := h
  rfl
theorem ok_law_width (T : Txt K mg) : Good P w K mg base 5 (ga K "_law_width") ["_law_store", "_law_most"] spWidth := by
  obtain ⟨fd, F⟩ := T.d.def_ 29 (d := d_law_width) rfl
  have b := F.bindsN (ps := ["_law_store", "_law_most"]) fun _ _ _ _ _ _ us hl => match us, hl with | [_, _], _ => rfl
  obtain ⟨f_law_between, G_law_between, b_law_between, k_law_between, l_law_between⟩ := ok_law_between (P := P) (w := w) (base := base) T
  refine ⟨fd, F.ok sc_law_width (fun vs H Q E h => len_law_width h) (fun cdv A outer s H vs Q E hr h => ⟨_, PSs.nox ((pss_one (ps_ret (pe_call G_law_between (hr.mono (by decide)) rfl T.g__law_between k_law_between b_law_between .nil passN (pa_cons (pv 0) (pa_cons pe_int (pa_cons (pv 1) pa_nil))))))), ?_⟩), b, F.kp, fun_at F⟩
  obtain ⟨st, m, rfl, ho, hm, k⟩ := h
  walk_at "nb.s"
  exact use_between ho fun n H' d h1 h2 => k n H' d h1 (by omega)
open L2H in
theorem pe_callPa {X : Cx} {k : Nat} {f : Addr} {fd : FuncData} {ps : List Str} {sp : Addr → Value → Option Addr → Sp} {c : Value} {d : Option Addr} {x : Str} {q pos : Pos} {e : Expr} {es : List Expr} {t : TA} {a : Addr} {oe : Obj}
    (F : FnP X.prog X.w X.K X.mg X.base k f fd ps sp) (hr : RoomH k X.A) (hot : Hot1 X.A (a, oe)) (hzc : Zc c d oe) (hp : (a, oe) ∈ X.pn) (hg : Gl X x) (hm : X.mg x = some (.ref f)) (hk : PySem.W.keepIn X.K (.ref f) = true) (hb : Binds X.K fd ps [])
    (ha : PA X (e :: es) t) (hdb : (x == ("__debug__" : Str)) = false := by decide)
    (he : starEach (e :: es) X.env = (false, eval e X.env) :: starEach es X.env := by rfl) (hpl : (backTo pos (starEach es X.env)).any (·.1) = false := by rfl) :
    PE X (.Call (.Name x q) (e :: es) [] pos) (tCallP sp a c d t) := pe_callP (p := (a, oe)) F hr hot hzc hp hg hm hk hb ha hdb he hpl
/-- told of an error OutOfRange(z), held at a -/
def spTell (K : PySem.W.Frag) (a : Addr) (c : Value) (d : Option Addr) : Sp := fun vs H Q _ => ∃ (dd : Addr) (z : Str), vs = [.ref a] ∧ c = .ref (ga K "OutOfRange") ∧ d = some dd ∧ H dd = some (.xd [("name", .str z)]) ∧
  ∀ t H', Ext H H' → H t = none → H' t = some (.tup [.str "refused", .str "OutOfRange", .str z]) → Q (.ref t) H'
theorem ok_law_tell (T : Txt K mg) : GoodP P w K mg base 1 (ga K "_law_tell") ["_law_error"] (spTell K) := by
  obtain ⟨fd, F⟩ := T.d.def_ 30 (d := d_law_tell) rfl
  have b := F.bindsN (ps := ["_law_error"]) fun _ _ _ _ _ _ us hl => match us, hl with | [_], _ => rfl
  refine ⟨fd, fnP_of F sc_law_tell (fun a c d vs H Q E h => ?_) (fun cdv A outer s H vs Q E p c d hot hz hr h => ?_), b, F.kp, fun_at F⟩
  · obtain ⟨dd, z, rfl, _⟩ := h
    rfl
  · obtain ⟨dd, z, rfl, rfl, rfl, hd, k⟩ := h
    have hp : (p.1, p.2) ∈ [p] := by
      cases p
      exact List.mem_cons_self ..
    have hf : ∃ vs, p.2.data = .fields vs := by
      obtain ⟨_, vs, e, _⟩ := hot
      exact ⟨vs, e⟩
    refine ⟨_, PSs.nox ((pss_cons (ps_set (i := 1) sc_law_tell.nd rfl (Or.inl rfl) (pe_callB (call_isPT T.e_OutOfRange.e hp hz hf) (by rfl) T.b_isinstance (by decide +kernel) (pa_cons (pv 0) (pa_cons (pe_tup (pa_cons (pe_glob (v := .ref (ga K "BadText")) rfl T.g_BadText rfl) (pa_cons (pe_glob (v := .ref (ga K "BadPadding")) rfl T.g_BadPadding rfl) (pa_cons (pe_glob (v := .ref (ga K "WrongPhase")) rfl T.g_WrongPhase rfl) (pa_cons (pe_glob (v := .ref (ga K "NotInvertible")) rfl T.g_NotInvertible rfl) (pa_cons (pe_glob (v := .ref (ga K "BadRing")) rfl T.g_BadRing rfl) (pa_cons (pe_glob (v := .ref (ga K "BadParameters")) rfl T.g_BadParameters rfl) (pa_cons (pe_glob (v := .ref (ga K "UnknownName")) rfl T.g_UnknownName rfl) pa_nil)))))))) pa_nil)))) (pss_cons (ps_set (i := 1) sc_law_tell.nd rfl (Or.inl rfl) (pe_or (pv 1) (pe_one (pe_callB (call_isPT T.e_OutOfRange.e hp hz hf) (by rfl) T.b_isinstance (by decide +kernel) (pa_cons (pv 0) (pa_cons (pe_tup (pa_cons (pe_glob (v := .ref (ga K "DifferentRings")) rfl T.g_DifferentRings rfl) (pa_cons (pe_glob (v := .ref (ga K "BadKey")) rfl T.g_BadKey rfl) (pa_cons (pe_glob (v := .ref (ga K "BadLetter")) rfl T.g_BadLetter rfl) (pa_cons (pe_glob (v := .ref (ga K "BadKeyText")) rfl T.g_BadKeyText rfl) (pa_cons (pe_glob (v := .ref (ga K "BadRecord")) rfl T.g_BadRecord rfl) (pa_cons (pe_glob (v := .ref (ga K "BadCommand")) rfl T.g_BadCommand rfl) pa_nil))))))) pa_nil)))))) (pss_cons (ps_set (i := 1) sc_law_tell.nd rfl (Or.inl rfl) (pe_or (pv 1) (pe_or (pe_callB (call_isPT T.e_OutOfRange.e hp hz hf) (by rfl) T.b_isinstance (by decide +kernel) (pa_cons (pv 0) (pa_cons (pe_tup (pa_cons (pe_glob (v := .ref (ga K "NoEntry")) rfl T.g_NoEntry rfl) (pa_cons (pe_glob (v := .ref (ga K "NothingLeft")) rfl T.g_NothingLeft rfl) pa_nil))) pa_nil))) (pe_one (pe_not (pe_callB (call_isP T.e_OutOfRange.e hp hz hf) (by rfl) T.b_isinstance (by decide +kernel) (pa_cons (pv 0) (pa_cons (pe_bltn (v := .ty "ValueError") (by rfl) T.b_ValueError (by decide +kernel) rfl) pa_nil)))))))) (pss_cons (ps_set (i := 2) sc_law_tell.nd rfl (Or.inl rfl) (pe_lst (pa_cons (pe_callB (call_isP T.e_OutOfRange.e hp hz hf) (by rfl) T.b_isinstance (by decide +kernel) (pa_cons (pv 0) (pa_cons (pe_glob (v := .ref (ga K "OutOfRange")) rfl T.g_OutOfRange rfl) pa_nil))) (pa_cons (pe_callB (call_isP T.e_OutOfRange.e hp hz hf) (by rfl) T.b_isinstance (by decide +kernel) (pa_cons (pv 0) (pa_cons (pe_glob (v := .ref (ga K "BadLength")) rfl T.g_BadLength rfl) pa_nil))) (pa_cons (pe_callB (call_isP T.e_OutOfRange.e hp hz hf) (by rfl) T.b_isinstance (by decide +kernel) (pa_cons (pv 0) (pa_cons (pe_glob (v := .ref (ga K "BadItem")) rfl T.g_BadItem rfl) pa_nil))) pa_nil))))) (pss_cons (ps_if (PW.pt (pw_or (pt_val (pv 1)) (pw_or1 (pt_cmpR op_ne (pe_bm PySem.F.plainAttrs_list PySem.F.slot_list_count PySem.F.type_list_count mCountB (pv 2) (pa_cons pe_bl pa_nil)) pe_int (nomark _))))) (pss_one ps_never) pss_nil) (pss_cons (ps_if (pt_val (pe_ix ix_list (pv 2) pe_int (fun _ _ => rfl))) (pss_one (ps_ret (pe_tup (pa_cons pe_str (pa_cons pe_str (pa_cons (pe_errFld T.e_OutOfRange.e.f (T.e_OutOfRange.n _ (by decide)) hp hz hf (pv 0)) pa_nil)))))) pss_nil) (pss_cons (ps_if (pt_val (pe_ix ix_list (pv 2) pe_int (fun _ _ => rfl))) (pss_one ps_never) pss_nil) (pss_one ps_never))))))))), ?_⟩
    walk_at "nb.s"
    intro t1 n1
    have hd1 := upd_old (o := HO.tup ((["BadText", "BadPadding", "WrongPhase", "NotInvertible", "BadRing", "BadParameters", "UnknownName"] : List Str).map fun D => V.ref (ga K D))) n1 hd
    walk_at "nb.s"
    refine i_isPTno T.e_OutOfRange (["BadText", "BadPadding", "WrongPhase", "NotInvertible", "BadRing", "BadParameters", "UnknownName"] : List Str) (by decide +kernel) upd_same hd1 ?_
    walk_at "nb.s"
    intro t2 n2
    have hd2 := upd_old (o := HO.tup ((["DifferentRings", "BadKey", "BadLetter", "BadKeyText", "BadRecord", "BadCommand"] : List Str).map fun D => V.ref (ga K D))) n2 hd1
    walk_at "nb.s"
    refine i_isPTno T.e_OutOfRange (["DifferentRings", "BadKey", "BadLetter", "BadKeyText", "BadRecord", "BadCommand"] : List Str) (by decide +kernel) upd_same hd2 ?_
    walk_at "nb.s"
    intro t3 n3
    have hd3 := upd_old (o := HO.tup ((["NoEntry", "NothingLeft"] : List Str).map fun D => V.ref (ga K D))) n3 hd2
    walk_at "nb.s"
    refine i_isPTno T.e_OutOfRange (["NoEntry", "NothingLeft"] : List Str) (by decide +kernel) upd_same hd3 ?_
    walk_at "nb.s"
    refine i_isPV T.e_OutOfRange hd3 ?_
    walk_at "nb.s"
    have e0 : Ext H _ := ((Ext.new (o := HO.tup ((["BadText", "BadPadding", "WrongPhase", "NotInvertible", "BadRing", "BadParameters", "UnknownName"] : List Str).map fun D => V.ref (ga K D))) n1).trans (Ext.new (o := HO.tup ((["DifferentRings", "BadKey", "BadLetter", "BadKeyText", "BadRecord", "BadCommand"] : List Str).map fun D => V.ref (ga K D))) n2)).trans (Ext.new (o := HO.tup ((["NoEntry", "NothingLeft"] : List Str).map fun D => V.ref (ga K D))) n3)
    refine i_isP T.e_OutOfRange (D := "OutOfRange") (b := true) (by decide) (by decide +kernel) hd3 ?_
    walk_at "nb.s"
    refine i_isP T.e_OutOfRange (D := "BadLength") (b := false) (by decide) (by decide +kernel) hd3 ?_
    walk_at "nb.s"
    refine i_isP T.e_OutOfRange (D := "BadItem") (b := false) (by decide) (by decide +kernel) hd3 ?_
    walk_at "nb.s"
    intro l nl
    walk_at "nb.s"
    refine i_count (bs := [true, false, false]) (sqL_of upd_same) ?_
    walk_at "nb.s"
    refine i_iteN (fun z => absurd (by decide) z) (fun _ => ?_)
    walk_at "nb.s"
    refine ⟨rfl, [("name", .str z)], .str z, upd_old nl hd3, rfl, ?_⟩
    walk_at "nb.s"
    intro t nt
    exact k t _ ((e0.trans (.new nl)).trans (.new nt)) (e0.free ((Ext.new nl).free nt)) upd_same
def spWidthFor : Sp := fun vs H Q _ => ∃ (st : Addr) (q : Int), vs = [.ref st, .int q] ∧ StoreOk H st ∧ ∀ (n : Int) H', Drew H st H' → 1 ≤ n → n ≤ 11 → Q (.int n) H'
theorem use_widthFor {st : Addr} {q : Int} {H : Hp} {Q : VK} {E : XK} (h : StoreOk H st) (k : ∀ (n : Int) H', Drew H st H' → 1 ≤ n → n ≤ 11 → Q (.int n) H') : spWidthFor [.ref st, .int q] H Q E := ⟨st, q, rfl, h, k⟩
theorem len_law_width_for {vs : List V} {H : Hp} {Q : VK} {E : XK} (h : spWidthFor vs H Q E) : vs.length = 2 := by
  obtain ⟨_, _, rfl, _⟩ := h
  rfl
theorem ok_law_width_for (T : Txt K mg) : Good P w K mg base 6 (ga K "_law_width_for") ["_law_store", "_law_q"] spWidthFor := by
  obtain ⟨fd, F⟩ := T.d.def_ 31 (d := d_law_width_for) rfl
  have b := F.bindsN (ps := ["_law_store", "_law_q"]) fun _ _ _ _ _ _ us hl => match us, hl with | [_, _], _ => rfl
  obtain ⟨f_law_take, G_law_take, b_law_take, k_law_take, l_law_take⟩ := ok_law_take (P := P) (w := w) (base := base) T
  obtain ⟨f_law_width, G_law_width, b_law_width, k_law_width, l_law_width⟩ := ok_law_width (P := P) (w := w) (base := base) T
  refine ⟨fd, F.ok sc_law_width_for (fun vs H Q E h => len_law_width_for h) (fun cdv A outer s H vs Q E hr h => ⟨_, PSs.nox ((pss_cons (ps_if (pt_cmpR op_eq (pe_call G_law_take (hr.mono (by decide)) rfl T.g__law_take k_law_take b_law_take .nil passN (pa_cons (pv 0) (pa_cons pe_int pa_nil))) pe_int (nomark _)) (pss_one (ps_ret (pe_call G_law_width (hr.mono (by decide)) rfl T.g__law_width k_law_width b_law_width .nil passN (pa_cons (pv 0) (pa_cons pe_int pa_nil))))) pss_nil) (pss_one (ps_ret (pe_callB (kMin2 rfl) (by rfl) T.b_min (by decide +kernel) (pa_cons pe_int (pa_cons (pe_callB (kMax2 rfl) (by rfl) T.b_max (by decide +kernel) (pa_cons pe_int (pa_cons (pe_op oAdd (pe_op oSub (pe_bits (pe_callTy (kInt) (by rfl) T.b_int (by decide +kernel) (pa_cons (pv 1) pa_nil))) pe_int) (pe_call G_law_take (hr.mono (by decide)) rfl T.g__law_take k_law_take b_law_take .nil passN (pa_cons (pv 0) (pa_cons pe_int pa_nil)))) pa_nil))) pa_nil))))))), ?_⟩), b, F.kp, fun_at F⟩
  obtain ⟨st, q, rfl, ho, k⟩ := h
  walk_at "nb.s"
  refine use_take ho (draw_small (by decide)) fun n H1 d z0 z1 => ?_
  walk_at "nb.s"
  refine i_ite (fun h1 => ?_) (fun h1 => ?_)
  · walk_at "nb.s"
    exact use_width d.2 (by decide) fun m H2 d2 y0 y1 => k m H2 (d.trans d2) y0 y1
  · walk_at "nb.s"
    refine use_take d.2 (draw_small (by decide)) fun m H2 d2 y0 y1 => ?_
    walk_at "nb.s"
    generalize ((Builtin.Int.intBits q : Nat) : Int) - 1 + m = z
    refine k _ _ (d.trans d2) ?_ ?_
    · split <;> split <;> omega
    · split <;> split <;> omega
theorem div_is {a b k : Int} (hb : 0 < b) (h1 : b * k ≤ a) (h2 : a < b * k + b) : a / b = k := by
  have h3 : k ≤ a / b := (Int.le_ediv_iff_mul_le hb).mpr (by rw [Int.mul_comm]; exact h1)
  have h4 : a / b < k + 1 := (Int.ediv_lt_iff_lt_mul hb).mpr (by rw [Int.add_mul, Int.mul_comm k]; omega)
  omega
def resR (q m c : Int) : Int := (2 * q * c + m) / (2 * m)
def resOf (q m c : Int) : Int := if resR q m c ≥ q then resR q m c - q else resR q m c
theorem resR_b {q m c : Int} (hq : 0 < q) (hm : 0 < m) (c0 : 0 ≤ c) (c1 : c ≤ m - 1) : 0 ≤ resR q m c ∧ resR q m c ≤ q ∧ 2 * (m * resR q m c) ≤ 2 * (q * c) + m ∧ 2 * (q * c) + m < 2 * (m * resR q m c) + 2 * m := by
  unfold resR
  generalize hr : (2 * q * c + m) / (2 * m) = r
  have h1 : 2 * m * r ≤ 2 * q * c + m := by
    rw [← hr]
    exact Int.mul_ediv_self_le (by omega)
  have h2 : 2 * q * c + m < 2 * m * r + 2 * m := by
    rw [← hr]
    exact Int.lt_mul_ediv_self_add (by omega)
  rw [Int.mul_assoc 2 m r, Int.mul_assoc 2 q c] at h1 h2
  have qc0 : 0 ≤ q * c := Int.mul_nonneg (by omega) c0
  have qc1 : q * c ≤ q * (m - 1) := Int.mul_le_mul_of_nonneg_left c1 (by omega)
  have e3 : q * (m - 1) = q * m - q := by rw [Int.mul_sub, Int.mul_one]
  have r0 : 0 ≤ r := by
    rw [← hr]
    refine Int.ediv_nonneg ?_ (by omega)
    rw [Int.mul_assoc]
    omega
  refine ⟨r0, ?_, h1, h2⟩
  have e4 : m * (q + 1) = q * m + m := by rw [Int.mul_add, Int.mul_one, Int.mul_comm]
  have h3 : m * r < m * (q + 1) := by omega
  have h4 := Int.lt_of_mul_lt_mul_left h3 (by omega)
  omega
theorem resOf_b {q m c : Int} (hq : 0 < q) (hm : 0 < m) (c0 : 0 ≤ c) (c1 : c ≤ m - 1) : 0 ≤ resOf q m c ∧ resOf q m c ≤ q - 1 := by
  obtain ⟨r0, r1, _⟩ := resR_b hq hm c0 c1
  unfold resOf
  split <;> omega
/-- what is_residue asks -/
theorem resOf_ok {q m c : Int} (hq : 0 < q) (hm : 0 < m) (c0 : 0 ≤ c) (c1 : c ≤ m - 1) :
    (-m ≤ 2 * (q * c - resOf q m c * m) ∧ 2 * (q * c - resOf q m c * m) < m) ∨ (resOf q m c = 0 ∧ -m ≤ 2 * (q * c - q * m) ∧ 2 * (q * c - q * m) < m) := by
  obtain ⟨r0, r1, h1, h2⟩ := resR_b hq hm c0 c1
  unfold resOf
  generalize resR q m c = r at *
  split
  · rename_i h
    have e : r = q := by omega
    subst e
    have em : m * r = r * m := Int.mul_comm ..
    exact .inr ⟨by omega, by omega, by omega⟩
  · have em : m * r = r * m := Int.mul_comm ..
    exact .inl ⟨by omega, by omega⟩
/-- few codes: back again -/
theorem code_res {q m c : Int} (hq : 0 < q) (hm : 0 < m) (h : m < q) (c0 : 0 ≤ c) (c1 : c ≤ m - 1) : codeOf q m (resOf q m c) = c := by
  obtain ⟨r0, r1, h1, h2⟩ := resR_b hq hm c0 c1
  have hr : resOf q m c = resR q m c := by
    unfold resOf
    rw [if_neg]
    intro hge
    have e : resR q m c = q := by omega
    rw [e] at h1
    have qc1 : q * c ≤ q * (m - 1) := Int.mul_le_mul_of_nonneg_left c1 (by omega)
    have e3 : q * (m - 1) = q * m - q := by rw [Int.mul_sub, Int.mul_one]
    have em : m * q = q * m := Int.mul_comm ..
    omega
  rw [hr]
  generalize resR q m c = r at *
  unfold codeOf
  have e : (2 * m * r + q) / (2 * q) = c := by
    refine div_is (by omega) ?_ ?_
    · rw [Int.mul_assoc, Int.mul_assoc]
      omega
    · rw [Int.mul_assoc, Int.mul_assoc]
      omega
  rw [e]
  exact Int.emod_eq_of_lt c0 (by omega)
/-- many codes: each residue comes back -/
theorem res_code {q m x : Int} (hq : 0 < q) (hm : 0 < m) (h : q < m) (x0 : 0 ≤ x) (x1 : x ≤ q - 1) : resOf q m (codeOf q m x) = x ∧ 0 ≤ codeOf q m x ∧ codeOf q m x ≤ m - 1 := by
  unfold codeOf
  generalize hr : (2 * m * x + q) / (2 * q) = r
  have h1 : 2 * q * r ≤ 2 * m * x + q := by
    rw [← hr]
    exact Int.mul_ediv_self_le (by omega)
  have h2 : 2 * m * x + q < 2 * q * r + 2 * q := by
    rw [← hr]
    exact Int.lt_mul_ediv_self_add (by omega)
  rw [Int.mul_assoc 2 q r, Int.mul_assoc 2 m x] at h1 h2
  have mx0 : 0 ≤ m * x := Int.mul_nonneg (by omega) x0
  have mx1 : m * x ≤ m * (q - 1) := Int.mul_le_mul_of_nonneg_left x1 (by omega)
  have e3 : m * (q - 1) = q * m - m := by rw [Int.mul_sub, Int.mul_one, Int.mul_comm]
  have r0 : 0 ≤ r := by
    rw [← hr]
    refine Int.ediv_nonneg ?_ (by omega)
    rw [Int.mul_assoc]
    omega
  have r1 : r < m := by
    have h3 : q * r < q * m := by omega
    exact Int.lt_of_mul_lt_mul_left h3 (by omega)
  rw [Int.emod_eq_of_lt r0 r1]
  refine ⟨?_, r0, by omega⟩
  have e : resR q m r = x := by
    unfold resR
    refine div_is (by omega) ?_ ?_
    · rw [Int.mul_assoc, Int.mul_assoc]
      omega
    · rw [Int.mul_assoc, Int.mul_assoc]
      omega
  unfold resOf
  rw [e, if_neg (by omega)]
def spResidue_of : Sp := fun vs H Q _ => ∃ (q w x : Int), vs = [.int q, .int w, .int x] ∧ 0 < q ∧ q ≤ 4095 ∧ 0 ≤ w ∧ w ≤ 12 ∧ 0 ≤ x ∧ x ≤ 4096 ∧ Q (.int (resOf q (2 ^ w.toNat) x)) H
theorem use_residue {q w x : Int} {H : Hp} {Q : VK} {E : XK} (h1 : 0 < q) (h2 : q ≤ 4095) (h3 : 0 ≤ w) (h4 : w ≤ 12) (h5 : 0 ≤ x) (h6 : x ≤ 4096) (k : Q (.int (resOf q (2 ^ w.toNat) x)) H) : spResidue_of [.int q, .int w, .int x] H Q E := ⟨q, w, x, rfl, h1, h2, h3, h4, h5, h6, k⟩
theorem len_residue_of {vs : List V} {H : Hp} {Q : VK} {E : XK} (h : spResidue_of vs H Q E) : vs.length = 3 := by
  obtain ⟨_, _, _, rfl, _⟩ := h
  rfl
theorem ok_residue_of (T : Txt K mg) : Good P w K mg base 1 (ga K "residue_of") ["q", "width", "code"] spResidue_of := by
  obtain ⟨fd, F⟩ := T.d.def_ 11 (d := d_residue_of) rfl
  have b := F.bindsN (ps := ["q", "width", "code"]) fun _ _ _ _ _ _ us hl => match us, hl with | [_, _, _], _ => rfl
  refine ⟨fd, F.ok sc_residue_of (fun vs H Q E h => len_residue_of h) (fun cdv A outer s H vs Q E hr h => ⟨_, PSs.nox ((pss_cons (ps_set (i := 3) sc_residue_of.nd rfl (Or.inl rfl) (pe_op oDiv (pe_op oAdd (pe_op oMul (pe_op oMul pe_int (pv 0)) (pv 2)) (pe_op oShl pe_int (pv 1))) (pe_op oShl pe_int (pv 1)))) (pss_cons (ps_if (pt_cmpR oGe (pv 3) (pv 0) (nomark _)) (pss_one (ps_ret (pe_op oSub (pv 3) (pv 0)))) pss_nil) (pss_one (ps_ret (pv 3)))))), ?_⟩), b, F.kp, fun_at F⟩
  obtain ⟨q, w, x, rfl, h1, h2, h3, h4, h5, h6, k⟩ := h
  obtain ⟨m1, m2⟩ := pow_w h3 h4
  have one : (1 : Int) * 2 ^ w.toNat = 2 ^ w.toNat := Int.one_mul _
  walk_at "nb.s"
  rw [one]
  unfold resOf resR at k
  refine i_ite (fun h => ?_) (fun h => ?_)
  · walk_at "nb.s"
    rw [if_pos h] at k
    exact k
  · walk_at "nb.s"
    rw [if_neg h] at k
    exact k
theorem in_list {ns : List Int} {P : Int → Prop} (h : ∀ n ∈ ns, P n) {i : Nat} {v : V} (e : (ns.map V.int)[i]? = some v) : ∃ n, v = V.int n ∧ P n := by
  rw [List.getElem?_map] at e
  cases q : ns[i]? with
  | none => rw [q] at e; cases e
  | some z => rw [q] at e; cases e; exact ⟨z, rfl, h z (List.mem_of_getElem? q)⟩
theorem rgV_ints {q : Int} (h0 : 0 ≤ q) : ∃ ns : List Int, rgV 0 q = ns.map V.int ∧ ns.length = q.toNat ∧ ∀ n ∈ ns, 0 ≤ n ∧ n ≤ q - 1 := by
  refine ⟨(List.range (q - 0).toNat).map fun i => (0 : Int) + (i : Nat), ?_, ?_, fun n hn => ?_⟩
  · unfold rgV
    rw [List.map_map]
    rfl
  · rw [List.length_map, List.length_range, Int.sub_zero]
  · obtain ⟨i, hi, rfl⟩ := List.mem_map.mp hn
    have := List.mem_range.mp hi
    omega
theorem takes_ok {st : Addr} {H : Hp} {many : Int} {te : TE} {ws : List Nat} {σ : Sl} {j n : Nat} {Q : VK} (ho : StoreOk H st) (hn : n ≤ 16000000) (hm : many ≤ drawMax) (hw : ∀ x, wipe ((wipe σ ws).set j (some x)) ws = wipe σ ws)
    (ht : ∀ (i : Nat) H2 Q2, StoreOk H2 st → spTake [.ref st, .int many] H2 Q2 E0 → te ((wipe σ ws).set j (some (.int (0 + (i : Int))))) H2 Q2)
    (k : ∀ D H2 (ns : List Int), H D = none → Drew H st H2 → H2 D = some (.lst (ns.map V.int)) → ns.length = n → (∀ z ∈ ns, 0 ≤ z ∧ z < (if many > 1 then many else 1)) → Q (.ref D) H2) : CR (gName j) tYes te ws σ 0 n H Q := by
  refine cr_of (Drew H st) (fun _ y => ∃ z : Int, y = V.int z ∧ 0 ≤ z ∧ z < (if many > 1 then many else 1)) hn (keeps_drew ho) hw (fun i H2 Q2 hi d k2 => ?_) (fun D H2 ys hD d e el ep => ?_)
  · refine ht i H2 Q2 d.2 (use_take d.2 hm fun z H3 d3 z0 z1 => k2 _ H3 (d.trans d3) (.inr fun D o hD e => ?_) ⟨z, rfl, z0, z1⟩)
    exact d3.1 D o (ho.ne hD) e
  · obtain ⟨ns, rfl, hp⟩ := ints_ofP (P := fun z => 0 ≤ z ∧ z < (if many > 1 then many else 1)) ep
    rw [List.length_map] at el
    exact k D H2 ns hD d e el hp
def SpotsAt (H : Hp) (p : Addr) (q : Int) (m : Nat) : Prop := ∃ ns : List Int, H p = some (.lst (ns.map V.int)) ∧ 0 < ns.length ∧ ns.length ≤ m ∧ ∀ n ∈ ns, 0 ≤ n ∧ n ≤ q - 1
theorem SpotsAt.ext {H H' : Hp} {p : Addr} {q : Int} {m : Nat} (h : SpotsAt H p q m) (e : Ext H H') : SpotsAt H' p q m := by
  obtain ⟨ns, h1, h2⟩ := h
  exact ⟨ns, e _ _ h1, h2⟩
theorem SpotsAt.exX {H H' : Hp} {st p : Addr} {q : Int} {m : Nat} (h : SpotsAt H p q m) (e : ExX st H H') (n : p ≠ st) : SpotsAt H' p q m := by
  obtain ⟨ns, h1, h2⟩ := h
  exact ⟨ns, e _ _ n h1, h2⟩
def spSpots : Sp := fun vs H Q _ => ∃ (st : Addr) (q w : Int), vs = [.ref st, .int q, .int w] ∧ StoreOk H st ∧ 3 ≤ q ∧ q ≤ 4095 ∧ 1 ≤ w ∧ w ≤ 11 ∧ ∀ p H', Drew H st H' → p ≠ st → SpotsAt H' p q 100000 → Q (.ref p) H'
theorem use_spots {st : Addr} {q w : Int} {H : Hp} {Q : VK} {E : XK} (h : StoreOk H st) (h1 : 3 ≤ q ∧ q ≤ 4095) (h2 : 1 ≤ w ∧ w ≤ 11) (k : ∀ p H', Drew H st H' → p ≠ st → SpotsAt H' p q 100000 → Q (.ref p) H') : spSpots [.ref st, .int q, .int w] H Q E := ⟨st, q, w, rfl, h, h1.1, h1.2, h2.1, h2.2, k⟩
theorem edge_ok {q m c : Int} (hq : 0 < q) (hm : 0 < m) (c0 : 0 ≤ c) (c1 : c ≤ m - 1) : 0 ≤ (2 * c + 1) * q / (2 * m) ∧ (2 * c + 1) * q / (2 * m) ≤ q - 1 := by
  refine ⟨Int.ediv_nonneg (Int.mul_nonneg (by omega) (by omega)) (by omega), ?_⟩
  have h : (2 * c + 1) * q < q * (2 * m) := by
    rw [Int.mul_comm q]
    exact Int.mul_lt_mul_of_pos_right (by omega) hq
  have := Int.ediv_lt_of_lt_mul (by omega : 0 < 2 * m) h
  omega
theorem len_law_spots {vs : List V} {H : Hp} {Q : VK} {E : XK} (h : spSpots vs H Q E) : vs.length = 3 := by
  obtain ⟨_, _, _, rfl, _⟩ := h
  rfl
theorem ok_law_spots (T : Txt K mg) : Good P w K mg base 3 (ga K "_law_spots") ["_law_store", "_law_q", "_law_width_here"] spSpots := by
  obtain ⟨fd, F⟩ := T.d.def_ 32 (d := d_law_spots) rfl
  have b := F.bindsN (ps := ["_law_store", "_law_q", "_law_width_here"]) fun _ _ _ _ _ _ us hl => match us, hl with | [_, _, _], _ => rfl
  obtain ⟨f_law_take, G_law_take, b_law_take, k_law_take, l_law_take⟩ := ok_law_take (P := P) (w := w) (base := base) T
  refine ⟨fd, F.ok sc_law_spots (fun vs H Q E h => len_law_spots h) (fun cdv A outer s H vs Q E hr h => ⟨_, PSs.nox ((pss_cons (ps_if (PW.pt (pw_or (pt_cmpR oLe (pv 1) pe_int (nomark _)) (pw_or1 (pt_cmpR op_eq (pe_call G_law_take (hr.mono (by decide)) rfl T.g__law_take k_law_take b_law_take .nil passN (pa_cons (pv 0) (pa_cons pe_int pa_nil))) pe_int (nomark _))))) (pss_one (ps_ret (pe_listRg rfl (by rfl) T.b_list (prg_1 rfl T.b_range (pv 1))))) pss_nil) (pss_cons (ps_set (i := 3) sc_law_spots.nd rfl (Or.inr rfl) (pe_op oShl pe_int (pv 2))) (pss_cons (ps_set (i := 4) sc_law_spots.nd rfl (Or.inl rfl) (pe_lst (pa_cons pe_int (pa_cons pe_int (pa_cons (pe_op oSub (pv 1) pe_int) (pa_cons (pe_op oDiv (pe_op oSub (pv 1) pe_int) pe_int) (pa_cons (pe_op oDiv (pe_op oAdd (pv 1) pe_int) pe_int) pa_nil))))))) (pss_cons (ps_for PassesOwn.never rfl (pi_list (pe_op op_cat (pe_lst (pa_cons pe_int (pa_cons (pe_op oDiv (pv 3) pe_int) (pa_cons (pe_op oSub (pv 3) pe_int) pa_nil)))) (pe_lc (own := [("_law_turn", 7)]) (g := gName 7) (tt := tYes) rfl sc_law_spots.nd (pi_range1 rfl T.b_range (pa_cons pe_int pa_nil)) (blkOk_by (own := [("_law_turn", 7)]) (N := ["_law_store", "_law_q", "_law_width_here", "_law_many", "_law_found", "_law_code", "_law_edge", "_law_turn"]) (sc := defScope s_law_spots) (by decide +kernel)) (fun _ _ _ _ _ => pg_name (i := 7) sc_law_spots.nd rfl (Or.inl rfl)) (fun _ _ _ _ _ => pts_nil) (fun _ _ _ _ _ => (pe_call G_law_take (hr.mono (by decide)) rfl T.g__law_take k_law_take b_law_take .nil passN (pa_cons (pv 0) (pa_cons (pv 3) pa_nil))))))) (pg_name (i := 5) sc_law_spots.nd rfl (Or.inl rfl)) (pss_cons (ps_set (i := 6) sc_law_spots.nd rfl (Or.inl rfl) (pe_op oDiv (pe_op oMul (pe_op oAdd (pe_op oMul pe_int (pv 5)) pe_int) (pv 1)) (pe_op oMul pe_int (pv 3)))) (pss_one (ps_set (i := 4) sc_law_spots.nd rfl (Or.inl rfl) (pe_op op_cat (pv 4) (pe_lst (pa_cons (pv 6) (pa_cons (pe_callB (kMin2 rfl) (by rfl) T.b_min (by decide +kernel) (pa_cons (pe_op oSub (pv 1) pe_int) (pa_cons (pe_op oAdd (pv 6) pe_int) pa_nil))) pa_nil)))))))) (pss_one (ps_ret (pe_op op_cat (pv 4) (pe_lc (own := [("_law_turn", 7)]) (g := gName 7) (tt := tYes) rfl sc_law_spots.nd (pi_range1 rfl T.b_range (pa_cons pe_int pa_nil)) (blkOk_by (own := [("_law_turn", 7)]) (N := ["_law_store", "_law_q", "_law_width_here", "_law_many", "_law_found", "_law_code", "_law_edge", "_law_turn"]) (sc := defScope s_law_spots) (by decide +kernel)) (fun _ _ _ _ _ => pg_name (i := 7) sc_law_spots.nd rfl (Or.inl rfl)) (fun _ _ _ _ _ => pts_nil) (fun _ _ _ _ _ => (pe_call G_law_take (hr.mono (by decide)) rfl T.g__law_take k_law_take b_law_take .nil passN (pa_cons (pv 0) (pa_cons (pv 1) pa_nil))))))))))))), ?_⟩), b, F.kp, fun_at F⟩
  obtain ⟨st, q, w, rfl, ho, q0, q1, w0, w1, k⟩ := h
  obtain ⟨m1, m2⟩ := pow_w (w := w) (by omega) (by omega)
  have one : (1 : Int) * 2 ^ w.toNat = 2 ^ w.toNat := Int.one_mul _
  have whole : ∀ H1, Drew H st H1 → ∀ l, H1 l = none → Q (.ref l) (upd H1 l (.lst (rgV 0 q))) := fun H1 d l nl => by
    obtain ⟨ns, e, el, ep⟩ := rgV_ints (q := q) (by omega)
    rw [e]
    exact k l _ (d.new nl) (d.ne nl) ⟨ns, upd_same, by omega, by omega, ep⟩
  walk_at "nb.s"
  refine i_ite (fun h1 => ?_) (fun h1 => ?_)
  · walk_at "nb.s"
    exact ⟨.of_le (by omega) (by omega) (by omega) (by omega), whole H (.refl ho)⟩
  · walk_at "nb.s"
    refine use_take ho (draw_small (by decide)) fun n H1 d z0 z1 => ?_
    walk_at "nb.s"
    refine i_ite (fun h2 => ?_) (fun h2 => ?_)
    · walk_at "nb.s"
      exact ⟨.of_le (by omega) (by omega) (by omega) (by omega), whole H1 d⟩
    · walk_at "nb.s"
      rw [one]
      generalize (2 : Int) ^ w.toNat = m at *
      walk_at "nb.s"
      intro p hp
      walk_at "nb.s"
      intro p2 hp2
      walk_at "nb.s"
      have d2 := (d.new (o := .lst [.int 0, .int 1, .int (q - 1), .int ((q - 1) / 2), .int ((q + 1) / 2)]) hp).new (o := .lst [.int 0, .int (m / 2), .int (m - 1)]) hp2
      have f0 : SpotsAt (upd (upd H1 p (.lst [.int 0, .int 1, .int (q - 1), .int ((q - 1) / 2), .int ((q + 1) / 2)])) p2 (.lst [.int 0, .int (m / 2), .int (m - 1)])) p q 5 := by
        refine ⟨[0, 1, q - 1, (q - 1) / 2, (q + 1) / 2], upd_old hp2 upd_same, by show 0 < 5; omega, by show 5 ≤ 5; omega, fun n hn => ?_⟩
        simp only [List.mem_cons, List.not_mem_nil, or_false] at hn
        omega
      have f2 : upd (upd H1 p (.lst [.int 0, .int 1, .int (q - 1), .int ((q - 1) / 2), .int ((q + 1) / 2)])) p2 (.lst [.int 0, .int (m / 2), .int (m - 1)]) p2 = some (.lst [.int 0, .int (m / 2), .int (m - 1)]) := upd_same
      have np : p ≠ st := d.ne hp
      have np2 : p2 ≠ st := (d.new hp).ne hp2
      generalize upd (upd H1 p (.lst [.int 0, .int 1, .int (q - 1), .int ((q - 1) / 2), .int ((q + 1) / 2)])) p2 (.lst [.int 0, .int (m / 2), .int (m - 1)]) = G at *
      refine i_rng1 (by decide) (by decide) ?_
      refine takes_ok (many := m) d2.2 (by decide) (draw_small (by omega)) (fun x => rfl) (fun i H2 Q2 o2 z => ?_) fun D H2 ns nD d3 e el ep => ?_
      · walk_at "nb.s"
        exact z
      walk_at "nb.s"
      refine i_cat (d3.1 _ _ np2 f2) e (by rw [List.length_map, el]; show 3 + 5 ≤ 16777216; decide) fun a na => ?_
      have f3 : SpotsAt H2 p q 5 := f0.exX d3.1 np
      have hm1 : (if m > 1 then m else 1) = m := if_neg_or_pos (by omega)
      rw [hm1] at ep
      have codes : ∀ z ∈ [0, m / 2, m - 1] ++ ns, 0 ≤ z ∧ z ≤ m - 1 := fun z hz => by
        rcases List.mem_append.mp hz with hz | hz
        · simp only [List.mem_cons, List.not_mem_nil, or_false] at hz
          omega
        · have := ep z hz
          omega
      have el5 : ([0, m / 2, m - 1] ++ ns).length = 8 := by rw [List.length_append, el]; rfl
      have el6 : [V.int 0, V.int (m / 2), V.int (m - 1)] ++ ns.map V.int = ([0, m / 2, m - 1] ++ ns).map V.int := by rw [List.map_append]; rfl
      rw [el6]
      generalize [0, m / 2, m - 1] ++ ns = cs at *
      have na2 : a ≠ st := d3.ne na
      refine i_listOf (P := True) (sqL_of upd_same) ?_
      refine fl_of (xs := cs.map V.int) (fun i σ' H' => ∃ f vc ve, σ' = [some (.ref st), some (.int q), some (.int w), some (.int m), some (.ref f), vc, ve, none] ∧ Drew H st H' ∧ f ≠ st ∧ SpotsAt H' f q (5 + 2 * i) ∧ H' a = some (.lst (cs.map V.int))) ?_ ?_ ?_ ?_
      · exact ⟨p, _, _, rfl, d2.trans (d3.new na), np, f3.ext (.new na), upd_same⟩
      · rintro i σ' H' hi ⟨f, vc, ve, rfl, dd, nf, fs, ha⟩
        exact sqL_of ha
      · rintro i x σ' H' hx ⟨f, vc, ve, rfl, dd, nf, ⟨fs, f1, f2, f4, f5⟩, ha⟩
        obtain ⟨z, rfl, z0, z1⟩ := in_list codes hx
        have hi : i < 8 := by
          have := (List.getElem?_eq_some_iff.mp hx).1
          rw [List.length_map] at this
          omega
        obtain ⟨g0, g1⟩ := edge_ok (q := q) (m := m) (c := z) (by omega) (by omega) z0 z1
        walk_at "nb.s"
        generalize (2 * z + 1) * q / (2 * m) = g at *
        walk_at "nb.s"
        intro l nl
        walk_at "nb.s"
        refine i_cat (upd_old nl f1) upd_same (by rw [List.length_map]; show fs.length + 2 ≤ 16777216; omega) fun l2 nl2 => ?_
        walk_at "nb.s"
        refine ⟨l2, _, _, rfl, (dd.new nl).new nl2, (dd.new nl).ne nl2, ?_, upd_old nl2 (upd_old nl ha)⟩
        split
        · exact ⟨fs ++ [g, g + 1], by rw [List.map_append]; exact upd_same, by rw [List.length_append]; omega, by rw [List.length_append]; show fs.length + 2 ≤ _; omega, fun n hn => by
            rcases List.mem_append.mp hn with hn | hn
            · exact f5 n hn
            · simp only [List.mem_cons, List.not_mem_nil, or_false] at hn
              omega⟩
        · exact ⟨fs ++ [g, q - 1], by rw [List.map_append]; exact upd_same, by rw [List.length_append]; omega, by rw [List.length_append]; show fs.length + 2 ≤ _; omega, fun n hn => by
            rcases List.mem_append.mp hn with hn | hn
            · exact f5 n hn
            · simp only [List.mem_cons, List.not_mem_nil, or_false] at hn
              omega⟩
      · rintro σ' H' ⟨f, vc, ve, rfl, dd, nf, ⟨fs, f1, f2, f4, f5⟩, ha⟩
        rw [List.length_map, el5] at f4
        walk_at "nb.s"
        refine i_rng1 (by decide) (by decide) ?_
        refine takes_ok (many := q) dd.2 (by decide) (draw_small (by omega)) (fun x => rfl) (fun i H2 Q2 o2 z => ?_) fun D H2 ns nD d3 e el ep => ?_
        · walk_at "nb.s"
          exact z
        have hq1 : (if q > 1 then q else 1) = q := if_neg_or_pos (by omega)
        rw [hq1] at ep
        walk_at "nb.s"
        refine i_cat (d3.1 _ _ nf f1) e (by rw [List.length_map, List.length_map, el]; show fs.length + 6 ≤ 16777216; omega) fun l nl => ?_
        walk_at "nb.s"
        refine k l _ ((dd.trans d3).new nl) ((dd.trans d3).ne nl) ⟨fs ++ ns, by rw [List.map_append]; exact upd_same, by rw [List.length_append]; omega, by rw [List.length_append, el]; show fs.length + 6 ≤ _; omega, fun n hn => ?_⟩
        rcases List.mem_append.mp hn with hn | hn
        · exact f5 n hn
        · have := ep n hn
          omega
/-- the unwrapped code, and the unwrapped residue of it -/
def rawC (q m x : Int) : Int := (2 * m * x + q) / (2 * q)
def bnd (q m : Int) : Int := (q + m) / (2 * m)
theorem rawC_b {q m x : Int} (hq : 0 < q) (hm : 0 < m) (x0 : 0 ≤ x) (x1 : x ≤ q - 1) : 0 ≤ rawC q m x ∧ rawC q m x ≤ m ∧ 2 * (q * rawC q m x) ≤ 2 * (m * x) + q ∧ 2 * (m * x) + q < 2 * (q * rawC q m x) + 2 * q := by
  unfold rawC
  generalize hr : (2 * m * x + q) / (2 * q) = r
  have h1 : 2 * q * r ≤ 2 * m * x + q := by
    rw [← hr]
    exact Int.mul_ediv_self_le (by omega)
  have h2 : 2 * m * x + q < 2 * q * r + 2 * q := by
    rw [← hr]
    exact Int.lt_mul_ediv_self_add (by omega)
  rw [Int.mul_assoc 2 q r, Int.mul_assoc 2 m x] at h1 h2
  have mx0 : 0 ≤ m * x := Int.mul_nonneg (by omega) x0
  have mx1 : m * x ≤ m * (q - 1) := Int.mul_le_mul_of_nonneg_left x1 (by omega)
  have e3 : m * (q - 1) = q * m - m := by rw [Int.mul_sub, Int.mul_one, Int.mul_comm]
  have r0 : 0 ≤ r := by
    rw [← hr]
    refine Int.ediv_nonneg ?_ (by omega)
    rw [Int.mul_assoc]
    omega
  refine ⟨r0, ?_, h1, h2⟩
  have e4 : q * (m + 1) = q * m + q := by rw [Int.mul_add, Int.mul_one]
  have h3 : q * r < q * (m + 1) := by omega
  have h4 := Int.lt_of_mul_lt_mul_left h3 (by omega)
  omega
theorem bnd_b {q m : Int} (hq : 0 < q) (hm : 2 ≤ m) (oq : q % 2 = 1) (em : m % 2 = 0) : 0 ≤ bnd q m ∧ 2 * bnd q m < q ∧ 2 * (m * bnd q m) ≤ q + m ∧ q + m < 2 * (m * bnd q m) + 2 * m ∧ (bnd q m = 0 ↔ q < m) := by
  unfold bnd
  generalize hr : (q + m) / (2 * m) = r
  have h1 : 2 * m * r ≤ q + m := by
    rw [← hr]
    exact Int.mul_ediv_self_le (by omega)
  have h2 : q + m < 2 * m * r + 2 * m := by
    rw [← hr]
    exact Int.lt_mul_ediv_self_add (by omega)
  rw [Int.mul_assoc 2 m r] at h1 h2
  have r0 : 0 ≤ r := by
    rw [← hr]
    exact Int.ediv_nonneg (by omega) (by omega)
  have z : r = 0 ↔ q < m := by
    constructor
    · intro h
      rw [h, Int.mul_zero] at h2
      omega
    · intro h
      apply Classical.byContradiction
      intro hn
      have h3 : m * 1 ≤ m * r := Int.mul_le_mul_of_nonneg_left (by omega) (by omega)
      rw [Int.mul_one] at h3
      omega
  refine ⟨r0, ?_, h1, h2, z⟩
  by_cases h : r = 0
  · omega
  · have h3 : m * 1 ≤ m * r := Int.mul_le_mul_of_nonneg_left (by omega) (by omega)
    have h4 : 2 * r ≤ m * r := Int.mul_le_mul_of_nonneg_right hm r0
    rw [Int.mul_one] at h3
    omega
/-- what the law looks at of the bound -/
theorem bnd_in {q m : Int} (hq : 0 < q) (hm : 2 ≤ m) (oq : q % 2 = 1) (em : m % 2 = 0) : -m < q - 2 * m * bnd q m ∧ q - 2 * m * bnd q m < m := by
  obtain ⟨b0, b1, b2, b3, _⟩ := bnd_b hq hm oq em
  rw [Int.mul_assoc 2 m]
  generalize m * bnd q m = t at *
  omega
/-- a small number is its own centred form -/
theorem centre_small {t e q : Int} (hq : 0 < q) (h0 : -q < 2 * e) (h1 : 2 * e < q) (k : Int) (h : t = e + q * k) : (if 2 * (t % q) > q then t % q - q else t % q) = e := by
  rw [h, Int.add_mul_emod_self_left]
  by_cases hn : 0 ≤ e
  · rw [Int.emod_eq_of_lt hn (by omega), if_neg (by omega)]
  · have e2 : e % q = e + q := by
      rw [← Int.add_emod_right, Int.emod_eq_of_lt (by omega) (by omega)]
    rw [e2, if_pos (by omega)]
    omega
def cenOf (v q : Int) : Int := if 2 * (v % q) > q then v % q - q else v % q
/-- the error of a residue -/
def errOf (q m x : Int) : Int := cenOf (resOf q m (codeOf q m x) - x) q
theorem err_is {q m x : Int} (hq : 0 < q) (hm : 2 ≤ m) (oq : q % 2 = 1) (em : m % 2 = 0) (x0 : 0 ≤ x) (x1 : x ≤ q - 1) :
    errOf q m x = (2 * q * rawC q m x + m) / (2 * m) - x ∧ -(bnd q m) ≤ errOf q m x ∧ errOf q m x ≤ bnd q m := by
  obtain ⟨c0, c1, c2, c3⟩ := rawC_b (m := m) hq (by omega) x0 x1
  obtain ⟨b0, b1, b2, b3, _⟩ := bnd_b hq hm oq em
  have hco : codeOf q m x = rawC q m x % m := rfl
  unfold errOf
  rw [hco]
  generalize rawC q m x = r at *
  generalize hp : (2 * q * r + m) / (2 * m) = p
  have h1 : 2 * m * p ≤ 2 * q * r + m := by
    rw [← hp]
    exact Int.mul_ediv_self_le (by omega)
  have h2 : 2 * q * r + m < 2 * m * p + 2 * m := by
    rw [← hp]
    exact Int.lt_mul_ediv_self_add (by omega)
  rw [Int.mul_assoc 2 m p, Int.mul_assoc 2 q r] at h1 h2
  generalize bnd q m = b at *
  have mp : m * (p - x) = m * p - m * x := Int.mul_sub ..
  have u1 : p - x ≤ b := by
    have h3 : m * (p - x) < m * (b + 1) := by
      rw [Int.mul_add, Int.mul_one]
      omega
    have h4 := Int.lt_of_mul_lt_mul_left h3 (by omega)
    omega
  have u0 : -b ≤ p - x := by
    have h3 : m * (-b) < m * (p - x + 1) := by
      rw [Int.mul_add, Int.mul_one, Int.mul_neg]
      omega
    have h4 := Int.lt_of_mul_lt_mul_left h3 (by omega)
    omega
  have key : ∃ k, resOf q m (r % m) - x = (p - x) + q * k := by
    rcases Int.lt_or_eq_of_le c1 with h | h
    · rw [Int.emod_eq_of_lt c0 h]
      have er : resR q m r = p := hp
      unfold resOf
      rw [er]
      split
      · exact ⟨-1, by omega⟩
      · exact ⟨0, by omega⟩
    · rw [h, Int.emod_self]
      have e0 : resOf q m 0 = 0 := by
        have er : resR q m 0 = 0 := by
          unfold resR
          exact div_is (by omega) (by omega) (by omega)
        unfold resOf
        rw [er, if_neg (by omega)]
      have ep : p = q := by
        rw [← hp, h]
        refine div_is (by omega) ?_ ?_
        · rw [Int.mul_assoc 2 m q, Int.mul_assoc 2 q m, Int.mul_comm m q]
          omega
        · rw [Int.mul_assoc 2 m q, Int.mul_assoc 2 q m, Int.mul_comm m q]
          omega
      exact ⟨-1, by rw [e0, ep]; omega⟩
  obtain ⟨k, hk⟩ := key
  have hc : cenOf (resOf q m (r % m) - x) q = p - x := centre_small hq (by omega) (by omega) k hk
  rw [hc]
  exact ⟨rfl, u0, u1⟩
theorem err_star {q m : Int} (hq : 3 ≤ q) (hm : 2 ≤ m) (oq : q % 2 = 1) (em : m % 2 = 0) : 0 ≤ (q + 1) / 2 - bnd q m ∧ (q + 1) / 2 - bnd q m ≤ q - 1 ∧ errOf q m ((q + 1) / 2 - bnd q m) = bnd q m := by
  obtain ⟨b0, b1, b2, b3, bz⟩ := bnd_b (by omega) hm oq em
  have x0 : 0 ≤ (q + 1) / 2 - bnd q m := by omega
  have x1 : (q + 1) / 2 - bnd q m ≤ q - 1 := by omega
  refine ⟨x0, x1, ?_⟩
  obtain ⟨e1, e2, e3⟩ := err_is (by omega) hm oq em x0 x1
  by_cases hb : bnd q m = 0
  · omega
  · rw [e1]
    generalize bnd q m = b at *
    obtain ⟨h, rfl⟩ : ∃ h, q = 2 * h - 1 := ⟨(q + 1) / 2, by omega⟩
    obtain ⟨n, rfl⟩ : ∃ n, m = 2 * n := ⟨m / 2, by omega⟩
    have eh : (2 * h - 1 + 1) / 2 = h := by omega
    rw [eh] at *
    have f1 : 2 * (2 * h - 1) * n = 4 * (n * h) - 2 * n := by
      rw [Int.mul_assoc, Int.sub_mul, Int.one_mul, Int.mul_assoc 2 h n, Int.mul_comm h n]
      omega
    have f0 : 2 * (2 * n) = 4 * n := by omega
    have f2 : 2 * (2 * n) * (h - b) = 4 * (n * h) - 4 * (n * b) := by
      rw [Int.mul_sub, f0, Int.mul_assoc, Int.mul_assoc]
    have f3 : 2 * (2 * n) * h = 4 * (n * h) := by rw [f0, Int.mul_assoc]
    have f4 : n * 1 ≤ n * b := Int.mul_le_mul_of_nonneg_left (by omega) (by omega)
    rw [Int.mul_assoc 2 n b] at b2
    have hr : rawC (2 * h - 1) (2 * n) (h - b) = n := by
      unfold rawC
      rw [f2]
      refine div_is (by omega) ?_ ?_
      · rw [f1]
        omega
      · rw [f1]
        omega
    rw [hr]
    have hp : (2 * (2 * h - 1) * n + 2 * n) / (2 * (2 * n)) = h := by
      rw [f1]
      refine div_is (by omega) ?_ ?_
      · rw [f3]
        omega
      · rw [f3]
        omega
    rw [hp]
    omega
theorem near_is {a b : Int} (hb : 0 < b) : (if 2 * (a - a / b * b) ≥ b then a / b + 1 else a / b) = (2 * a + b) / (2 * b) := by
  have h1 : b * (a / b) ≤ a := Int.mul_ediv_self_le (by omega)
  have h2 : a < b * (a / b) + b := Int.lt_mul_ediv_self_add hb
  generalize a / b = k at *
  have e1 : k * b = b * k := Int.mul_comm ..
  have e2 : ∀ j, 2 * b * j = 2 * (b * j) := fun j => Int.mul_assoc ..
  split
  · refine (div_is (by omega) ?_ ?_).symm
    · rw [e2, Int.mul_add, Int.mul_one]
      omega
    · rw [e2, Int.mul_add, Int.mul_one]
      omega
  · refine (div_is (by omega) ?_ ?_).symm
    · rw [e2]
      omega
    · rw [e2]
      omega
/-- the law's own way to it -/
theorem due_is {q m x : Int} : cenOf (resR q m (codeOf q m x) - x) q = errOf q m x := by
  generalize hc : codeOf q m x = c
  have e : (resOf q m c - x) % q = (resR q m c - x) % q := by
    unfold resOf
    split
    · have e1 : resR q m c - q - x = (resR q m c - x) + q * (-1) := by omega
      rw [e1, Int.add_mul_emod_self_left]
    · rfl
  unfold errOf cenOf
  rw [hc, e]
def spCheck_any : Sp := fun vs H Q _ => ∃ (i : Int) (z : Str), vs = [.int i, .str z] ∧ ∀ H', Ext H H' → Q .non H'
theorem use_any {i : Int} {z : Str} {H : Hp} {Q : VK} {E : XK} (k : ∀ H', Ext H H' → Q .non H') : spCheck_any [.int i, .str z] H Q E := ⟨i, z, rfl, k⟩
theorem len_whole {vs : List V} {H : Hp} {Q : VK} {E : XK} (h : spIs_whole vs H Q E) : vs.length = 1 := by
  obtain ⟨_, rfl, _⟩ := h
  rfl
theorem ok_whole (T : Txt K mg) : Good P w K mg base 1 (ga K "whole") ["value"] spIs_whole := by
  obtain ⟨fd, F⟩ := T.d.def_ 1 (d := d_whole) rfl
  have b := F.bindsN (ps := ["value"]) fun _ _ _ _ _ _ us hl => match us, hl with | [_], _ => rfl
  refine ⟨fd, F.ok sc_whole (fun vs H Q E h => len_whole h) (fun cdv A outer s H vs Q E hr h => ⟨_, PSs.nox ((pss_one (ps_ret (pe_and (pe_callB (call_isi) (by rfl) T.b_isinstance (by decide +kernel) (pa_cons (pv 0) (pa_cons (pe_bltn (v := .ty "int") (by rfl) T.b_int (by decide +kernel) rfl) pa_nil))) (pe_one (pe_not (pe_callB (call_isi) (by rfl) T.b_isinstance (by decide +kernel) (pa_cons (pv 0) (pa_cons (pe_bltn (v := .ty "bool") (by rfl) T.b_bool (by decide +kernel) rfl) pa_nil))))))))), ?_⟩), b, F.kp, fun_at F⟩
  obtain ⟨v, rfl, hv, k⟩ := h
  have kk := k H (.refl H)
  cases hv with
  | non => walk_at "nb.s"; exact kk
  | bl b => walk_at "nb.s"; exact kk
  | int i => walk_at "nb.s"; exact kk
  | str z => walk_at "nb.s"; exact kk
  | lst h => walk_at "nb.s"; exact kk
  | tup h => walk_at "nb.s"; exact kk
  | dK h =>
    walk_at "nb.s"
    refine isi_int (.dK h) ?_
    walk_at "nb.s"
    exact i_F kk
theorem len_check_any {vs : List V} {H : Hp} {Q : VK} {E : XK} (h : spCheck_any vs H Q E) : vs.length = 2 := by
  obtain ⟨_, _, rfl, _⟩ := h
  rfl
theorem ok_check_any (T : Txt K mg) : Good P w K mg base 3 (ga K "check_any") ["value", "name"] spCheck_any := by
  obtain ⟨fd, F⟩ := T.d.def_ 2 (d := d_check_any) rfl
  have b := F.bindsN (ps := ["value", "name"]) fun _ _ _ _ _ _ us hl => match us, hl with | [_, _], _ => rfl
  obtain ⟨f_whole, G_whole, b_whole, k_whole, l_whole⟩ := ok_whole (P := P) (w := w) (base := base) T
  obtain ⟨f_OutOfRange, I_OutOfRange, J_OutOfRange, _, _⟩ := ok_OutOfRange___init__ (P := P) (w := w) (base := base) T
  refine ⟨fd, F.ok sc_check_any (fun vs H Q E h => len_check_any h) (fun cdv A outer s H vs Q E hr h => ⟨_, PSs.nox ((pss_one (ps_if (pt_not (pt_val (pe_call G_whole (hr.mono (by decide)) rfl T.g_whole k_whole b_whole .nil passN (pa_cons (pv 0) pa_nil)))) (pss_one ps_never) pss_nil))), ?_⟩), b, F.kp, fun_at F⟩
  obtain ⟨i, z, rfl, k⟩ := h
  walk_at "nb.s"
  refine use_whole (.int i) fun H1 e1 => ?_
  have hi : isI (.int i) = true := rfl
  rw [hi]
  walk_at "nb.s"
  exact k H1 e1
def spCheck_within : Sp := fun vs H Q _ => ∃ (i lo hi : Int) (z : Str), vs = [.int i, .int lo, .int hi, .str z] ∧ lo ≤ i ∧ i ≤ hi ∧ ∀ H', Ext H H' → Q .non H'
theorem use_cwithin {i lo hi : Int} {z : Str} {H : Hp} {Q : VK} {E : XK} (h1 : lo ≤ i) (h2 : i ≤ hi) (k : ∀ H', Ext H H' → Q .non H') : spCheck_within [.int i, .int lo, .int hi, .str z] H Q E := ⟨i, lo, hi, z, rfl, h1, h2, k⟩
theorem len_check_within {vs : List V} {H : Hp} {Q : VK} {E : XK} (h : spCheck_within vs H Q E) : vs.length = 4 := by
  obtain ⟨_, _, _, _, rfl, _⟩ := h
  rfl
theorem ok_check_within (T : Txt K mg) : Good P w K mg base 3 (ga K "check_within") ["value", "low", "high", "name"] spCheck_within := by
  obtain ⟨fd, F⟩ := T.d.def_ 3 (d := d_check_within) rfl
  have b := F.bindsN (ps := ["value", "low", "high", "name"]) fun _ _ _ _ _ _ us hl => match us, hl with | [_, _, _, _], _ => rfl
  obtain ⟨f_whole, G_whole, b_whole, k_whole, l_whole⟩ := ok_whole (P := P) (w := w) (base := base) T
  obtain ⟨f_OutOfRange, I_OutOfRange, J_OutOfRange, _, _⟩ := ok_OutOfRange___init__ (P := P) (w := w) (base := base) T
  refine ⟨fd, F.ok sc_check_within (fun vs H Q E h => len_check_within h) (fun cdv A outer s H vs Q E hr h => ⟨_, PSs.nox ((pss_one (ps_if (PW.pt (pw_or (pt_not (pt_val (pe_call G_whole (hr.mono (by decide)) rfl T.g_whole k_whole b_whole .nil passN (pa_cons (pv 0) pa_nil)))) (pw_or (pt_cmpR oLt (pv 0) (pv 1) (nomark _)) (pw_or1 (pt_cmpR oGt (pv 0) (pv 2) (nomark _)))))) (pss_one ps_never) pss_nil))), ?_⟩), b, F.kp, fun_at F⟩
  obtain ⟨i, lo, hi, z, rfl, h1, h2, k⟩ := h
  walk_at "nb.s"
  refine use_whole (.int i) fun H1 e1 => ?_
  have hi : isI (.int i) = true := rfl
  rw [hi]
  walk_at "nb.s"
  refine i_ite (fun g => absurd g (by omega)) (fun _ => ?_)
  walk_at "nb.s"
  refine i_ite (fun g => absurd g (by omega)) (fun _ => ?_)
  walk_at "nb.s"
  exact k H1 e1
def spCheck_modulus : Sp := fun vs H Q _ => ∃ (q : Int), vs = [.int q] ∧ 2 ≤ q ∧ q ≤ 4095 ∧ ∀ H', Ext H H' → Q .non H'
theorem use_modulus {q : Int} {H : Hp} {Q : VK} {E : XK} (h1 : 2 ≤ q) (h2 : q ≤ 4095) (k : ∀ H', Ext H H' → Q .non H') : spCheck_modulus [.int q] H Q E := ⟨q, rfl, h1, h2, k⟩
theorem len_check_modulus {vs : List V} {H : Hp} {Q : VK} {E : XK} (h : spCheck_modulus vs H Q E) : vs.length = 1 := by
  obtain ⟨_, rfl, _⟩ := h
  rfl
theorem ok_check_modulus (T : Txt K mg) : Good P w K mg base 4 (ga K "check_modulus") ["q"] spCheck_modulus := by
  obtain ⟨fd, F⟩ := T.d.def_ 4 (d := d_check_modulus) rfl
  have b := F.bindsN (ps := ["q"]) fun _ _ _ _ _ _ us hl => match us, hl with | [_], _ => rfl
  obtain ⟨f_check_within, G_check_within, b_check_within, k_check_within, l_check_within⟩ := ok_check_within (P := P) (w := w) (base := base) T
  refine ⟨fd, F.ok sc_check_modulus (fun vs H Q E h => len_check_modulus h) (fun cdv A outer s H vs Q E hr h => ⟨_, PSs.nox ((pss_one (ps_expr (pe_call G_check_within (hr.mono (by decide)) rfl T.g_check_within k_check_within b_check_within .nil passN (pa_cons (pv 0) (pa_cons pe_int (pa_cons (pe_globI T.c_LARGEST) (pa_cons pe_str pa_nil)))))))), ?_⟩), b, F.kp, fun_at F⟩
  obtain ⟨q, rfl, h1, h2, k⟩ := h
  walk_at "nb.s"
  exact use_cwithin h1 h2 k
def spCen : Sp := fun vs H Q _ => ∃ (v q : Int), vs = [.int v, .int q] ∧ 2 ≤ q ∧ q ≤ 4095 ∧ Q (.int (cenOf v q)) H
def spCentred : Sp := fun vs H Q _ => ∃ (v q : Int), vs = [.int v, .int q] ∧ 2 ≤ q ∧ q ≤ 4095 ∧ ∀ H', Ext H H' → Q (.int (cenOf v q)) H'
theorem use_centred {v q : Int} {H : Hp} {Q : VK} {E : XK} (h1 : 2 ≤ q) (h2 : q ≤ 4095) (k : ∀ H', Ext H H' → Q (.int (cenOf v q)) H') : spCentred [.int v, .int q] H Q E := ⟨v, q, rfl, h1, h2, k⟩
theorem len_centred_form {vs : List V} {H : Hp} {Q : VK} {E : XK} (h : spCen vs H Q E) : vs.length = 2 := by
  obtain ⟨_, _, rfl, _⟩ := h
  rfl
theorem ok_centred_form (T : Txt K mg) : Good P w K mg base 1 (ga K "centred_form") ["value", "q"] spCen := by
  obtain ⟨fd, F⟩ := T.d.def_ 5 (d := d_centred_form) rfl
  have b := F.bindsN (ps := ["value", "q"]) fun _ _ _ _ _ _ us hl => match us, hl with | [_, _], _ => rfl
  refine ⟨fd, F.ok sc_centred_form (fun vs H Q E h => len_centred_form h) (fun cdv A outer s H vs Q E hr h => ⟨_, PSs.nox ((pss_cons (ps_set (i := 2) sc_centred_form.nd rfl (Or.inl rfl) (pe_op oMod (pv 0) (pv 1))) (pss_cons (ps_if (pt_cmpR oGt (pe_op oMul pe_int (pv 2)) (pv 1) (nomark _)) (pss_one (ps_ret (pe_op oSub (pv 2) (pv 1)))) pss_nil) (pss_one (ps_ret (pv 2)))))), ?_⟩), b, F.kp, fun_at F⟩
  obtain ⟨v, q, rfl, h1, h2, k⟩ := h
  have z0 : 0 ≤ v % q := Int.emod_nonneg _ (by omega)
  have z1 : v % q < q := Int.emod_lt_of_pos _ (by omega)
  unfold cenOf at k
  walk_at "nb.s"
  generalize v % q = r at *
  refine i_ite (fun g => ?_) (fun g => ?_)
  · walk_at "nb.s"
    rw [if_pos g] at k
    exact k
  · walk_at "nb.s"
    rw [if_neg g] at k
    exact k
theorem len_centred {vs : List V} {H : Hp} {Q : VK} {E : XK} (h : spCentred vs H Q E) : vs.length = 2 := by
  obtain ⟨_, _, rfl, _⟩ := h
  rfl
theorem ok_centred (T : Txt K mg) : Good P w K mg base 5 (ga K "centred") ["value", "q"] spCentred := by
  obtain ⟨fd, F⟩ := T.d.def_ 6 (d := d_centred) rfl
  have b := F.bindsN (ps := ["value", "q"]) fun _ _ _ _ _ _ us hl => match us, hl with | [_, _], _ => rfl
  obtain ⟨f_centred_form, G_centred_form, b_centred_form, k_centred_form, l_centred_form⟩ := ok_centred_form (P := P) (w := w) (base := base) T
  obtain ⟨f_check_modulus, G_check_modulus, b_check_modulus, k_check_modulus, l_check_modulus⟩ := ok_check_modulus (P := P) (w := w) (base := base) T
  obtain ⟨f_check_any, G_check_any, b_check_any, k_check_any, l_check_any⟩ := ok_check_any (P := P) (w := w) (base := base) T
  refine ⟨fd, F.ok sc_centred (fun vs H Q E h => len_centred h) (fun cdv A outer s H vs Q E hr h => ⟨_, PSs.nox ((pss_cons (ps_expr (pe_call G_check_any (hr.mono (by decide)) rfl T.g_check_any k_check_any b_check_any .nil passN (pa_cons (pv 0) (pa_cons pe_str pa_nil)))) (pss_cons (ps_expr (pe_call G_check_modulus (hr.mono (by decide)) rfl T.g_check_modulus k_check_modulus b_check_modulus .nil passN (pa_cons (pv 1) pa_nil))) (pss_one (ps_ret (pe_call G_centred_form (hr.mono (by decide)) rfl T.g_centred_form k_centred_form b_centred_form .nil passN (pa_cons (pv 0) (pa_cons (pv 1) pa_nil)))))))), ?_⟩), b, F.kp, fun_at F⟩
  obtain ⟨v, q, rfl, h1, h2, k⟩ := h
  walk_at "nb.s"
  refine use_any fun H1 e1 => ?_
  walk_at "nb.s"
  refine use_modulus h1 h2 fun H2 e2 => ?_
  walk_at "nb.s"
  exact ⟨v, q, rfl, h1, h2, k H2 (e1.trans e2)⟩
theorem codeOf_in {q m x : Int} (hm : 0 < m) : 0 ≤ codeOf q m x ∧ codeOf q m x ≤ m - 1 := by
  unfold codeOf
  have h0 := Int.emod_nonneg ((2 * m * x + q) / (2 * q)) (by omega : m ≠ 0)
  have h1 := Int.emod_lt_of_pos ((2 * m * x + q) / (2 * q)) hm
  omega
def spError_of : Sp := fun vs H Q _ => ∃ (q w x : Int), vs = [.int q, .int w, .int x] ∧ 3 ≤ q ∧ q ≤ 4095 ∧ 1 ≤ w ∧ w ≤ 11 ∧ 0 ≤ x ∧ x ≤ 4095 ∧ ∀ H', Ext H H' → Q (.int (errOf q (2 ^ w.toNat) x)) H'
theorem use_error {q w x : Int} {H : Hp} {Q : VK} {E : XK} (h1 : 3 ≤ q) (h2 : q ≤ 4095) (h3 : 1 ≤ w) (h4 : w ≤ 11) (h5 : 0 ≤ x) (h6 : x ≤ 4095) (k : ∀ H', Ext H H' → Q (.int (errOf q (2 ^ w.toNat) x)) H') : spError_of [.int q, .int w, .int x] H Q E := ⟨q, w, x, rfl, h1, h2, h3, h4, h5, h6, k⟩
theorem len_error_of {vs : List V} {H : Hp} {Q : VK} {E : XK} (h : spError_of vs H Q E) : vs.length = 3 := by
  obtain ⟨_, _, _, rfl, _⟩ := h
  rfl
theorem ok_error_of (T : Txt K mg) : Good P w K mg base 6 (ga K "error_of") ["q", "width", "value"] spError_of := by
  obtain ⟨fd, F⟩ := T.d.def_ 12 (d := d_error_of) rfl
  have b := F.bindsN (ps := ["q", "width", "value"]) fun _ _ _ _ _ _ us hl => match us, hl with | [_, _, _], _ => rfl
  obtain ⟨f_centred, G_centred, b_centred, k_centred, l_centred⟩ := ok_centred (P := P) (w := w) (base := base) T
  obtain ⟨f_residue_of, G_residue_of, b_residue_of, k_residue_of, l_residue_of⟩ := ok_residue_of (P := P) (w := w) (base := base) T
  obtain ⟨f_code_of, G_code_of, b_code_of, k_code_of, l_code_of⟩ := ok_code_of (P := P) (w := w) (base := base) T
  refine ⟨fd, F.ok sc_error_of (fun vs H Q E h => len_error_of h) (fun cdv A outer s H vs Q E hr h => ⟨_, PSs.nox ((pss_cons (ps_set (i := 3) sc_error_of.nd rfl (Or.inl rfl) (pe_call G_residue_of (hr.mono (by decide)) rfl T.g_residue_of k_residue_of b_residue_of .nil passN (pa_cons (pv 0) (pa_cons (pv 1) (pa_cons (pe_call G_code_of (hr.mono (by decide)) rfl T.g_code_of k_code_of b_code_of .nil passN (pa_cons (pv 0) (pa_cons (pv 1) (pa_cons (pv 2) pa_nil)))) pa_nil))))) (pss_one (ps_ret (pe_call G_centred (hr.mono (by decide)) rfl T.g_centred k_centred b_centred .nil passN (pa_cons (pe_op oSub (pv 3) (pv 2)) (pa_cons (pv 0) pa_nil))))))), ?_⟩), b, F.kp, fun_at F⟩
  obtain ⟨q, w, x, rfl, h1, h2, h3, h4, h5, h6, k⟩ := h
  obtain ⟨m1, m2⟩ := pow_w (w := w) (by omega) (by omega)
  obtain ⟨c0, c1⟩ := codeOf_in (q := q) (m := 2 ^ w.toNat) (x := x) (by omega)
  walk_at "nb.s"
  refine use_code (by omega) h2 (by omega) (by omega) h5 h6 ?_
  walk_at "nb.s"
  refine use_residue (by omega) h2 (by omega) (by omega) c0 (by omega) ?_
  walk_at "nb.s"
  exact use_centred (by omega) h2 k
def spPress_error (K : PySem.W.Frag) : Sp := fun vs H Q E => ∃ (q w x : V), vs = [q, w, x] ∧ AnyV H q ∧ AnyV H w ∧ AnyV H x ∧ (¬ OddQ q → Rz K "q" H E) ∧ (OddQ q → ¬ inR w 1 11 → Rz K "width" H E) ∧
  (∀ i, q = .int i → OddQ q → inR w 1 11 → ¬ inR x 0 (i - 1) → Rz K "value" H E) ∧
  (∀ i j y, q = .int i → w = .int j → x = .int y → OddQ q → inR w 1 11 → inR x 0 (i - 1) → ∀ H', Ext H H' → Q (.int (errOf i (2 ^ j.toNat) y)) H')
theorem use_perr {K : PySem.W.Frag} {q w x : V} {H : Hp} {Q : VK} {E : XK} (h1 : AnyV H q) (h2 : AnyV H w) (h3 : AnyV H x) (r1 : ¬ OddQ q → Rz K "q" H E) (r2 : OddQ q → ¬ inR w 1 11 → Rz K "width" H E)
    (r3 : ∀ i, q = .int i → OddQ q → inR w 1 11 → ¬ inR x 0 (i - 1) → Rz K "value" H E)
    (k : ∀ i j y, q = .int i → w = .int j → x = .int y → OddQ q → inR w 1 11 → inR x 0 (i - 1) → ∀ H', Ext H H' → Q (.int (errOf i (2 ^ j.toNat) y)) H') : spPress_error K [q, w, x] H Q E := ⟨q, w, x, rfl, h1, h2, h3, r1, r2, r3, k⟩
theorem use_perrOk {K : PySem.W.Frag} {q w x : Int} {H : Hp} {Q : VK} {E : XK} (h1 : OddQ (.int q)) (h2 : 1 ≤ w ∧ w ≤ 11) (h3 : 0 ≤ x ∧ x ≤ q - 1) (k : ∀ H', Ext H H' → Q (.int (errOf q (2 ^ w.toNat) x)) H') : spPress_error K [.int q, .int w, .int x] H Q E :=
  use_perr (.int _) (.int _) (.int _) (fun z => absurd h1 z) (fun _ z => absurd (inR_int.mpr h2) z) (fun i e _ _ z => absurd (inR_int.mpr (by cases e; exact h3)) z) fun i j y e1 e2 e3 _ _ _ H' e => by
    cases e1; cases e2; cases e3
    exact k H' e
theorem len_press_error {K : PySem.W.Frag} {vs : List V} {H : Hp} {Q : VK} {E : XK} (h : spPress_error K vs H Q E) : vs.length = 3 := by
  obtain ⟨_, _, _, rfl, _⟩ := h
  rfl
theorem ok_press_error (T : Txt K mg) : Good P w K mg base 7 (ga K "press_error") ["q", "width", "value"] (spPress_error K) := by
  obtain ⟨fd, F⟩ := T.d.def_ 13 (d := d_press_error) rfl
  have b := F.bindsN (ps := ["q", "width", "value"]) fun _ _ _ _ _ _ us hl => match us, hl with | [_, _, _], _ => rfl
  obtain ⟨f_error_of, G_error_of, b_error_of, k_error_of, l_error_of⟩ := ok_error_of (P := P) (w := w) (base := base) T
  obtain ⟨f_need_integer, G_need_integer, b_need_integer, k_need_integer, l_need_integer⟩ := ok_need_integer (P := P) (w := w) (base := base) T
  obtain ⟨f_need_modulus_and_width, G_need_modulus_and_width, b_need_modulus_and_width, k_need_modulus_and_width, l_need_modulus_and_width⟩ := ok_need_modulus_and_width (P := P) (w := w) (base := base) T
  refine ⟨fd, F.ok sc_press_error (fun vs H Q E h => len_press_error h) (fun cdv A outer s H vs Q E hr h => ⟨_, (pss_cons (ps_expr (pe_callS G_need_modulus_and_width (hr.mono (by decide)) rfl T.g_need_modulus_and_width k_need_modulus_and_width b_need_modulus_and_width (fun σ => L2N.passAt (L2N.takes_of rfl rfl rfl rfl) σ) (pa_cons (pv 0) (pa_cons (pv 1) pa_nil)))) (pss_cons (ps_expr (pe_callS G_need_integer (hr.mono (by decide)) rfl T.g_need_integer k_need_integer b_need_integer (fun σ => L2N.passAt (L2N.takes_of rfl rfl rfl rfl) σ) (pa_cons pe_str (pa_cons (pv 2) (pa_cons pe_int (pa_cons (pe_op oSub (pv 0) pe_int) pa_nil)))))) (pss_one (ps_ret (pe_call G_error_of (hr.mono (by decide)) rfl T.g_error_of k_error_of b_error_of .nil passN (pa_cons (pv 0) (pa_cons (pv 1) (pa_cons (pv 2) pa_nil)))))))), ?_⟩), b, F.kp, fun_at F⟩
  obtain ⟨qv, w, x, rfl, h1, h2, h3, r1, r2, r3, k⟩ := h
  walk_at "nb.s"
  refine use_nmw h1 h2 (fun ho hw H1 e1 => ?_) (fun z => r1 z) (fun ho z => r2 ho z)
  obtain ⟨i, rfl, i1, i2, i3⟩ := id ho
  obtain ⟨j, rfl, j1, j2⟩ := id hw
  walk_at "nb.s"
  refine use_need (h3.ext e1) (fun hr H2 e2 => ?_) (fun z => (r3 i rfl ho hw z).ext e1)
  obtain ⟨y, rfl, y1, y2⟩ := id hr
  walk_at "nb.s"
  exact use_error i1 i2 j1 j2 y1 (by omega) fun H3 e3 => k i j y rfl rfl rfl ho hw hr H3 ((e1.trans e2).trans e3)
def spPress_bound (K : PySem.W.Frag) : Sp := fun vs H Q E => ∃ (q w : V), vs = [q, w] ∧ AnyV H q ∧ AnyV H w ∧ (¬ OddQ q → Rz K "q" H E) ∧ (OddQ q → ¬ inR w 1 11 → Rz K "width" H E) ∧
  (∀ i j, q = .int i → w = .int j → OddQ q → inR w 1 11 → ∀ H', Ext H H' → Q (.int (bnd i (2 ^ j.toNat))) H')
theorem use_pbnd {K : PySem.W.Frag} {q w : V} {H : Hp} {Q : VK} {E : XK} (h1 : AnyV H q) (h2 : AnyV H w) (r1 : ¬ OddQ q → Rz K "q" H E) (r2 : OddQ q → ¬ inR w 1 11 → Rz K "width" H E)
    (k : ∀ i j, q = .int i → w = .int j → OddQ q → inR w 1 11 → ∀ H', Ext H H' → Q (.int (bnd i (2 ^ j.toNat))) H') : spPress_bound K [q, w] H Q E := ⟨q, w, rfl, h1, h2, r1, r2, k⟩
theorem use_pbndOk {K : PySem.W.Frag} {i j : Int} {H : Hp} {Q : VK} {E : XK} (h1 : OddQ (.int i)) (h2 : 1 ≤ j ∧ j ≤ 11) (k : ∀ H', Ext H H' → Q (.int (bnd i (2 ^ j.toNat))) H') : spPress_bound K [.int i, .int j] H Q E :=
  use_pbnd (.int _) (.int _) (fun z => absurd h1 z) (fun _ z => absurd (inR_int.mpr h2) z) fun i2 j2 e1 e2 _ _ H' e => by
    cases e1; cases e2
    exact k H' e
theorem len_press_bound {K : PySem.W.Frag} {vs : List V} {H : Hp} {Q : VK} {E : XK} (h : spPress_bound K vs H Q E) : vs.length = 2 := by
  obtain ⟨_, _, rfl, _⟩ := h
  rfl
theorem ok_press_bound (T : Txt K mg) : Good P w K mg base 5 (ga K "press_bound") ["q", "width"] (spPress_bound K) := by
  obtain ⟨fd, F⟩ := T.d.def_ 14 (d := d_press_bound) rfl
  have b := F.bindsN (ps := ["q", "width"]) fun _ _ _ _ _ _ us hl => match us, hl with | [_, _], _ => rfl
  obtain ⟨f_need_modulus_and_width, G_need_modulus_and_width, b_need_modulus_and_width, k_need_modulus_and_width, l_need_modulus_and_width⟩ := ok_need_modulus_and_width (P := P) (w := w) (base := base) T
  refine ⟨fd, F.ok sc_press_bound (fun vs H Q E h => len_press_bound h) (fun cdv A outer s H vs Q E hr h => ⟨_, (pss_cons (ps_expr (pe_callS G_need_modulus_and_width (hr.mono (by decide)) rfl T.g_need_modulus_and_width k_need_modulus_and_width b_need_modulus_and_width (fun σ => L2N.passAt (L2N.takes_of rfl rfl rfl rfl) σ) (pa_cons (pv 0) (pa_cons (pv 1) pa_nil)))) (pss_one (ps_ret (pe_op oDiv (pe_op oAdd (pv 0) (pe_op oShl pe_int (pv 1))) (pe_op oShl pe_int (pv 1)))))), ?_⟩), b, F.kp, fun_at F⟩
  obtain ⟨qv, w, rfl, h1, h2, r1, r2, k⟩ := h
  walk_at "nb.s"
  refine use_nmw h1 h2 (fun ho hw H1 e1 => ?_) (fun z => r1 z) (fun ho z => r2 ho z)
  obtain ⟨i, rfl, i1, i2, i3⟩ := id ho
  obtain ⟨j, rfl, j1, j2⟩ := id hw
  obtain ⟨m1, m2⟩ := pow_w (w := j) (by omega) (by omega)
  have one : (1 : Int) * 2 ^ j.toNat = 2 ^ j.toNat := Int.one_mul _
  walk_at "nb.s"
  rw [one]
  exact k i j rfl rfl ho hw H1 e1
def spPresses_exactly (K : PySem.W.Frag) : Sp := fun vs H Q E => ∃ (q w : V), vs = [q, w] ∧ AnyV H q ∧ AnyV H w ∧ (¬ OddQ q → Rz K "q" H E) ∧ (OddQ q → ¬ inR w 1 11 → Rz K "width" H E) ∧
  (∀ i j, q = .int i → w = .int j → OddQ q → inR w 1 11 → ∀ H', Ext H H' → Q (.bl (decide (2 ^ j.toNat > i))) H')
theorem use_pex {K : PySem.W.Frag} {q w : V} {H : Hp} {Q : VK} {E : XK} (h1 : AnyV H q) (h2 : AnyV H w) (r1 : ¬ OddQ q → Rz K "q" H E) (r2 : OddQ q → ¬ inR w 1 11 → Rz K "width" H E)
    (k : ∀ i j, q = .int i → w = .int j → OddQ q → inR w 1 11 → ∀ H', Ext H H' → Q (.bl (decide (2 ^ j.toNat > i))) H') : spPresses_exactly K [q, w] H Q E := ⟨q, w, rfl, h1, h2, r1, r2, k⟩
theorem use_pexOk {K : PySem.W.Frag} {i j : Int} {H : Hp} {Q : VK} {E : XK} (h1 : OddQ (.int i)) (h2 : 1 ≤ j ∧ j ≤ 11) (k : ∀ H', Ext H H' → Q (.bl (decide (2 ^ j.toNat > i))) H') : spPresses_exactly K [.int i, .int j] H Q E :=
  use_pex (.int _) (.int _) (fun z => absurd h1 z) (fun _ z => absurd (inR_int.mpr h2) z) fun i2 j2 e1 e2 _ _ H' e => by
    cases e1; cases e2
    exact k H' e
theorem len_presses_exactly {K : PySem.W.Frag} {vs : List V} {H : Hp} {Q : VK} {E : XK} (h : spPresses_exactly K vs H Q E) : vs.length = 2 := by
  obtain ⟨_, _, rfl, _⟩ := h
  rfl
theorem ok_presses_exactly (T : Txt K mg) : Good P w K mg base 5 (ga K "presses_exactly") ["q", "width"] (spPresses_exactly K) := by
  obtain ⟨fd, F⟩ := T.d.def_ 15 (d := d_presses_exactly) rfl
  have b := F.bindsN (ps := ["q", "width"]) fun _ _ _ _ _ _ us hl => match us, hl with | [_, _], _ => rfl
  obtain ⟨f_need_modulus_and_width, G_need_modulus_and_width, b_need_modulus_and_width, k_need_modulus_and_width, l_need_modulus_and_width⟩ := ok_need_modulus_and_width (P := P) (w := w) (base := base) T
  refine ⟨fd, F.ok sc_presses_exactly (fun vs H Q E h => len_presses_exactly h) (fun cdv A outer s H vs Q E hr h => ⟨_, (pss_cons (ps_expr (pe_callS G_need_modulus_and_width (hr.mono (by decide)) rfl T.g_need_modulus_and_width k_need_modulus_and_width b_need_modulus_and_width (fun σ => L2N.passAt (L2N.takes_of rfl rfl rfl rfl) σ) (pa_cons (pv 0) (pa_cons (pv 1) pa_nil)))) (pss_one (ps_ret (pe_cmpR oGt (pe_op oShl pe_int (pv 1)) (pv 0) (nomark _))))), ?_⟩), b, F.kp, fun_at F⟩
  obtain ⟨qv, w, rfl, h1, h2, r1, r2, k⟩ := h
  walk_at "nb.s"
  refine use_nmw h1 h2 (fun ho hw H1 e1 => ?_) (fun z => r1 z) (fun ho z => r2 ho z)
  obtain ⟨i, rfl, i1, i2, i3⟩ := id ho
  obtain ⟨j, rfl, j1, j2⟩ := id hw
  obtain ⟨m1, m2⟩ := pow_w (w := j) (by omega) (by omega)
  have one : (1 : Int) * 2 ^ j.toNat = 2 ^ j.toNat := Int.one_mul _
  walk_at "nb.s"
  rw [one]
  exact k i j rfl rfl ho hw H1 e1
def spNear : Sp := fun vs H Q _ => ∃ (a b : Int), vs = [.int a, .int b] ∧ 0 ≤ a ∧ a ≤ 100000000 ∧ 0 < b ∧ b ≤ 100000 ∧ Q (.int ((2 * a + b) / (2 * b))) H
theorem use_near {a b : Int} {H : Hp} {Q : VK} {E : XK} (h1 : 0 ≤ a ∧ a ≤ 100000000) (h2 : 0 < b ∧ b ≤ 100000) (k : Q (.int ((2 * a + b) / (2 * b))) H) : spNear [.int a, .int b] H Q E := ⟨a, b, rfl, h1.1, h1.2, h2.1, h2.2, k⟩
theorem len_law_near {vs : List V} {H : Hp} {Q : VK} {E : XK} (h : spNear vs H Q E) : vs.length = 2 := by
  obtain ⟨_, _, rfl, _⟩ := h
  rfl
theorem ok_law_near (T : Txt K mg) : Good P w K mg base 1 (ga K "_law_near") ["_law_one", "_law_other_here"] spNear := by
  obtain ⟨fd, F⟩ := T.d.def_ 33 (d := d_law_near) rfl
  have b := F.bindsN (ps := ["_law_one", "_law_other_here"]) fun _ _ _ _ _ _ us hl => match us, hl with | [_, _], _ => rfl
  refine ⟨fd, F.ok sc_law_near (fun vs H Q E h => len_law_near h) (fun cdv A outer s H vs Q E hr h => ⟨_, PSs.nox ((pss_cons (ps_set (i := 2) sc_law_near.nd rfl (Or.inl rfl) (pe_op oDiv (pv 0) (pv 1))) (pss_cons (ps_if (pt_cmpR oGe (pe_op oMul pe_int (pe_op oSub (pv 0) (pe_op oMul (pv 2) (pv 1)))) (pv 1) (nomark _)) (pss_one (ps_ret (pe_op oAdd (pv 2) pe_int))) pss_nil) (pss_one (ps_ret (pv 2)))))), ?_⟩), b, F.kp, fun_at F⟩
  obtain ⟨a, b, rfl, a0, a1, b0, b1, k⟩ := h
  rw [← near_is b0] at k
  walk_at "nb.s"
  refine i_ite (fun g => ?_) (fun g => ?_)
  · walk_at "nb.s"
    rw [if_pos g] at k
    exact k
  · walk_at "nb.s"
    rw [if_neg g] at k
    exact k
def spDue : Sp := fun vs H Q _ => ∃ (q w x : Int), vs = [.int q, .int w, .int x] ∧ 3 ≤ q ∧ q ≤ 4095 ∧ 1 ≤ w ∧ w ≤ 11 ∧ 0 ≤ x ∧ x ≤ 4095 ∧ Q (.int (errOf q (2 ^ w.toNat) x)) H
theorem use_due {q w x : Int} {H : Hp} {Q : VK} {E : XK} (h1 : 3 ≤ q) (h2 : q ≤ 4095) (h3 : 1 ≤ w) (h4 : w ≤ 11) (h5 : 0 ≤ x) (h6 : x ≤ 4095) (k : Q (.int (errOf q (2 ^ w.toNat) x)) H) : spDue [.int q, .int w, .int x] H Q E := ⟨q, w, x, rfl, h1, h2, h3, h4, h5, h6, k⟩
theorem len_law_due {vs : List V} {H : Hp} {Q : VK} {E : XK} (h : spDue vs H Q E) : vs.length = 3 := by
  obtain ⟨_, _, _, rfl, _⟩ := h
  rfl
theorem ok_law_due (T : Txt K mg) : Good P w K mg base 2 (ga K "_law_due") ["_law_q", "_law_width_here", "_law_x"] spDue := by
  obtain ⟨fd, F⟩ := T.d.def_ 34 (d := d_law_due) rfl
  have b := F.bindsN (ps := ["_law_q", "_law_width_here", "_law_x"]) fun _ _ _ _ _ _ us hl => match us, hl with | [_, _, _], _ => rfl
  obtain ⟨f_law_near, G_law_near, b_law_near, k_law_near, l_law_near⟩ := ok_law_near (P := P) (w := w) (base := base) T
  refine ⟨fd, F.ok sc_law_due (fun vs H Q E h => len_law_due h) (fun cdv A outer s H vs Q E hr h => ⟨_, PSs.nox ((pss_cons (ps_set (i := 3) sc_law_due.nd rfl (Or.inl rfl) (pe_op oShl pe_int (pv 1))) (pss_cons (ps_set (i := 4) sc_law_due.nd rfl (Or.inl rfl) (pe_op oMod (pe_callTy (kInt) (by rfl) T.b_int (by decide +kernel) (pa_cons (pe_call G_law_near (hr.mono (by decide)) rfl T.g__law_near k_law_near b_law_near .nil passN (pa_cons (pe_op oMul (pv 3) (pv 2)) (pa_cons (pv 0) pa_nil))) pa_nil)) (pv 3))) (pss_cons (ps_set (i := 5) sc_law_due.nd rfl (Or.inl rfl) (pe_op oMod (pe_callTy (kInt) (by rfl) T.b_int (by decide +kernel) (pa_cons (pe_op oSub (pe_call G_law_near (hr.mono (by decide)) rfl T.g__law_near k_law_near b_law_near .nil passN (pa_cons (pe_op oMul (pv 0) (pv 4)) (pa_cons (pv 3) pa_nil))) (pv 2)) pa_nil)) (pv 0))) (pss_cons (ps_if (pt_cmpR oGt (pe_op oMul pe_int (pv 5)) (pv 0) (nomark _)) (pss_one (ps_ret (pe_op oSub (pv 5) (pv 0)))) pss_nil) (pss_one (ps_ret (pv 5)))))))), ?_⟩), b, F.kp, fun_at F⟩
  obtain ⟨q, w, x, rfl, q0, q1, w0, w1, x0, x1, k⟩ := h
  obtain ⟨m1, m2⟩ := pow_w (w := w) (by omega) (by omega)
  have one : (1 : Int) * 2 ^ w.toNat = 2 ^ w.toNat := Int.one_mul _
  rw [← due_is] at k
  obtain ⟨c0, c1⟩ := codeOf_in (q := q) (m := 2 ^ w.toNat) (x := x) (by omega)
  walk_at "nb.s"
  rw [one]
  generalize (2 : Int) ^ w.toNat = m at *
  have g0 : 0 ≤ m * x := Int.mul_nonneg (by omega) x0
  have g1 : m * x ≤ 4096 * 4095 := Int.mul_le_mul m2 x1 x0 (by decide)
  walk_at "nb.s"
  refine use_near ⟨g0, by omega⟩ ⟨by omega, by omega⟩ ?_
  have ec : (2 * (m * x) + q) / (2 * q) % m = codeOf q m x := by rw [← Int.mul_assoc]; rfl
  walk_at "nb.s"
  rw [ec]
  generalize codeOf q m x = c at *
  have f0 : 0 ≤ q * c := Int.mul_nonneg (by omega) c0
  have f1 : q * c ≤ 4095 * 4096 := Int.mul_le_mul q1 (by omega) c0 (by decide)
  walk_at "nb.s"
  refine use_near ⟨f0, by omega⟩ ⟨by omega, by omega⟩ ?_
  have er : (2 * (q * c) + m) / (2 * m) = resR q m c := by rw [← Int.mul_assoc]; rfl
  rw [er]
  generalize resR q m c = r at *
  have z0 : 0 ≤ (r - x) % q := Int.emod_nonneg _ (by omega)
  have z1 : (r - x) % q < q := Int.emod_lt_of_pos _ (by omega)
  unfold cenOf at k
  walk_at "nb.s"
  generalize (r - x) % q = t at *
  refine i_ite (fun g => ?_) (fun g => ?_)
  · walk_at "nb.s"
    rw [if_pos g] at k
    exact k
  · walk_at "nb.s"
    rw [if_neg g] at k
    exact k
/-- which argument is bad, of every kind of call -/
def BadP (q w x : V) (nm : Str) : Prop := (¬ OddQ q ∧ nm = "q") ∨ (OddQ q ∧ ¬ inR w 1 11 ∧ nm = "width")
def BadV (q w x : V) (nm : Str) : Prop := ∃ i, q = .int i ∧ OddQ q ∧ inR w 1 11 ∧ ¬ inR x 0 (i - 1) ∧ nm = "value"
def spTold : Sp := fun vs H Q _ => ∃ (kd : Int) (q w x : V) (nm : Str), vs = [.int kd, q, w, x] ∧ AnyV H q ∧ AnyV H w ∧ AnyV H x ∧ (BadP q w x nm ∨ (kd = 0 ∧ BadV q w x nm)) ∧ ∀ t H', Ext H H' → H t = none → H' t = some (.tup [.str "refused", .str "OutOfRange", .str nm]) → Q (.ref t) H'
theorem use_told {kd : Int} {q w x : V} {nm : Str} {H : Hp} {Q : VK} {E : XK} (h1 : AnyV H q) (h2 : AnyV H w) (h3 : AnyV H x) (b : BadP q w x nm ∨ (kd = 0 ∧ BadV q w x nm)) (k : ∀ t H', Ext H H' → H t = none → H' t = some (.tup [.str "refused", .str "OutOfRange", .str nm]) → Q (.ref t) H') : spTold [.int kd, q, w, x] H Q E := ⟨kd, q, w, x, nm, rfl, h1, h2, h3, b, k⟩
theorem bad_q {q w x : V} {nm : Str} {kd : Int} (b : BadP q w x nm ∨ (kd = 0 ∧ BadV q w x nm)) (n1 : ¬ OddQ q) : nm = "q" := by
  rcases b with (⟨_, z⟩ | ⟨o, _⟩) | ⟨_, i, _, o, _⟩
  · exact z
  · exact absurd o n1
  · exact absurd o n1
theorem bad_w {q w x : V} {nm : Str} {kd : Int} (b : BadP q w x nm ∨ (kd = 0 ∧ BadV q w x nm)) (o : OddQ q) (n2 : ¬ inR w 1 11) : nm = "width" := by
  rcases b with (⟨z, _⟩ | ⟨_, _, z⟩) | ⟨_, i, _, _, r, _⟩
  · exact absurd o z
  · exact z
  · exact absurd r n2
theorem bad_v {q w x : V} {nm : Str} {kd : Int} (b : BadP q w x nm ∨ (kd = 0 ∧ BadV q w x nm)) (o : OddQ q) (r : inR w 1 11) : kd = 0 ∧ BadV q w x nm := by
  rcases b with (⟨z, _⟩ | ⟨_, z, _⟩) | z
  · exact absurd o z
  · exact absurd r z
  · exact z
theorem len_law_told {vs : List V} {H : Hp} {Q : VK} {E : XK} (h : spTold vs H Q E) : vs.length = 4 := by
  obtain ⟨_, _, _, _, _, rfl, _⟩ := h
  rfl
theorem ok_law_told (T : Txt K mg) : Good P w K mg base 8 (ga K "_law_told") ["_law_kind", "_law_q", "_law_width_here", "_law_x"] spTold := by
  obtain ⟨fd, F⟩ := T.d.def_ 35 (d := d_law_told) rfl
  have b := F.bindsN (ps := ["_law_kind", "_law_q", "_law_width_here", "_law_x"]) fun _ _ _ _ _ _ us hl => match us, hl with | [_, _, _, _], _ => rfl
  obtain ⟨f_presses_exactly, G_presses_exactly, b_presses_exactly, k_presses_exactly, l_presses_exactly⟩ := ok_presses_exactly (P := P) (w := w) (base := base) T
  obtain ⟨f_press_bound, G_press_bound, b_press_bound, k_press_bound, l_press_bound⟩ := ok_press_bound (P := P) (w := w) (base := base) T
  obtain ⟨f_press_error, G_press_error, b_press_error, k_press_error, l_press_error⟩ := ok_press_error (P := P) (w := w) (base := base) T
  obtain ⟨f_law_tell, G_law_tell, b_law_tell, k_law_tell, l_law_tell⟩ := ok_law_tell (P := P) (w := w) (base := base) T
  refine ⟨fd, F.ok sc_law_told (fun vs H Q E h => len_law_told h) (fun cdv A outer s H vs Q E hr h => ⟨_, PSs.nox ((pss_one (L2N.ps_try_as (i := 4) (c := .ref (ga K "NoiseboundError")) (Wout := fun _ _ _ _ => False) rfl rfl sc_law_told.nd rfl rfl ⟨rfl, by decide, Or.inl T.g_NoiseboundError⟩ takesN (fun W pn xe tk po => (pss_cons (ps_if (pt_cmpR op_eq (pv 0) pe_int (nomark _)) (pss_one (ps_ret (pe_tup (pa_cons pe_str (pa_cons (pe_callS G_press_error (hr.mono (by decide)) rfl T.g_press_error k_press_error b_press_error (fun σ => L2N.passAt tk σ) (pa_cons (pv 1) (pa_cons (pv 2) (pa_cons (pv 3) pa_nil)))) pa_nil))))) pss_nil) (pss_cons (ps_if (pt_cmpR op_eq (pv 0) pe_int (nomark _)) (pss_one (ps_ret (pe_tup (pa_cons pe_str (pa_cons (pe_callS G_press_bound (hr.mono (by decide)) rfl T.g_press_bound k_press_bound b_press_bound (fun σ => L2N.passAt tk σ) (pa_cons (pv 1) (pa_cons (pv 2) pa_nil))) pa_nil))))) pss_nil) (pss_one (ps_ret (pe_tup (pa_cons pe_str (pa_cons (pe_callS G_presses_exactly (hr.mono (by decide)) rfl T.g_presses_exactly k_presses_exactly b_presses_exactly (fun σ => L2N.passAt tk σ) (pa_cons (pv 1) (pa_cons (pv 2) pa_nil))) pa_nil)))))))) (fun a oe cls d pn hz hf => (pss_one (ps_ret (pe_callPa G_law_tell (roomX hr) (hot_suite hz hf) hz.zc (List.mem_cons_self ..) rfl T.g__law_tell k_law_tell b_law_tell (pa_cons (pv 4) pa_nil)))))))), ?_⟩), b, F.kp, fun_at F⟩
  obtain ⟨kd, q, w, x, nm, rfl, h1, h2, h3, bad, k⟩ := h
  walk_at "nb.s"
  refine i_ite (fun g => ?_) (fun g => ?_)
  · walk_at "nb.s"
    refine use_perr h1 h2 h3 (fun n1 d H' e n x => ?_) (fun o n2 d H' e n x => ?_) (fun i hi o r n3 d H' e n x => ?_) (fun i j y e1 e2 e3 o r r3 H' e => ?_)
    · have hz := bad_q bad n1
      subst hz
      refine was_of T.e_OutOfRange fun a na => ?_
      walk_at "nb.s"
      exact ⟨d, _, rfl, rfl, rfl, x, fun t H2 e2 nt ht => k t _ (e.trans e2) (e.free nt) ht⟩
    · have hz := bad_w bad o n2
      subst hz
      refine was_of T.e_OutOfRange fun a na => ?_
      walk_at "nb.s"
      exact ⟨d, _, rfl, rfl, rfl, x, fun t H2 e2 nt ht => k t _ (e.trans e2) (e.free nt) ht⟩
    · obtain ⟨_, _, _, _, _, _, hz⟩ := bad_v bad o r
      subst hz
      refine was_of T.e_OutOfRange fun a na => ?_
      walk_at "nb.s"
      exact ⟨d, _, rfl, rfl, rfl, x, fun t H2 e2 nt ht => k t _ (e.trans e2) (e.free nt) ht⟩
    · obtain ⟨_, i2, z, _, _, z2, _⟩ := bad_v bad o r
      rw [e1] at z
      cases z
      exact absurd r3 z2
  · walk_at "nb.s"
    refine i_ite (fun g2 => ?_) (fun g2 => ?_)
    · walk_at "nb.s"
      refine use_pbnd h1 h2 (fun n1 d H' e n x => ?_) (fun o n2 d H' e n x => ?_) (fun i j e1 e2 o r H' e => absurd (bad_v bad o r).1 g)
      · have hz := bad_q bad n1
        subst hz
        refine was_of T.e_OutOfRange fun a na => ?_
        walk_at "nb.s"
        exact ⟨d, _, rfl, rfl, rfl, x, fun t H2 e2 nt ht => k t _ (e.trans e2) (e.free nt) ht⟩
      · have hz := bad_w bad o n2
        subst hz
        refine was_of T.e_OutOfRange fun a na => ?_
        walk_at "nb.s"
        exact ⟨d, _, rfl, rfl, rfl, x, fun t H2 e2 nt ht => k t _ (e.trans e2) (e.free nt) ht⟩
    · walk_at "nb.s"
      refine use_pex h1 h2 (fun n1 d H' e n x => ?_) (fun o n2 d H' e n x => ?_) (fun i j e1 e2 o r H' e => absurd (bad_v bad o r).1 g)
      · have hz := bad_q bad n1
        subst hz
        refine was_of T.e_OutOfRange fun a na => ?_
        walk_at "nb.s"
        exact ⟨d, _, rfl, rfl, rfl, x, fun t H2 e2 nt ht => k t _ (e.trans e2) (e.free nt) ht⟩
      · have hz := bad_w bad o n2
        subst hz
        refine was_of T.e_OutOfRange fun a na => ?_
        walk_at "nb.s"
        exact ⟨d, _, rfl, rfl, rfl, x, fun t H2 e2 nt ht => k t _ (e.trans e2) (e.free nt) ht⟩
/-- a row of the refused: what is told of it -/
def RowAt (st : Addr) (H : Hp) (v : V) : Prop := ∃ (p : Addr) (q w x : V) (nm : Str), v = .ref p ∧ p ≠ st ∧ H p = some (.tup [q, w, x, .str nm]) ∧ (AnyV H q ∧ AnyV H w ∧ AnyV H x) ∧ (q ≠ .ref st ∧ w ≠ .ref st ∧ x ≠ .ref st) ∧ BadP q w x nm
theorem RowAt.exX {st : Addr} {H H' : Hp} {v : V} (e : ExX st H H') (h : RowAt st H v) : RowAt st H' v := by
  obtain ⟨p, q, w, x, nm, rfl, n, hp, ⟨a1, a2, a3⟩, ⟨n1, n2, n3⟩, b⟩ := h
  exact ⟨p, q, w, x, nm, rfl, n, e _ _ n hp, ⟨AnyV.exX e n1 a1, AnyV.exX e n2 a2, AnyV.exX e n3 a3⟩, ⟨n1, n2, n3⟩, b⟩
theorem rowNew {st p : Addr} {H : Hp} {q w x : V} {nm : Str} (ho : StoreOk H st) (n : H p = none) (a1 : AnyV H q) (a2 : AnyV H w) (a3 : AnyV H x) (n1 : q ≠ .ref st) (n2 : w ≠ .ref st) (n3 : x ≠ .ref st) (b : BadP q w x nm) : RowAt st (upd H p (.tup [q, w, x, .str nm])) (.ref p) :=
  ⟨p, q, w, x, nm, rfl, ho.ne n, upd_same, ⟨a1.ext (.new n), a2.ext (.new n), a3.ext (.new n)⟩, ⟨n1, n2, n3⟩, b⟩
def spRefused : Sp := fun vs H Q _ => ∃ (st : Addr) (q w : Int), vs = [.ref st, .int q, .int w] ∧ StoreOk H st ∧ OddQ (.int q) ∧ inR (.int w) 1 11 ∧ ∀ H', Drew H st H' → Q (.bl true) H'
theorem use_refused {st : Addr} {q w : Int} {H : Hp} {Q : VK} {E : XK} (h1 : StoreOk H st) (h2 : OddQ (.int q)) (h3 : inR (.int w) 1 11) (k : ∀ H', Drew H st H' → Q (.bl true) H') : spRefused [.ref st, .int q, .int w] H Q E := ⟨st, q, w, rfl, h1, h2, h3, k⟩
theorem len_law_refused {vs : List V} {H : Hp} {Q : VK} {E : XK} (h : spRefused vs H Q E) : vs.length = 3 := by
  obtain ⟨_, _, _, rfl, _⟩ := h
  rfl
theorem ok_law_refused (T : Txt K mg) : Good P w K mg base 9 (ga K "_law_refused") ["_law_store", "_law_q", "_law_width_here"] spRefused := by
  obtain ⟨fd, F⟩ := T.d.def_ 36 (d := d_law_refused) rfl
  have b := F.bindsN (ps := ["_law_store", "_law_q", "_law_width_here"]) fun _ _ _ _ _ _ us hl => match us, hl with | [_, _, _], _ => rfl
  obtain ⟨f_law_same, G_law_same, b_law_same, k_law_same, l_law_same⟩ := ok_law_same (P := P) (w := w) (base := base) T 1
  obtain ⟨f_law_told, G_law_told, b_law_told, k_law_told, l_law_told⟩ := ok_law_told (P := P) (w := w) (base := base) T
  obtain ⟨f_law_take, G_law_take, b_law_take, k_law_take, l_law_take⟩ := ok_law_take (P := P) (w := w) (base := base) T
  obtain ⟨f_law_bad_odd, G_law_bad_odd, b_law_bad_odd, k_law_bad_odd, l_law_bad_odd⟩ := ok_law_bad_odd (P := P) (w := w) (base := base) T
  obtain ⟨f_law_beyond, G_law_beyond, b_law_beyond, k_law_beyond, l_law_beyond⟩ := ok_law_beyond (P := P) (w := w) (base := base) T
  refine ⟨fd, F.ok sc_law_refused (fun vs H Q E h => len_law_refused h) (fun cdv A outer s H vs Q E hr h => ⟨_, PSs.nox ((pss_cons (ps_set (i := 3) sc_law_refused.nd rfl (Or.inl rfl) (pe_call G_law_beyond (hr.mono (by decide)) rfl T.g__law_beyond k_law_beyond b_law_beyond .nil passN (pa_cons (pv 0) (pa_cons pe_int (pa_cons pe_int pa_nil))))) (pss_cons (ps_set (i := 4) sc_law_refused.nd rfl (Or.inl rfl) (pe_call G_law_beyond (hr.mono (by decide)) rfl T.g__law_beyond k_law_beyond b_law_beyond .nil passN (pa_cons (pv 0) (pa_cons pe_int (pa_cons (pe_op oSub (pv 1) pe_int) pa_nil))))) (pss_cons (ps_set (i := 5) sc_law_refused.nd rfl (Or.inl rfl) (pe_lst (pa_cons (pe_tup (pa_cons (pe_call G_law_bad_odd (hr.mono (by decide)) rfl T.g__law_bad_odd k_law_bad_odd b_law_bad_odd .nil passN (pa_cons (pv 0) pa_nil)) (pa_cons (pv 2) (pa_cons pe_int (pa_cons pe_str pa_nil))))) (pa_cons (pe_tup (pa_cons (pv 1) (pa_cons (pv 3) (pa_cons pe_int (pa_cons pe_str pa_nil))))) pa_nil)))) (Evl.pss_cut (ps_if (pt_cmpR op_eq (pe_call G_law_take (hr.mono (by decide)) rfl T.g__law_take k_law_take b_law_take .nil passN (pa_cons (pv 0) (pa_cons pe_int pa_nil))) pe_int (nomark _)) (pss_one (ps_set (i := 5) sc_law_refused.nd rfl (Or.inl rfl) (pe_lst (pa_cons (pe_tup (pa_cons (pe_call G_law_bad_odd (hr.mono (by decide)) rfl T.g__law_bad_odd k_law_bad_odd b_law_bad_odd .nil passN (pa_cons (pv 0) pa_nil)) (pa_cons (pv 3) (pa_cons (pv 4) (pa_cons pe_str pa_nil))))) (pa_cons (pe_tup (pa_cons (pv 1) (pa_cons (pv 3) (pa_cons (pv 4) (pa_cons pe_str pa_nil))))) pa_nil))))) pss_nil) (pss_cons (ps_for PassesOwn.never rfl (pi_list (pv 5)) (pg_name (i := 6) sc_law_refused.nd rfl (Or.inl rfl)) (pss_one (ps_for PassesOwn.never rfl (pi_range1 rfl T.b_range (pa_cons pe_int pa_nil)) (pg_name (i := 7) sc_law_refused.nd rfl (Or.inl rfl)) (pss_one (ps_if (pt_not (pt_val (pe_call G_law_same (hr.mono (by decide)) rfl T.g__law_same k_law_same b_law_same .nil passN (pa_cons (pe_call G_law_told (hr.mono (by decide)) rfl T.g__law_told k_law_told b_law_told .nil passN (pa_cons (pv 7) (pa_cons (pe_ix ix_tup (pv 6) pe_int (fun _ _ => rfl)) (pa_cons (pe_ix ix_tup (pv 6) pe_int (fun _ _ => rfl)) (pa_cons (pe_ix ix_tup (pv 6) pe_int (fun _ _ => rfl)) pa_nil))))) (pa_cons (pe_tup (pa_cons pe_str (pa_cons pe_str (pa_cons (pe_ix ix_tup (pv 6) pe_int (fun _ _ => rfl)) pa_nil)))) pa_nil))))) (pss_one (ps_ret pe_bl)) pss_nil))))) (pss_one (ps_ret (pe_call G_law_same (hr.mono (by decide)) rfl T.g__law_same k_law_same b_law_same .nil passN (pa_cons (pe_call G_law_told (hr.mono (by decide)) rfl T.g__law_told k_law_told b_law_told .nil passN (pa_cons pe_int (pa_cons (pv 1) (pa_cons (pv 2) (pa_cons (pv 4) pa_nil))))) (pa_cons (pe_tup (pa_cons pe_str (pa_cons pe_str (pa_cons pe_str pa_nil)))) pa_nil))))))))))), ?_⟩), b, F.kp, fun_at F⟩
  obtain ⟨st, q, w, rfl, ho, oq, rw, k⟩ := h
  walk_at "nb.s"
  refine use_beyond ho fun bw H1 d1 aw iw nw => ?_
  walk_at "nb.s"
  refine use_beyond d1.2 fun bv H2 d2 av iv nv => ?_
  walk_at "nb.s"
  refine use_badOdd d2.2 fun bq H3 d3 aq iq nq => ?_
  have ni : ∀ z : Int, V.int z ≠ .ref st := fun z e => nomatch e
  have aw3 : AnyV H3 bw := AnyV.exX d3.1 nw (AnyV.exX d2.1 nw aw)
  have av3 : AnyV H3 bv := AnyV.exX d3.1 nv av
  walk_at "nb.s"
  intro p1 n1
  walk_at "nb.s"
  intro p2 n2
  walk_at "nb.s"
  intro l nl
  walk_at "nb.s"
  have D3 := (d1.trans d2).trans d3
  have r1 := rowNew (nm := "q") d3.2 n1 aq (.int w) (.int 0) nq (ni _) (ni _) (.inl ⟨iq, rfl⟩)
  have D4 := D3.new (o := .tup [bq, .int w, .int 0, .str "q"]) n1
  have aw4 := aw3.ext (.new (o := .tup [bq, .int w, .int 0, .str "q"]) n1)
  have av4 := av3.ext (.new (o := .tup [bq, .int w, .int 0, .str "q"]) n1)
  generalize upd H3 p1 (.tup [bq, .int w, .int 0, .str "q"]) = H4 at *
  have r2 := rowNew (nm := "width") (x := .int 0) D4.2 n2 (.int q) aw4 (.int 0) (ni _) nw (ni _) (.inr ⟨oq, iw, rfl⟩)
  have D5 := D4.new (o := .tup [.int q, bw, .int 0, .str "width"]) n2
  have aw5 := aw4.ext (.new (o := .tup [.int q, bw, .int 0, .str "width"]) n2)
  have av5 := av4.ext (.new (o := .tup [.int q, bw, .int 0, .str "width"]) n2)
  have r1a := r1.exX (Drew.of D4.2 (.new (o := .tup [.int q, bw, .int 0, .str "width"]) n2)).1
  generalize upd H4 p2 (.tup [.int q, bw, .int 0, .str "width"]) = H6 at *
  have D7 := D5.new (o := .lst [.ref p1, .ref p2]) nl
  have aw7 := aw5.ext (.new (o := .lst [.ref p1, .ref p2]) nl)
  have av7 := av5.ext (.new (o := .lst [.ref p1, .ref p2]) nl)
  have x7 := (Drew.of D5.2 (.new (o := .lst [.ref p1, .ref p2]) nl)).1
  have r1c := r1a.exX x7
  have r2b := r2.exX x7
  have hl : upd H6 l (.lst [.ref p1, .ref p2]) l = some (.lst [.ref p1, .ref p2]) := upd_same
  have nls := D5.ne nl
  generalize upd H6 l (.lst [.ref p1, .ref p2]) = H7 at *
  refine ⟨fun σ' H' => ∃ a rows, σ' = [some (.ref st), some (.int q), some (.int w), some bw, some bv, some (.ref a), none, none] ∧ Drew H st H' ∧ a ≠ st ∧ H' a = some (.lst rows) ∧ AnyV H' bv ∧ ∀ v ∈ rows, RowAt st H' v, ?_, ?_⟩
  · walk_at "nb.s"
    refine use_take D7.2 (draw_small (by decide)) fun n H8 d8 z0 z1 => ?_
    have r1d := r1c.exX d8.1
    have r2c := r2b.exX d8.1
    have D8 := D7.trans d8
    have aw8 := AnyV.exX d8.1 nw aw7
    have av8 := AnyV.exX d8.1 nv av7
    have hl8 := d8.1 _ _ nls hl
    walk_at "nb.s"
    refine i_ite (fun h1 => ?_) (fun h1 => ?_)
    · walk_at "nb.s"
      refine use_badOdd D8.2 fun bq2 H9 d9 aq9 iq9 nq9 => ?_
      have D9 := D8.trans d9
      have aw9 := AnyV.exX d9.1 nw aw8
      have av9 := AnyV.exX d9.1 nv av8
      walk_at "nb.s"
      intro t1 m1
      walk_at "nb.s"
      intro t2 m2
      walk_at "nb.s"
      intro b nb
      walk_at "nb.s"
      have s1 := rowNew (nm := "q") D9.2 m1 aq9 aw9 av9 nq9 nw nv (.inl ⟨iq9, rfl⟩)
      have e1 := Ext.new (o := .tup [bq2, bw, bv, .str "q"]) m1
      have D10 := D9.new (o := .tup [bq2, bw, bv, .str "q"]) m1
      have s2 := rowNew (nm := "width") D10.2 m2 (.int q) (aw9.ext e1) (av9.ext e1) (ni _) nw nv (.inr ⟨oq, iw, rfl⟩)
      have e2 := Ext.new (o := .tup [.int q, bw, bv, .str "width"]) m2
      have D11 := D10.new (o := .tup [.int q, bw, bv, .str "width"]) m2
      have e3 := Ext.new (o := .lst [.ref t1, .ref t2]) nb
      have D12 := D11.new (o := .lst [.ref t1, .ref t2]) nb
      refine ⟨b, _, rfl, D12, D11.ne nb, upd_same, ((av9.ext e1).ext e2).ext e3, fun v hv => ?_⟩
      simp only [List.mem_cons, List.not_mem_nil, or_false] at hv
      rcases hv with rfl | rfl
      · exact s1.exX (Drew.of D10.2 (e2.trans e3)).1
      · exact s2.exX (Drew.of D11.2 e3).1
    · walk_at "nb.s"
      refine ⟨l, _, rfl, D8, nls, hl8, av8, fun v hv => ?_⟩
      simp only [List.mem_cons, List.not_mem_nil, or_false] at hv
      rcases hv with rfl | rfl
      · exact r1d
      · exact r2c
  · rintro σ' H' ⟨a, rows, rfl, D, na, ha, avm, hr⟩
    walk_at "nb.s"
    refine i_listOf (P := True) (sqL_of ha) ?_
    refine fl_of (xs := rows) (fun i σ2 H2 => ∃ v v2, σ2 = [some (.ref st), some (.int q), some (.int w), some bw, some bv, some (.ref a), v, v2] ∧ Ext H' H2) ⟨_, _, rfl, .refl _⟩ ?_ ?_ ?_
    · rintro i σ2 H2 hi ⟨v, v2, rfl, e⟩
      exact sqL_of (e _ _ ha)
    · rintro i x σ2 H2 hx ⟨v, v2, rfl, e⟩
      obtain ⟨p, y0, y1, y2, nm, rfl, np, hp, ⟨g1, g2, g3⟩, _, bad⟩ := hr x (List.mem_of_getElem? hx)
      walk_at "nb.s"
      refine i_rng1 (by decide) (by decide) ?_
      refine fr_of (fun j σ3 H3 => ∃ v3, σ3 = [some (.ref st), some (.int q), some (.int w), some bw, some bv, some (.ref a), some (.ref p), v3] ∧ Ext H' H3) ⟨_, rfl, e⟩ ?_ ?_
      · rintro j σ3 H3 hj ⟨v3, rfl, e3⟩
        have hp2 := e3 _ _ hp
        walk_at "nb.s"
        refine use_told (g1.ext e3) (g2.ext e3) (g3.ext e3) (.inl bad) fun t H4 e4 nt ht => ?_
        have hp3 := e4 _ _ hp2
        walk_at "nb.s"
        intro u nu
        walk_at "nb.s"
        refine use_same (Sm.tup (upd_old nu ht) upd_same rfl (by show 3 ≤ 1000000; decide) fun i a b ha hb => ?_) fun H5 e5 => ?_
        · rw [ha] at hb
          cases hb
          match i, ha with
          | 0, z => cases z; exact Sm.flat (.str _)
          | 1, z => cases z; exact Sm.flat (.str _)
          | 2, z => cases z; exact Sm.flat (.str _)
          | j + 3, z => cases z
        · walk_at "nb.s"
          exact ⟨_, rfl, ((e3.trans e4).trans (.new nu)).trans e5⟩
      · rintro σ3 H3 ⟨v3, rfl, e3⟩
        exact ⟨_, _, rfl, e3⟩
    · rintro σ2 H2 ⟨v, v2, rfl, e⟩
      walk_at "nb.s"
      refine use_told (.int q) (.int w) (avm.ext e) (.inr ⟨rfl, q, rfl, oq, rw, iv, rfl⟩) fun t H4 e4 nt ht => ?_
      walk_at "nb.s"
      intro u nu
      walk_at "nb.s"
      refine use_same (Sm.tup (upd_old nu ht) upd_same rfl (by show 3 ≤ 1000000; decide) fun i a b ha hb => ?_) fun H5 e5 => k _ (D.then (((e.trans e4).trans (.new nu)).trans e5))
      rw [ha] at hb
      cases hb
      match i, ha with
      | 0, z => cases z; exact Sm.flat (.str _)
      | 1, z => cases z; exact Sm.flat (.str _)
      | 2, z => cases z; exact Sm.flat (.str _)
      | j + 3, z => cases z
theorem map_at {ns : List Int} {i : Nat} {v : V} (e : (ns.map V.int)[i]? = some v) : ∃ n, v = V.int n ∧ ns[i]? = some n := by
  rw [List.getElem?_map] at e
  cases q : ns[i]? with
  | none => rw [q] at e; cases e
  | some z => rw [q] at e; cases e; exact ⟨z, rfl, rfl⟩
def spBounded : Sp := fun vs H Q _ => ∃ (q w : Int) (p : Addr), vs = [.int q, .int w, .ref p] ∧ OddQ (.int q) ∧ 1 ≤ w ∧ w ≤ 11 ∧ SpotsAt H p q 100000 ∧ ∀ H', Ext H H' → Q (.bl true) H'
theorem use_bounded {q w : Int} {p : Addr} {H : Hp} {Q : VK} {E : XK} (h1 : OddQ (.int q)) (h2 : 1 ≤ w ∧ w ≤ 11) (h3 : SpotsAt H p q 100000) (k : ∀ H', Ext H H' → Q (.bl true) H') : spBounded [.int q, .int w, .ref p] H Q E := ⟨q, w, p, rfl, h1, h2.1, h2.2, h3, k⟩
theorem pow_ev2 {w : Int} (h0 : 1 ≤ w) : (2 : Int) ^ w.toNat % 2 = 0 ∧ 2 ≤ (2 : Int) ^ w.toNat := by
  obtain ⟨n, rfl⟩ := Int.eq_ofNat_of_zero_le (by omega : 0 ≤ w)
  rw [Int.toNat_natCast]
  match n, h0 with
  | j + 1, _ =>
    rw [Int.pow_succ]
    have : (0 : Int) < 2 ^ j := Int.pow_pos (by decide)
    omega
theorem len_law_bounded {vs : List V} {H : Hp} {Q : VK} {E : XK} (h : spBounded vs H Q E) : vs.length = 3 := by
  obtain ⟨_, _, _, rfl, _⟩ := h
  rfl
theorem ok_law_bounded (T : Txt K mg) : Good P w K mg base 8 (ga K "_law_bounded") ["_law_q", "_law_width_here", "_law_spots_here"] spBounded := by
  obtain ⟨fd, F⟩ := T.d.def_ 37 (d := d_law_bounded) rfl
  have b := F.bindsN (ps := ["_law_q", "_law_width_here", "_law_spots_here"]) fun _ _ _ _ _ _ us hl => match us, hl with | [_, _, _], _ => rfl
  obtain ⟨f_law_same, G_law_same, b_law_same, k_law_same, l_law_same⟩ := ok_law_same (P := P) (w := w) (base := base) T 1
  obtain ⟨f_press_error, G_press_error, b_press_error, k_press_error, l_press_error⟩ := ok_press_error (P := P) (w := w) (base := base) T
  obtain ⟨f_law_due, G_law_due, b_law_due, k_law_due, l_law_due⟩ := ok_law_due (P := P) (w := w) (base := base) T
  obtain ⟨f_press_bound, G_press_bound, b_press_bound, k_press_bound, l_press_bound⟩ := ok_press_bound (P := P) (w := w) (base := base) T
  obtain ⟨f_presses_exactly, G_presses_exactly, b_presses_exactly, k_presses_exactly, l_presses_exactly⟩ := ok_presses_exactly (P := P) (w := w) (base := base) T
  obtain ⟨f_law_within, G_law_within, b_law_within, k_law_within, l_law_within⟩ := ok_law_within (P := P) (w := w) (base := base) T
  have kb0 : KBn K f_press_error ["q", "width", "value"] 0 ["value", "width", "q"] (pick [2, 1, 0]) (pick [2, 1, 0]) := by
    obtain ⟨fd1, F1⟩ := T.d.def_ 13 (d := d_press_error) rfl
    have e := fun_one l_press_error (fun_at F1)
    subst e
    exact kwBinds F1 0 ["value", "width", "q"] [2, 1, 0] fun _ _ _ _ _ _ us ws h1 h2 => match us, ws, h1, h2 with | [], [_, _, _], _, _ => rfl
  have kb1 : KBn K f_press_bound ["q", "width"] 0 ["width", "q"] (pick [1, 0]) (pick [1, 0]) := by
    obtain ⟨fd1, F1⟩ := T.d.def_ 14 (d := d_press_bound) rfl
    have e := fun_one l_press_bound (fun_at F1)
    subst e
    exact kwBinds F1 0 ["width", "q"] [1, 0] fun _ _ _ _ _ _ us ws h1 h2 => match us, ws, h1, h2 with | [], [_, _], _, _ => rfl
  have kb2 : KBn K f_presses_exactly ["q", "width"] 0 ["width", "q"] (pick [1, 0]) (pick [1, 0]) := by
    obtain ⟨fd1, F1⟩ := T.d.def_ 15 (d := d_presses_exactly) rfl
    have e := fun_one l_presses_exactly (fun_at F1)
    subst e
    exact kwBinds F1 0 ["width", "q"] [1, 0] fun _ _ _ _ _ _ us ws h1 h2 => match us, ws, h1, h2 with | [], [_, _], _, _ => rfl
  refine ⟨fd, F.ok sc_law_bounded (fun vs H Q E h => len_law_bounded h) (fun cdv A outer s H vs Q E hr h => ⟨_, PSs.nox ((pss_cons (ps_set (i := 3) sc_law_bounded.nd rfl (Or.inl rfl) (pe_op oShl pe_int (pv 1))) (pss_cons (ps_set (i := 4) sc_law_bounded.nd rfl (Or.inl rfl) (pe_call G_press_bound (hr.mono (by decide)) rfl T.g_press_bound k_press_bound b_press_bound .nil passN (pa_cons (pv 0) (pa_cons (pv 1) pa_nil)))) (pss_cons (ps_if (PW.pt (pw_or (pt_not (pt_val (pe_call G_law_within (hr.mono (by decide)) rfl T.g__law_within k_law_within b_law_within .nil passN (pa_cons (pv 4) (pa_cons pe_int (pa_cons (pv 0) pa_nil)))))) (pw_or1 (pt_cmpR oGe (pe_callB (kAbs) (by rfl) T.b_abs (by decide +kernel) (pa_cons (pe_op oSub (pv 0) (pe_op oMul (pe_op oMul pe_int (pv 3)) (pv 4))) pa_nil)) (pv 3) (nomark _))))) (pss_one (ps_ret pe_bl)) pss_nil) (pss_cons (ps_set (i := 5) sc_law_bounded.nd rfl (Or.inl rfl) (pe_lst (pa_cons (pe_call G_presses_exactly (hr.mono (by decide)) rfl T.g_presses_exactly k_presses_exactly b_presses_exactly .nil passN (pa_cons (pv 0) (pa_cons (pv 1) pa_nil))) (pa_cons (pe_callN0 (E := fun _ => E0) G_presses_exactly (hr.mono (by decide)) rfl T.g_presses_exactly k_presses_exactly kb2 (fun σ => passAtN) (pk_cons (pv 1) (pk_cons (pv 0) pk_nil))) pa_nil)))) (pss_cons (ps_if (pt_not (pt_val (pe_call G_law_same (hr.mono (by decide)) rfl T.g__law_same k_law_same b_law_same .nil passN (pa_cons (pe_op op_cat (pv 5) (pe_lst (pa_cons (pe_callN0 (E := fun _ => E0) G_press_bound (hr.mono (by decide)) rfl T.g_press_bound k_press_bound kb1 (fun σ => passAtN) (pk_cons (pv 1) (pk_cons (pv 0) pk_nil))) pa_nil))) (pa_cons (pe_lst (pa_cons (pe_cmpR oGt (pv 3) (pv 0) (nomark _)) (pa_cons (pe_cmpR oGt (pv 3) (pv 0) (nomark _)) (pa_cons (pv 4) pa_nil)))) pa_nil))))) (pss_one (ps_ret pe_bl)) pss_nil) (pss_cons (ps_set (i := 6) sc_law_bounded.nd rfl (Or.inl rfl) pe_int) (pss_cons (ps_for PassesOwn.never rfl (pi_list (pe_op op_cat (pv 2) (pe_lst (pa_cons (pe_op oSub (pe_op oDiv (pe_op oAdd (pv 0) pe_int) pe_int) (pv 4)) pa_nil)))) (pg_name (i := 7) sc_law_bounded.nd rfl (Or.inl rfl)) (pss_cons (ps_set (i := 8) sc_law_bounded.nd rfl (Or.inl rfl) (pe_call G_press_error (hr.mono (by decide)) rfl T.g_press_error k_press_error b_press_error .nil passN (pa_cons (pv 0) (pa_cons (pv 1) (pa_cons (pv 7) pa_nil))))) (pss_cons (ps_if (pt_not (pt_val (pe_call G_law_same (hr.mono (by decide)) rfl T.g__law_same k_law_same b_law_same .nil passN (pa_cons (pv 8) (pa_cons (pe_call G_law_due (hr.mono (by decide)) rfl T.g__law_due k_law_due b_law_due .nil passN (pa_cons (pv 0) (pa_cons (pv 1) (pa_cons (pv 7) pa_nil)))) pa_nil))))) (pss_one (ps_ret pe_bl)) pss_nil) (pss_one (ps_set (i := 6) sc_law_bounded.nd rfl (Or.inl rfl) (pe_callB (kMax2 rfl) (by rfl) T.b_max (by decide +kernel) (pa_cons (pv 6) (pa_cons (pe_callB (kAbs) (by rfl) T.b_abs (by decide +kernel) (pa_cons (pv 8) pa_nil)) pa_nil)))))))) (pss_cons (ps_if (pt_not (pt_val (pe_call G_law_same (hr.mono (by decide)) rfl T.g__law_same k_law_same b_law_same .nil passN (pa_cons (pe_callN0 (E := fun _ => E0) G_press_error (hr.mono (by decide)) rfl T.g_press_error k_press_error kb0 (fun σ => passAtN) (pk_cons (pe_op oSub (pe_op oDiv (pe_op oAdd (pv 0) pe_int) pe_int) (pv 4)) (pk_cons (pv 1) (pk_cons (pv 0) pk_nil)))) (pa_cons (pv 4) pa_nil))))) (pss_one (ps_ret pe_bl)) pss_nil) (pss_one (ps_ret (pe_and (pe_cmpR op_eq (pv 6) (pv 4) (nomark _)) (pe_one (pe_cmpR op_eq (pe_cmpR op_eq (pv 6) pe_int (nomark _)) (pe_cmpR oGt (pv 3) (pv 0) (nomark _)) (nomark _))))))))))))))), ?_⟩), b, F.kp, fun_at F⟩
  obtain ⟨q, w, p, rfl, oq, w0, w1, ⟨ns, f1, f2, f3, f4⟩, k⟩ := h
  obtain ⟨q0, q1, q2⟩ := OddQ.int.mp oq
  obtain ⟨m1, m2⟩ := pow_w (w := w) (by omega) (by omega)
  obtain ⟨mev, mtwo⟩ := pow_ev2 w0
  have one : (1 : Int) * 2 ^ w.toNat = 2 ^ w.toNat := Int.one_mul _
  walk_at "nb.s"
  rw [one]
  refine use_pbndOk oq ⟨w0, w1⟩ fun H1 e1 => ?_
  obtain ⟨b0, b1, _, _, bz⟩ := bnd_b (by omega) mtwo q2 mev
  obtain ⟨b2, b3⟩ := bnd_in (by omega) mtwo q2 mev
  obtain ⟨s0, s1, s2⟩ := err_star q0 mtwo q2 mev
  have er : ∀ x, 0 ≤ x → x ≤ q - 1 → -(bnd q (2 ^ w.toNat)) ≤ errOf q (2 ^ w.toNat) x ∧ errOf q (2 ^ w.toNat) x ≤ bnd q (2 ^ w.toNat) := fun x h0 h1 => (err_is (by omega) mtwo q2 mev h0 h1).2
  walk_at "nb.s"
  refine use_within (.int _) fun H2 e2 => ?_
  have e : inRb (.int (bnd q (2 ^ w.toNat))) 0 q = true := by
    show (decide (0 ≤ bnd q (2 ^ w.toNat)) && decide (bnd q (2 ^ w.toNat) ≤ q)) = true
    rw [decide_eq_true b0, decide_eq_true (by omega)]
    rfl
  rw [e]
  walk_at "nb.s"
  generalize hB : bnd q (2 ^ w.toNat) = B at *
  have nab : ¬ (2 ^ w.toNat ≤ if q - 2 * 2 ^ w.toNat * B < 0 then -(q - 2 * 2 ^ w.toNat * B) else q - 2 * 2 ^ w.toNat * B) := by
    generalize q - 2 * 2 ^ w.toNat * B = t at *
    split <;> omega
  refine i_ite (fun g => absurd g nab) (fun _ => ?_)
  walk_at "nb.s"
  refine use_pexOk oq ⟨w0, w1⟩ fun H3 e3 => ?_
  walk_at "nb.s"
  refine ⟨rfl, use_pexOk oq ⟨w0, w1⟩ fun H4 e4 => ?_⟩
  walk_at "nb.s"
  intro l nl
  walk_at "nb.s"
  refine ⟨rfl, use_pbndOk oq ⟨w0, w1⟩ fun H5 e5 => ?_⟩
  rw [hB]
  have hl : H5 l = some (.lst [.bl (decide (2 ^ w.toNat > q)), .bl (decide (2 ^ w.toNat > q))]) := e5 _ _ upd_same
  have E5 : Ext H H5 := ((((e1.trans e2).trans e3).trans e4).trans (.new nl)).trans e5
  walk_at "nb.s"
  intro l2 nl2
  walk_at "nb.s"
  refine i_cat (upd_old nl2 hl) upd_same (by show 2 + 1 ≤ 16777216; decide) fun l3 nl3 => ?_
  walk_at "nb.s"
  intro l4 nl4
  walk_at "nb.s"
  have E6 := ((E5.trans (.new (o := .lst [.int B]) nl2)).trans (.new (o := .lst ([V.bl (decide (2 ^ w.toNat > q)), .bl (decide (2 ^ w.toNat > q))] ++ [V.int B])) nl3)).trans (.new (o := .lst [.bl (decide (2 ^ w.toNat > q)), .bl (decide (2 ^ w.toNat > q)), .int B]) nl4)
  refine use_same (Sm.lst (upd_old nl4 upd_same) upd_same rfl (by show 3 ≤ 1000000; decide) fun i a b ha hb => ?_) fun H7 e7 => ?_
  · have ha2 : [V.bl (decide (2 ^ w.toNat > q)), .bl (decide (2 ^ w.toNat > q)), .int B][i]? = some a := ha
    rw [ha2] at hb
    cases hb
    match i, ha2 with
    | 0, z => cases z; exact Sm.flat (.bl _)
    | 1, z => cases z; exact Sm.flat (.bl _)
    | 2, z => cases z; exact Sm.flat (.int _)
    | j + 3, z => cases z
  have E7 := E6.trans e7
  walk_at "nb.s"
  intro l5 nl5
  have p7 := E7 _ _ f1
  walk_at "nb.s"
  refine i_cat (upd_old nl5 p7) upd_same (by rw [List.length_map]; show ns.length + 1 ≤ 16777216; omega) fun l6 nl6 => ?_
  walk_at "nb.s"
  have E8 := (E7.trans (.new (o := .lst [.int ((q + 1) / 2 - B)]) nl5)).trans (.new (o := .lst (ns.map V.int ++ [.int ((q + 1) / 2 - B)])) nl6)
  have hl6 : upd (upd H7 l5 (.lst [.int ((q + 1) / 2 - B)])) l6 (.lst (ns.map V.int ++ [.int ((q + 1) / 2 - B)])) l6 = some (.lst ((ns ++ [(q + 1) / 2 - B]).map V.int)) := by
    rw [List.map_append]
    exact upd_same
  generalize upd (upd H7 l5 (.lst [.int ((q + 1) / 2 - B)])) l6 (.lst (ns.map V.int ++ [.int ((q + 1) / 2 - B)])) = H8 at *
  refine i_listOf (P := True) (sqL_of hl6) ?_
  refine fl_of (xs := (ns ++ [(q + 1) / 2 - B]).map V.int) (fun i σ2 H2 => ∃ W v7 v8, σ2 = [some (.int q), some (.int w), some (.ref p), some (.int (2 ^ w.toNat)), some (.int B), some (.ref l), some (.int W), v7, v8] ∧ Ext H8 H2 ∧ 0 ≤ W ∧ W ≤ B ∧ (ns.length < i → W = B)) ⟨0, _, _, rfl, .refl _, by omega, b0, fun z => absurd z (by omega)⟩ ?_ ?_ ?_
  · rintro i σ2 H2 hi ⟨W, v7, v8, rfl, e, _⟩
    exact sqL_of (e _ _ hl6)
  · rintro i x σ2 H2 hx ⟨W, v7, v8, rfl, e, W0, W1, WB⟩
    obtain ⟨z, rfl, hz⟩ := map_at hx
    have zin : 0 ≤ z ∧ z ≤ q - 1 := by
      rcases List.mem_append.mp (List.mem_of_getElem? hz) with hz2 | hz2
      · exact f4 z hz2
      · simp only [List.mem_cons, List.not_mem_nil, or_false] at hz2
        omega
    have zl : ns.length < i + 1 → errOf q (2 ^ w.toNat) z = B := fun hi => by
      have hi2 : i = ns.length := by
        have h3 := (List.getElem?_eq_some_iff.mp hz).1
        rw [List.length_append] at h3
        have h4 : i < ns.length + 1 := h3
        omega
      rw [hi2, List.getElem?_append_right (Nat.le_refl _), Nat.sub_self] at hz
      cases hz
      exact s2
    obtain ⟨ea, eb⟩ := er z zin.1 zin.2
    walk_at "nb.s"
    refine use_perrOk oq ⟨w0, w1⟩ zin fun H9 e9 => ?_
    walk_at "nb.s"
    refine use_due q0 q1 w0 w1 zin.1 (by omega) ?_
    generalize errOf q (2 ^ w.toNat) z = er1 at *
    walk_at "nb.s"
    refine use_same (Sm.flat (.int _)) fun H10 e10 => ?_
    walk_at "nb.s"
    refine ⟨_, _, _, rfl, (e.trans e9).trans e10, ?_, ?_, fun hi => ?_⟩
    · split <;> split <;> omega
    · split <;> split <;> omega
    · have := zl hi
      split <;> split <;> omega
  · rintro σ2 H2 ⟨W, v7, v8, rfl, e8, W0, W1, WB⟩
    have hW : W = B := WB (by rw [List.length_map, List.length_append]; show ns.length < ns.length + 1; omega)
    subst hW
    walk_at "nb.s"
    refine ⟨rfl, use_perrOk oq ⟨w0, w1⟩ ⟨s0, s1⟩ fun H9 e9 => ?_⟩
    rw [s2]
    walk_at "nb.s"
    refine use_same (Sm.flat (.int _)) fun H10 e10 => ?_
    have E10 := ((E8.trans e8).trans e9).trans e10
    walk_at "nb.s"
    refine i_ite (fun _ => ?_) (fun z => absurd rfl z)
    walk_at "nb.s"
    have z : decide (W = 0) = decide (2 ^ w.toNat > q) := by
      by_cases g : W = 0
      · rw [decide_eq_true g, decide_eq_true (bz.mp g)]
      · rw [decide_eq_false g, decide_eq_false fun g2 => g (bz.mpr g2)]
    rw [z]
    have z3 : decide (decide (2 ^ w.toNat > q) = decide (q < 2 ^ w.toNat)) = true := decide_eq_true rfl
    rw [z3]
    exact k H10 E10
theorem len_law {K : PySem.W.Frag} {vs : List V} {H : Hp} {Q : VK} {E : XK} (h : spLaw K vs H Q E) : vs.length = 1 := by
  obtain ⟨_, _, rfl, _⟩ := h
  rfl
theorem ok_law (T : Txt K mg) : Good P w K mg base 10 (ga K "law") ["_law_script"] (spLaw K) := by
  obtain ⟨fd, F⟩ := T.d.def_ 38 (d := d_law) rfl
  have b := F.bindsN (ps := ["_law_script"]) fun _ _ _ _ _ _ us hl => match us, hl with | [_], _ => rfl
  obtain ⟨f_law_bounded, G_law_bounded, b_law_bounded, k_law_bounded, l_law_bounded⟩ := ok_law_bounded (P := P) (w := w) (base := base) T
  obtain ⟨f_law_spots, G_law_spots, b_law_spots, k_law_spots, l_law_spots⟩ := ok_law_spots (P := P) (w := w) (base := base) T
  obtain ⟨f_law_refused, G_law_refused, b_law_refused, k_law_refused, l_law_refused⟩ := ok_law_refused (P := P) (w := w) (base := base) T
  obtain ⟨f_law_width_for, G_law_width_for, b_law_width_for, k_law_width_for, l_law_width_for⟩ := ok_law_width_for (P := P) (w := w) (base := base) T
  obtain ⟨f_law_odd, G_law_odd, b_law_odd, k_law_odd, l_law_odd⟩ := ok_law_odd (P := P) (w := w) (base := base) T
  obtain ⟨f_law_begin, G_law_begin, b_law_begin, k_law_begin, l_law_begin⟩ := ok_law_begin (P := P) (w := w) (base := base) T
  refine ⟨fd, F.ok sc_law (fun vs H Q E h => len_law h) (fun cdv A outer s H vs Q E hr h => ⟨_, PSs.nox ((pss_cons (ps_set (i := 1) sc_law.nd rfl (Or.inl rfl) (pe_call G_law_begin (hr.mono (by decide)) rfl T.g__law_begin k_law_begin b_law_begin .nil passN (pa_cons (pv 0) pa_nil))) (pss_cons (ps_set (i := 2) sc_law.nd rfl (Or.inl rfl) (pe_call G_law_odd (hr.mono (by decide)) rfl T.g__law_odd k_law_odd b_law_odd .nil passN (pa_cons (pv 1) pa_nil))) (pss_cons (ps_set (i := 3) sc_law.nd rfl (Or.inl rfl) (pe_call G_law_width_for (hr.mono (by decide)) rfl T.g__law_width_for k_law_width_for b_law_width_for .nil passN (pa_cons (pv 1) (pa_cons (pv 2) pa_nil)))) (pss_cons (ps_set (i := 4) sc_law.nd rfl (Or.inl rfl) (pe_call G_law_spots (hr.mono (by decide)) rfl T.g__law_spots k_law_spots b_law_spots .nil passN (pa_cons (pv 1) (pa_cons (pv 2) (pa_cons (pv 3) pa_nil))))) (pss_cons (ps_set (i := 5) sc_law.nd rfl (Or.inl rfl) (pe_call G_law_odd (hr.mono (by decide)) rfl T.g__law_odd k_law_odd b_law_odd .nil passN (pa_cons (pv 1) pa_nil))) (pss_cons (ps_set (i := 6) sc_law.nd rfl (Or.inl rfl) (pe_call G_law_width_for (hr.mono (by decide)) rfl T.g__law_width_for k_law_width_for b_law_width_for .nil passN (pa_cons (pv 1) (pa_cons (pv 5) pa_nil)))) (pss_cons (ps_if (PW.pt (pw_or (pt_not (pt_val (pe_call G_law_bounded (hr.mono (by decide)) rfl T.g__law_bounded k_law_bounded b_law_bounded .nil passN (pa_cons (pv 2) (pa_cons (pv 3) (pa_cons (pv 4) pa_nil)))))) (pw_or1 (pt_not (pt_val (pe_call G_law_refused (hr.mono (by decide)) rfl T.g__law_refused k_law_refused b_law_refused .nil passN (pa_cons (pv 1) (pa_cons (pv 2) (pa_cons (pv 3) pa_nil))))))))) (pss_one (ps_ret pe_bl)) pss_nil) (pss_cons (ps_if (pt_not (pt_val (pe_call G_law_bounded (hr.mono (by decide)) rfl T.g__law_bounded k_law_bounded b_law_bounded .nil passN (pa_cons (pv 5) (pa_cons (pv 6) (pa_cons (pe_call G_law_spots (hr.mono (by decide)) rfl T.g__law_spots k_law_spots b_law_spots .nil passN (pa_cons (pv 1) (pa_cons (pv 5) (pa_cons (pv 6) pa_nil)))) pa_nil)))))) (pss_one (ps_ret pe_bl)) pss_nil) (pss_one (ps_ret (pe_and (pe_call G_law_bounded (hr.mono (by decide)) rfl T.g__law_bounded k_law_bounded b_law_bounded .nil passN (pa_cons (pv 2) (pa_cons (pv 3) (pa_cons (pv 4) pa_nil)))) (pe_one (pe_call G_law_bounded (hr.mono (by decide)) rfl T.g__law_bounded k_law_bounded b_law_bounded .nil passN (pa_cons (pv 2) (pa_cons (pe_op oSub pe_int (pv 3)) (pa_cons (pv 4) pa_nil))))))))))))))))), ?_⟩), b, F.kp, fun_at F⟩
  obtain ⟨a, ns, rfl, hS, hl, hb, k⟩ := h
  walk_at "nb.s"
  refine ⟨a, ns, rfl, hS, fun st H1 e1 nst ho => ?_⟩
  walk_at "nb.s"
  refine use_odd ho fun q H2 d2 q0 q1 q2 => ?_
  walk_at "nb.s"
  refine use_widthFor d2.2 fun w H3 d3 w0 w1 => ?_
  walk_at "nb.s"
  refine use_spots d3.2 ⟨q0, q1⟩ ⟨w0, w1⟩ fun sp H4 d4 nsp hsp => ?_
  walk_at "nb.s"
  refine use_odd d4.2 fun oq H5 d5 o0 o1 o2 => ?_
  walk_at "nb.s"
  refine use_widthFor d5.2 fun ow H6 d6 v0 v1 => ?_
  have sp6 := (hsp.exX d5.1 nsp).exX d6.1 nsp
  have hq : OddQ (.int q) := OddQ.int.mpr ⟨q0, q1, q2⟩
  have hoq : OddQ (.int oq) := OddQ.int.mpr ⟨o0, o1, o2⟩
  walk_at "nb.s"
  refine use_bounded hq ⟨w0, w1⟩ sp6 fun H7 e7 => ?_
  have sp7 := sp6.ext e7
  walk_at "nb.s"
  refine use_refused (d6.2.ext e7) hq (inR_int.mpr ⟨w0, w1⟩) fun H8 d8 => ?_
  have sp8 := sp7.exX d8.1 nsp
  walk_at "nb.s"
  refine use_spots d8.2 ⟨o0, o1⟩ ⟨v0, v1⟩ fun sp2 H9 d9 _ hsp2 => ?_
  have sp9 := sp8.exX d9.1 nsp
  walk_at "nb.s"
  refine use_bounded hoq ⟨v0, v1⟩ hsp2 fun H10 e10 => ?_
  have sp10 := sp9.ext e10
  walk_at "nb.s"
  refine use_bounded hq ⟨w0, w1⟩ sp10 fun H11 e11 => ?_
  walk_at "nb.s"
  exact use_bounded hq ⟨by omega, by omega⟩ (sp10.ext e11) fun H12 _ => k H12
end
end NB
set_option maxHeartbeats 0
namespace NB
open PySem PySem.Spec PyProof.Rows L2
open He (ga ma)
abbrev R : PySem.W.OpenRow := PySem.W.OpenLaw.row PySem.Challenge.rw_noisebound_k43_press_errors_bounded
abbrev hk : PySem.W.Hook := He.hookX 4 fa fn [] [] exB
def ob (s : PySem.W.SharedT) : He.AlX := He.obsX 4 fa fn [] [] exB (HandSHeadRun.getT s)
theorem ob_eq (s : PySem.W.SharedT) : ob s = hk.obs s.abs := He.obsX_eq (HandSHeadRun.getT_eq s)
def loose0 : List PySem.Str := ["NoiseboundError", "OutOfRange", "BadItem", "BadLength", "BadText", "BadPadding", "WrongPhase", "NotInvertible", "BadRing", "BadParameters", "UnknownName", "DifferentRings", "BadKey", "BadLetter", "BadKeyText", "BadRecord", "BadCommand", "NoEntry", "NothingLeft", "LARGEST"]
def loose1 : List PySem.Str := ["whole", "check_any", "check_within", "check_modulus", "centred_form", "centred", "is_whole", "need_integer", "need_modulus_and_width", "code_of", "residue_of", "error_of", "press_error", "press_bound", "presses_exactly", "_law_begin", "_law_mixed", "_law_take", "_law_wide", "_law_pick"]
def loose2 : List PySem.Str := ["_law_between", "_law_other", "_law_beyond", "_law_same", "_law_whole", "_law_within", "_law_odd", "_law_bad_odd", "_law_width", "_law_tell", "_law_width_for", "_law_spots", "_law_near", "_law_due", "_law_told", "_law_refused", "_law_bounded"]
theorem run (w : World) : HandSHeadRun.RunEq R (PySem.W.view R.prog [62]) hk ob 20000 (loose0 ++ (loose1 ++ (loose2))) w := by
  intro os
  kernel_rfl
theorem bits {P : Program} {w : World} {K : PySem.W.Frag} {h : Heap} {mg : Str → Option Value} {f : Addr} (X : K.In h) (G : h.Ns mainGlobals mg) (hfa : mg ("law" : Str) = some (.ref f)) (c : He.SaysX fa fn [] [] exB w h K) :
    ∃ fd : FuncData, (∀ (s : Shared) (v : Value), BindsTo s fd ⟨[v], []⟩ [("_law_script", v)]) ∧ ∀ base : Heap, K.In base → base.Ns mainGlobals mg → FnOk P w K mg base (L2N.CX P w) 10 f fd ["_law_script"] (spLaw K) := by
  have T : Txt K mg := txt_of X G c.t.d c.more
  have e := hfa.symm.trans T.g_law
  cases e
  obtain ⟨fd, F⟩ := T.d.def_ 38 (d := d_law) rfl
  have b := FunD.bindsA (ps := ["_law_script"]) F fun _ _ _ _ _ _ us hl => match us, hl with | [_], _ => rfl
  refine ⟨fd, fun s v => b s [v] rfl, fun base _ _ => ?_⟩
  obtain ⟨fd1, G1, _, _, l1⟩ := ok_law (P := P) (w := w) (base := base) T
  have e := fun_one l1 (fun_at F)
  subst e
  exact G1
end NB
open PySem PySem.W PySem.Calls PyProof.Rows
theorem PySem.Challenge.cw_noisebound_k43_press_errors_bounded_holds : PySem.Challenge.rw_noisebound_k43_press_errors_bounded.Holds := by
  w_on; o_law
  refine HandSHeadRun.head_any (r := OpenLaw.row PySem.Challenge.rw_noisebound_k43_press_errors_bounded) (q := view (OpenLaw.row PySem.Challenge.rw_noisebound_k43_press_errors_bounded).prog [62]) (H := NB.hk) (ob := NB.ob) (M := 20000) (loose := (NB.loose0 ++ (NB.loose1 ++ (NB.loose2)))) (d := HandSHeadRun.topDef (OpenLaw.row PySem.Challenge.rw_noisebound_k43_press_errors_bounded).prog 62) (kwd := []) NB.ob_eq
    (by kernel_rfl) (fun s => by kernel_rfl) NB.run (by kernel_rfl) (by kernel_rfl) (by kernel_rfl) (by rfl) (by first | assumption | decide +kernel) (by decide +kernel) ⟨rfl, rfl, rfl, rfl, rfl, by decide +kernel⟩ ?hw ?hc
  case hw => w_witness2
  case hc =>
    refine NB.walk_end (l := PySem.Challenge.rw_noisebound_k43_press_errors_bounded) (n := 63) (k := 10) (x := "_law_script") rfl (by decide) (by kernel_rfl) ⟨rfl, by decide, by decide⟩ ?F
    intro w mg fa h Y G hmg0
    obtain ⟨K, KX, c⟩ := Y
    have hmg : mg ("law" : PySem.Str) = some (.ref fa) := by
      have e : (HandSHeadRun.topDef (OpenLaw.row PySem.Challenge.rw_noisebound_k43_press_errors_bounded).prog 62).name = ("law" : PySem.Str) := by kernel_rfl
      rw [← e]
      exact hmg0
    obtain ⟨fd, hb, hF⟩ := NB.bits (P := (PySem.Challenge.rw_noisebound_k43_press_errors_bounded).prog) (w := w) KX G hmg c
    exact ⟨K, fd, NB.spLaw K, KX, hb, fun H a ns hl hbits _ hS => ⟨a, ns, rfl, hS, hl, hbits, fun _ => rfl⟩, hF⟩

