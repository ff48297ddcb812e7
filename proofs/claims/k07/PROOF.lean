import PyProof.Rows.All
import Wide.All
import OpenK.AllK
import Wide.FinOn
import KE.KStateDown
import KE.KExcIs
import HandS.Comp
import HandS.ForExc
import HandS.Defaults
import HandS.ExcInit
import HandS.ExcInitHot
import HandS.ExcCtx
import HandS.HotCalls
import HandS.ExcIs
import HandS.ExcField
import HandS.IsInst
import HandS.ForMost
import HandS.Conv
import HandS.Wide
import HandS.WideBits
import HandS.Style
import HandS.Flow
import HandS.Evl
import HandS.Head0
import HandS.Head1
import HandS.Head2
import HandS.HeadEnd
import HandS.HeadHook1
import HandS.HeadHook2
import HandS.HeadHook3
import HandS.HeadHook4
import HandS.EndBits
import HandS.SetFor
import PySem.Challenge.RW_noisebound_k07_rotating_a_lane
set_option Elab.async false
set_option linter.all false
set_option maxRecDepth 100000
set_option maxHeartbeats 4000000

namespace NB
open PySem PySem.Spec PyProof.Rows L2

/-! ## errors that are made, with their context told -/
section
variable {X : Cx}
/-- C(e, ..) where nothing is handled: the new error's context is None -/
theorem mkErr {CX : CXT} {x : Str} {e : Expr} {es : List Expr} {ta : TA} {p pos : Pos} {C fI : Addr} {k : Nat} {fd : FuncData} {ps : List Str} {sp : Sp}
    (T : OexC X.K C) (iC : PySem.W.findIn X.K (.ref C) "__init__" = some (some (.ref fI)))
    (tI : PySem.W.typeIn X.K (.ref fI) = some (.type "function"))
    (F1 : FnOk X.prog X.w X.K X.mg X.base CX k fI fd ps sp) (hr : Room (k + 1) X.A) (hb : Binds X.K fd ps [])
    (hx : Passes CX X (fun _ _ _ => False)) (hg : Gl X x) (hm : X.mg x = some (.ref C)) (ha : PA X (e :: es) ta)
    (hdb : (x == ("__debug__" : Str)) = false := by decide)
    (he : starEach (e :: es) X.env = (false, eval e X.env) :: starEach es X.env := by rfl)
    (hpl : (backTo pos (starEach es X.env)).any (·.1) = false := by rfl) :
    L2N.PMk X (.Call (.Name x p) (e :: es) [] pos) (tMkO C sp [] ta) := by
  intro pins s σ H Q I h
  obtain ⟨nm, q, N, bs, bm, sn, sub, ab, col, dd, k0, k1, k2, k3, k5, hC, hbm⟩ := T.cls
  refine wpAny_Call_Name_kw (ld_glob I hg hm ?_ hdb)
  refine PySem.W.callWith_K (h₀ := X.base) I.ok.mod.kin T.kC
    (thn (ha.run pos pins s σ H _ I h) fun us s1 ⟨vs, H1, I1, r1, hz, q1⟩ => ⟨I1.kIn, ?_⟩) he hpl
  show wpAny _ _ (call (.ref C) us) _ _ _
  obtain ⟨hp, g, dr, tk, os⟩ := s1
  generalize hn0 : hp.objs.size + 1 = n0
  have hsz : hp.objs.size ≤ n0 := by omega
  have nn : H1 n0 = none := I1.hok.fresh hsz
  have hq := q1 n0 nn
  rw [List.append_nil] at hq
  have kk : ∀ b o, hp.get? b = some o →
      ((hp.push (PySem.W.kdv_tup us)).push (PySem.HandSPX.excO C hp.objs.size)).get? b = some o :=
    fun b o z => Heap.get?_push_of_some _ (Heap.get?_push_of_some _ z)
  have hget : ((hp.push (PySem.W.kdv_tup us)).push (PySem.HandSPX.excO C hp.objs.size)).get? n0 = some (PySem.HandSPX.excO C hp.objs.size) := by
    rw [← hn0]
    heap_get
  have I2 := I1.laid (t' := tk) (a := n0) (o := exo n0 C none)
    (h' := (hp.push (PySem.W.kdv_tup us)).push (PySem.HandSPX.excO C hp.objs.size)) kk hsz (exo_ok hget)
  have r2 : Vals (V.ref n0 :: vs) (Value.ref n0 :: us) := .cons rfl r1
  have hl : (Value.ref n0 :: us).length = ps.length := by
    rw [← F1.len _ _ _ _ hq]
    exact r2.length.symm
  have hus : us.length ≤ sizeLine := by
    rw [← Paired.length r1, sizeLine_eq]
    omega
  have b2 := hb _ (Value.ref n0 :: us) I2.kIn (by rw [List.append_nil]; exact hl)
  rw [List.append_nil] at b2
  rw [← hn0] at b2 r2 hq I2
  refine wpAny_call (PySem.HandSPX.call_own F.excBase_ValueError (fun Y => PySem.HandSPX.refsVE_contains Y bm hbm)
    (I1.kIn _ _ hC) (PySem.W.looks_findIn I1.kIn iC) (fun self => PySem.W.bind_fn I1.kIn self tI) hus
    (codeAny_mono (F1.run _ X.stack _ _ ⟨_, []⟩ _ _ _ (fun _ _ _ => False)
      (hr.make C us []) (I2.env0.make C us []) b2 r2 hq) fun r s' hq' => ?_))
  cases r with
  | error er => exact hx pins σ _ _ er s' I2 hq'
  | ok fl =>
    cases fl with
    | ret u =>
      obtain ⟨v, H2, os2, bare2, un2, hok2, rv, ev, d, fs, ea, ed, hd1, q2⟩ := hq'
      subst ev
      obtain ⟨h2, g2, d2, t2, os'⟩ := s'
      obtain ⟨t0, G, J, kG, ge, hoe, na⟩ := mk_end0 (d2 := d2) (t2 := t2) I1 (Nat.le_succ _) kk un2 hok2 os2 bare2 ea ed hd1
      refine ⟨rv, hp.objs.size + 1, _, _, ⟨G, g2, d2, t2, os'⟩, _, .ref C, some d, rfl, J, kG, ge, hoe, ⟨rfl, rfl, fun vs hv => ?_⟩,
        rfl, rfl, na, rfl, bare2, raises_own T.exC T.tyC, q2⟩
      cases hv
      rfl
    | next => exact False.elim hq'
    | brk => exact False.elim hq'
    | cont => exact False.elim hq'
def tErrF (a d : Addr) (n : Str) (te : TE) : TE := fun σ H Q => te σ H fun x H1 => x = .ref a ∧ ∃ (fs : List (Str × V)) (v : V), H1 d = some (.xd fs) ∧ fs.lookup n = some v ∧ Q v H1
/-- the error is held by whoever stands in the context; its attribute is read -/
theorem pe_errFld {a C : Addr} {oe : Obj} {d : Addr} {e : Expr} {te : TE} {pos : Pos} {n : Str} (T : XfC X.K C) (hno : PySem.W.findIn X.K (.ref C) n = some none)
    (hp : (a, oe) ∈ X.pn) (hz : Zc (.ref C) (some d) oe) (hf : ∃ vs, oe.data = .fields vs) (he : PE X e te)
    (hb : attributeBase e n X.env (eval e X.env) = eval e X.env := by rfl) :
    PE X (.Attribute e n pos) (tErrF a d n te) := by
  refine ⟨fun pins s σ H Q I h => ?_⟩
  refine attr_of hb (thn (he.run pins s σ H _ I h) fun u s1 hh => ?_)
  obtain ⟨x, H1, I1, rx, ex, fs, v, ea, l, q⟩ := hh
  subst ex
  obtain rfl : u = Value.ref a := rx
  have ha := (I1.pin (a, oe) (List.mem_append_left _ hp)).1
  obtain ⟨vs, hd⟩ := hf
  obtain ⟨mA, hns, hr⟩ : ObjOk X.prog X.w H1 s1.heap d (.xd fs) := I1.hok d _ ea
  obtain ⟨od, ho, hl⟩ := lookIn_ns hns
  have hr' := hr n
  rw [l] at hr'
  obtain ⟨u, hu, ru⟩ := RelO.some_of hr'
  have J : PySem.W.InstAt s1.heap a oe C (some od) := ⟨ha, hz.1, by unfold PySem.W.notCls; rw [hd] <;> rfl, by rw [hz.2]; exact ho⟩
  exact HandSPX.exc_get I1.kIn J T.ga T.gg T.exC (PySem.W.findObj_own T.hdC hno rfl (by rw [hl, hu])) (handed_of ru) ⟨v, H1, I1.tok _, ru, q⟩
/-- what the written part says of an error's class, so that it is looked at -/
structure ErrC (K : PySem.W.Frag) (C : Addr) : Prop where
  x : ExcC K C
  f : XfC K C
/-- isinstance(e, c) of the error that the context holds -/
def rIsP (K : PySem.W.Frag) (C a : Addr) (d : Option Addr) : List V → Hp → VK → Prop := fun xs H Q => ∃ (c : V) (cv : Value) (b : Bool), xs = [.ref a, c] ∧ ClsV c cv ∧ (∀ dd, d = some dd → ∃ fs, H dd = some (.xd fs)) ∧
  PySem.W.kitOne K (.ref C) cv = some b ∧ Q (.bl b) H
/-- isinstance(e, (c1, c2, ..)) -/
def rIsPT (K : PySem.W.Frag) (C a : Addr) (d : Option Addr) : List V → Hp → VK → Prop := fun xs H Q => ∃ (tp : Addr) (cs : List V) (us : List Value) (b : Bool), xs = [.ref a, .ref tp] ∧ H tp = some (.tup cs) ∧ Paired ClsV cs us ∧
  (∀ dd, d = some dd → ∃ fs, H dd = some (.xd fs)) ∧ PySem.W.kitAny K (.ref C) us = some b ∧ Q (.bl b) H
theorem errKit {pins : List (Addr × Obj)} {σ : L2.St} {H : Hp} {s : Shared} {a C : Addr} {oe : Obj} {d : Option Addr} (T : ErrC X.K C) (I : Inv X pins σ H s) (hp : (a, oe) ∈ X.pn) (hz : Zc (.ref C) d oe) (hf : ∃ vs, oe.data = .fields vs)
    (hd : ∀ dd, d = some dd → ∃ fs, H dd = some (.xd fs)) : ∃ P : Heap → Prop, PySem.W.KitX X.K (.ref a) (.ref C) P ∧ P s.heap := by
  have ha := (I.pin (a, oe) (List.mem_append_left _ hp)).1
  obtain ⟨vs, hv⟩ := hf
  have hcl : (PySem.W.clsIn X.K C).isSome = true := by
    obtain ⟨cd, hc, _⟩ := PySem.W.any_some T.x.hd
    rw [hc] <;> rfl
  have nc : PySem.W.notCls oe = true := by
    unfold PySem.W.notCls
    rw [hv] <;> rfl
  cases d with
  | none => exact ⟨_, PySem.W.kitx_exc (ox := oe) (od := none) hcl T.x.hg T.x.hk T.x.hs T.x.ha T.x.hn T.x.ht T.x.hm, ha, hz.1, nc, by rw [hz.2]; trivial⟩
  | some dd =>
    obtain ⟨fs, e⟩ := hd dd rfl
    obtain ⟨mA, hns, hr⟩ : ObjOk X.prog X.w H s.heap dd (.xd fs) := I.hok dd _ e
    obtain ⟨od, ho, hl⟩ := lookIn_ns hns
    exact ⟨_, PySem.W.kitx_exc (ox := oe) (od := some od) hcl T.x.hg T.x.hk T.x.hs T.x.ha T.x.hn T.x.ht T.x.hm, ha, hz.1, nc, by rw [hz.2]; exact ho⟩
theorem call_isP {a C : Addr} {oe : Obj} {d : Option Addr} (T : ErrC X.K C) (hp : (a, oe) ∈ X.pn) (hz : Zc (.ref C) d oe) (hf : ∃ vs, oe.data = .fields vs) : CallR X (.builtin "isinstance") (rIsP X.K C a d) := by
  intro pins s σ H xs us Q I r h
  obtain ⟨c, cv, b, rfl, hcv, hd, e, q⟩ := h
  obtain ⟨u1, u2, rfl, r1, r2⟩ := vals2 r
  cases r1
  have ec := hcv.eq r2
  subst ec
  obtain ⟨P, Z, p⟩ := errKit T I hp hz hf hd
  exact PySem.W.kia_one Z I.kIn p e (fun z => nomatch z) fun tk => ⟨.bl b, H, I.tok tk, rfl, q⟩
theorem call_isPT {a C : Addr} {oe : Obj} {d : Option Addr} (T : ErrC X.K C) (hp : (a, oe) ∈ X.pn) (hz : Zc (.ref C) d oe) (hf : ∃ vs, oe.data = .fields vs) : CallR X (.builtin "isinstance") (rIsPT X.K C a d) := by
  intro pins s σ H xs us Q I r h
  obtain ⟨tp, cs, ws, b, rfl, hT, hcv, hd, e, q⟩ := h
  obtain ⟨u1, u2, rfl, r1, r2⟩ := vals2 r
  cases r1
  cases r2
  obtain ⟨P, Z, p⟩ := errKit T I hp hz hf hd
  obtain ⟨_, its, rv, o, h1, h2, n, h3⟩ : ObjOk X.prog X.w H s.heap tp (.tup cs) := I.hok tp _ hT
  have e3 := ClsV.all hcv rv
  subst e3
  obtain ⟨oc, od, dt, sl⟩ := o
  simp only at h2 h3
  subst h2 h3
  exact PySem.W.kia_tup Z I.kIn p h1 e (fun z => nomatch z) fun tk => ⟨.bl b, H, I.tok tk, rfl, q⟩
end

/-! ## defs that are called while an error is handled: the error is known to them -/
open L2H in
structure FnP (P : Program) (w : World) (K : PySem.W.Frag) (mg : Str → Option Value) (base : Heap) (k : Nat) (f : Addr) (fd : FuncData) (ps : List Str) (sp : Addr → Value → Option Addr → Sp) : Prop where
  len : ∀ a c d vs H Q E, sp a c d vs H Q E → vs.length = ps.length
  run : ∀ (A : Around) (outer : List Env) (s : Shared) (H : Hp) (args : Args) (us : List Value) (vs : List V) (Q : VK) (E : XK) (p : Addr × Obj) (c : Value) (d : Option Addr),
    RoomH k A → Hot1 A p → Zc c d p.2 → PinOk outer H s p → Env0 P w K mg base A outer s H → BindsTo s fd args (ps.zip us) → Vals vs us → sp p.1 c d vs H Q E →
    codeAny (model P w) A (.call (.ref f) args) (CR (L2N.CX P w) outer P w H s Q E) s
open L2H in
/-- such a def keeps its promise if its body's reading follows from it -/
theorem fnP_of {P : Program} {w : World} {K : PySem.W.Frag} {mg : Str → Option Value} {base : Heap} {k : Nat} {f : Addr} {name qual : Str} {params : Arguments} {body : List Stmt} {scope : Scope} {fd : FuncData} {N ps : List Str} {sp : Addr → Value → Option Addr → Sp} {dvs : List V} {kws : List (Str × V)}
    (F : FunD K name qual params body scope dvs kws f fd) (S : FnScope N ps scope) (len : ∀ a c d vs H Q E, sp a c d vs H Q E → vs.length = ps.length)
    (hbody : ∀ (cdv : Value) (A : Around) (outer : List Env) (s : Shared) (H : Hp) (vs : List V) (Q : VK) (E : XK) (p : Addr × Obj) (c : Value) (d : Option Addr), Hot1 A p → Zc c d p.2 → RoomH k (A.deeper (envOfC qual scope s.heap.objs.size f cdv)) → sp p.1 c d vs H Q E →
      ∃ t, PSs (cxH (L2N.CX P w) P w K mg base N qual scope f cdv A outer s H E p) body t ∧ t { nx := fun _ H' => Q .non H', rt := Q } (L2.start N vs) H) :
    FnP P w K mg base (k + 1) f fd ps sp := by
  obtain ⟨oc, od, dV, kV, doc, pm, an, cdv, ct, osl, rfl, lk, hcd, _, _⟩ := F.ex
  refine ⟨len, fun A outer s H args us vs Q E p c d hr hot hzc hpin e0 hb r hsp => ?_⟩
  have kb : ∀ b o, base.get? b = some o → s.heap.get? b = some o := fun b o e => (e0.bs b o e).1
  have KX : K.In s.heap := e0.mod.kin.keeps kb
  have hkind : ∀ y ∈ ps.zip us, scope.names.lookup y.1 = some .local ∨
      (scope.names.lookup y.1 = some .cell ∧ ((cellsFrom (s.heap.objs.size + 1) scope.names []).lookup y.1).isSome = true) := by
    intro y hy
    obtain ⟨n, v⟩ := y
    rcases S.par n (List.of_mem_zip hy).1 with q | q
    · exact .inl q
    · exact .inr ⟨q, PySem.W.cellsFrom_some _ _ _ (.inl q)⟩
  refine codeAny_call_function hr.depth (KX _ _ lk) rfl S.co S.gen rfl (PySem.W.codeRec_of KX hcd) (hb _ _ _ _ ?_)
  refine wpAny_newFunctionEnv_cells S.kind hkind fun env he s1 x => ?_
  subst he
  refine ⟨(e0.mod.nolimit.keeps kb).keeps x.toInCall.keep, codeAny_func ?_⟩
  obtain ⟨t, ht, hq⟩ := hbody cdv A outer s H vs Q E p c d hot hzc (hr.deeper _) hsp
  have I := inv_startH (CX := L2N.CX P w) (cd := cdv) (f := f) (qual := qual) (E := E) S hpin e0 (len _ _ _ _ _ _ _ hsp) r x
  refine wpAny_mono (ht.run [] s1 (L2.start N vs) H _ I hq) (fun fl s' hs => ?_) fun e s' hs => hs
  cases fl with
  | ret u =>
    obtain ⟨v, σ', H', J, rv, q⟩ := hs
    exact ⟨v, H', J.os, J.bare, J.base, J.hok, rv, q⟩
  | next =>
    obtain ⟨σ', H', J, q⟩ := hs
    exact ⟨.non, H', J.os, J.bare, J.base, J.hok, rfl, q⟩
  | brk =>
    obtain ⟨_, _, _, q⟩ := hs
    exact False.elim q
  | cont =>
    obtain ⟨_, _, _, q⟩ := hs
    exact False.elim q
def tCallP (sp : Addr → Value → Option Addr → Sp) (a : Addr) (c : Value) (d : Option Addr) (t : TA) : TE := fun σ H Q => t σ H fun vs H1 => sp a c d vs H1 Q E0
open L2H in
theorem pe_callP {X : Cx} {k : Nat} {f : Addr} {fd : FuncData} {ps : List Str} {sp : Addr → Value → Option Addr → Sp} {c : Value} {d : Option Addr} {x : Str} {q pos : Pos} {e : Expr} {es : List Expr} {t : TA} {p : Addr × Obj}
    (F : FnP X.prog X.w X.K X.mg X.base k f fd ps sp) (hr : RoomH k X.A) (hot : Hot1 X.A p) (hzc : Zc c d p.2) (hp : p ∈ X.pn) (hg : Gl X x) (hm : X.mg x = some (.ref f)) (hk : PySem.W.keepIn X.K (.ref f) = true) (hb : Binds X.K fd ps [])
    (ha : PA X (e :: es) t) (hdb : (x == ("__debug__" : Str)) = false := by decide)
    (he : starEach (e :: es) X.env = (false, eval e X.env) :: starEach es X.env := by rfl) (hpl : (backTo pos (starEach es X.env)).any (·.1) = false := by rfl) :
    PE X (.Call (.Name x q) (e :: es) [] pos) (tCallP sp p.1 c d t) := by
  refine ⟨fun pins s σ H Q I h => ?_⟩
  refine wpAny_Call_Name_kw (ld_glob I hg hm ?_ hdb)
  refine PySem.W.callWith_K (h₀ := X.base) I.ok.mod.kin hk (thn (ha.run pos pins s σ H _ I h) fun us s1 hh => ?_) he hpl
  obtain ⟨vs, H1, I1, r, q1⟩ := hh
  refine ⟨I1.kIn, ?_⟩
  have hl : (us ++ []).length = ps.length := by
    rw [List.append_nil, ← r.length]
    exact F.len _ _ _ _ _ _ _ q1
  have b := hb s1 us I1.kIn hl
  rw [List.append_nil] at b
  have P1 := I1.pin p (List.mem_append_left _ hp)
  have hpin : PinOk X.stack H1 s1 p := ⟨P1.1, P1.2.1, fun z => (List.mem_cons.mp (I1.stkSub p.1 z)).elim P1.2.2.1 P1.2.2.2.1, P1.2.2.2.2⟩
  refine wpAny_call (codeAny_mono (F.run X.A X.stack s1 H1 ⟨us, []⟩ us vs Q E0 p c d hr hot hzc hpin I1.env0 b r q1) fun r s' hq => ?_)
  cases r with
  | error e =>
    obtain ⟨_, _, _, _, _, _, _, _, _, _, _, _, z⟩ := hq
    exact z.elim
  | ok fl =>
    cases fl with
    | ret u => exact I1.after hq
    | next => exact False.elim hq
    | brk => exact False.elim hq
    | cont => exact False.elim hq
theorem passN {X : Cx} : Passes (L2N.CX X.prog X.w) X E0 := fun _ _ _ _ _ _ _ h => by
  obtain ⟨_, _, _, _, _, _, _, _, _, _, _, _, z⟩ := h
  exact z.elim
theorem takesN {X : Cx} : L2N.Takes X (fun _ _ _ _ => False) := fun _ _ x => by
  obtain ⟨_, _, _, _, _, _, _, _, _, _, _, _, _, _, _, _, z⟩ := x
  exact z.elim
theorem hot_suite {X : Cx} {a : Addr} {oe : Obj} {pn : List (Addr × Obj)} {cls : Value} {d : Option Addr} (hz : L2N.Zn cls d oe) (hf : ∃ vs, oe.data = .fields vs) : L2H.Hot1 (X.suite a ((a, oe) :: pn)).A (a, oe) := by
  obtain ⟨vs, e⟩ := hf
  exact ⟨rfl, vs, e, hz.2.2 vs e⟩
end NB

namespace NB
open PySem PySem.Spec PyProof.Rows L2
abbrev Sl := L2.St

/-! ## operations under names of our own -/
def rAddI : R2 := rI0 fun i j => .int (i + j)
def rSubI : R2 := rI0 fun i j => .int (i - j)
def rMulI : R2 := rI IntMulOk fun i j => .int (i * j)
def rDivI : R2 := rI CDivW fun i j => .int (i / j)
def rModI : R2 := rI (fun _ j => 0 < j) fun i j => .int (i % j)
def rPowI : R2 := rI CPow fun i j => .int (i ^ j.toNat)
def rShlI : R2 := rI CShl fun i j => .int (i * 2 ^ j.toNat)
def rShrI : R2 := rI (fun _ j => 0 ≤ j) fun i j => .int (i / 2 ^ j.toNat)
def rAndI : R2 := rI0 fun i j => .int (Builtin.bitAnd i j)
def rOrI : R2 := rI0 fun i j => .int (Builtin.bitOr i j)
def rXorI : R2 := rI0 fun i j => .int (Builtin.bitXor i j)
def rLtI : R2 := rI0 fun i j => .bl (decide (i < j))
def rLeI : R2 := rI0 fun i j => .bl (decide (i ≤ j))
def rGtI : R2 := rI0 fun i j => .bl (decide (j < i))
def rGeI : R2 := rI0 fun i j => .bl (decide (j ≤ i))
/-- x is None | True | False, x any value -/
def rIsK : R2 := fun x y H Q => (y = .non ∨ ∃ b, y = .bl b) ∧ Q (.bl (decide (x = y))) H
def rNotK : R2 := fun x y H Q => (y = .non ∨ ∃ b, y = .bl b) ∧ Q (.bl (!decide (x = y))) H
def rNegI : V → Hp → VK → Prop := rU fun i => .int (-i)
def rInvI : V → Hp → VK → Prop := rU fun i => .int (Builtin.bitNot i)
def cMax2 : List V → Hp → VK → Prop := fun xs H Q => ∃ i j, xs = [.int i, .int j] ∧ Q (.int (if j > i then j else i)) H
def cMin2 : List V → Hp → VK → Prop := fun xs H Q => ∃ i j, xs = [.int i, .int j] ∧ Q (.int (if j < i then j else i)) H
def cAbs : List V → Hp → VK → Prop := fun xs H Q => ∃ i, xs = [.int i] ∧ Q (.int (if i < 0 then -i else i)) H
def cInt : List V → Hp → VK → Prop := fun xs H Q => (∃ i, xs = [.int i] ∧ Q (.int i) H) ∨ ∃ k, xs = [.bl k] ∧ Q (.int (if k then 1 else 0)) H
def cLen (K : PySem.W.Frag) : List V → Hp → VK → Prop := fun xs H Q => ∃ p ys, xs = [.ref p] ∧ (SqL K H p ys ∨ SqT K H p ys) ∧ Q (.int ys.length) H
def cList (K : PySem.W.Frag) : List V → Hp → VK → Prop := fun xs H Q => ∃ p ys, xs = [.ref p] ∧ (SqL K H p ys ∨ SqT K H p ys) ∧ ∀ l, H l = none → Q (.ref l) (upd H l (.lst ys))
def cTup (K : PySem.W.Frag) : List V → Hp → VK → Prop := fun xs H Q => ∃ p ys, xs = [.ref p] ∧ ((SqL K H p ys ∧ ∀ l, H l = none → Q (.ref l) (upd H l (.tup ys))) ∨ (SqT K H p ys ∧ Q (.ref p) H))
section
variable {X : Cx}
theorem oAdd : OpR X (binaryOp .Add) rAddI := op_add
theorem oSub : OpR X (binaryOp .Sub) rSubI := op_sub
theorem oMul : OpR X (binaryOp .Mult) rMulI := opI fun _ _ _ _ _ _ _ hc q => mul_int q hc
theorem oDiv : OpR X (binaryOp .FloorDiv) rDivI := op_fdivW
theorem oMod : OpR X (binaryOp .Mod) rModI := op_mod
theorem oPow : OpR X (binaryOp .Pow) rPowI := op_pow
theorem oShl : OpR X (binaryOp .LShift) rShlI := op_shlW
theorem oShr : OpR X (binaryOp .RShift) rShrI := op_shr
theorem oAnd : OpR X (binaryOp .BitAnd) rAndI := op_and
theorem oOr : OpR X (binaryOp .BitOr) rOrI := op_or
theorem oXor : OpR X (binaryOp .BitXor) rXorI := op_xor
theorem oLt : OpR X (compareOp .Lt) rLtI := op_lt
theorem oLe : OpR X (compareOp .LtE) rLeI := op_le
theorem oGt : OpR X (compareOp .Gt) rGtI := op_gt
theorem oGe : OpR X (compareOp .GtE) rGeI := op_ge
theorem uNeg : UnR X (unaryOp .USub) rNegI := un_neg
theorem uInv : UnR X (unaryOp .Invert) rInvI := un_inv
theorem kMax2 (hc : X.calm = true) : CallR X (.builtin "max") cMax2 := call_max2 hc
theorem kMin2 (hc : X.calm = true) : CallR X (.builtin "min") cMin2 := call_min2 hc
theorem kAbs : CallR X (.builtin "abs") cAbs := call_abs
theorem kInt : CallR X (.type "int") cInt := call_int1
theorem kLen : CallR X (.builtin "len") (cLen X.K) := call_len_seq
theorem kList : CallR X (.type "list") (cList X.K) := call_list_of
theorem kTup : CallR X (.type "tuple") (cTup X.K) := call_tuple_of
theorem oIsK : OpR X (compareOp .Is) rIsK := by
  intro pins s σ H x y v u Q I rx ry h
  obtain ⟨hy, q⟩ := h
  rcases hy with rfl | ⟨b, rfl⟩
  · exact op_isN pins s σ H x _ v u Q I rx ry ⟨rfl, q⟩
  · cases ry
    by_cases e : x = .bl b
    · subst e
      cases rx
      exact wpAny_is_self rfl ⟨.bl true, H, I, rfl, by simpa using q⟩
    · have q' : Q (.bl false) H := by simpa [e] using q
      have hne : v ≠ Value.bool b := by
        rintro rfl
        cases x <;> first
          | (cases rx; exact e rfl)
          | (cases rx; done)
          | (obtain ⟨t, z⟩ := rx; cases z)
      refine wpAny_is_other ?_ hne ⟨.bl false, H, I, rfl, q'⟩
      cases x <;> first
        | (cases rx; rfl)
        | (obtain ⟨t, rfl⟩ := rx; rfl)
theorem oNotK : OpR X (compareOp .IsNot) rNotK := by
  intro pins s σ H x y v u Q I rx ry h
  obtain ⟨hy, q⟩ := h
  rcases hy with rfl | ⟨b, rfl⟩
  · exact op_notN pins s σ H x _ v u Q I rx ry ⟨rfl, q⟩
  · cases ry
    by_cases e : x = .bl b
    · subst e
      cases rx
      exact wpAny_isNot_self rfl ⟨.bl false, H, I, rfl, by simpa using q⟩
    · have q' : Q (.bl true) H := by simpa [e] using q
      have hne : v ≠ Value.bool b := by
        rintro rfl
        cases x <;> first
          | (cases rx; exact e rfl)
          | (cases rx; done)
          | (obtain ⟨t, z⟩ := rx; cases z)
      refine wpAny_isNot_other ?_ hne ⟨.bl true, H, I, rfl, q'⟩
      cases x <;> first
        | (cases rx; rfl)
        | (obtain ⟨t, rfl⟩ := rx; rfl)
end

/-! ## facts of heaps -/
/-- what stood stands -/
def Ext (H H' : Hp) : Prop := ∀ a o, H a = some o → H' a = some o
theorem Ext.refl (H : Hp) : Ext H H := fun _ _ e => e
theorem Ext.trans {H H1 H2 : Hp} (a : Ext H H1) (b : Ext H1 H2) : Ext H H2 := fun x o e => b x o (a x o e)
theorem Ext.new {H : Hp} {p : Addr} {o : HO} (h : H p = none) : Ext H (upd H p o) := fun a u e => by
  rw [upd_ne (ne_of_none e h)]
  exact e
theorem Ext.mut {H H' : Hp} {p : Addr} {o : HO} (e : Ext H H') (h : H p = none) : Ext H (upd H' p o) := fun a u ha => by
  rw [upd_ne (ne_of_none ha h)]
  exact e a u ha
theorem Ext.free {H H' : Hp} (e : Ext H H') {p : Addr} (h : H' p = none) : H p = none := by
  cases q : H p with
  | none => rfl
  | some o =>
    rw [e p o q] at h
    cases h
theorem upd_old {H : Hp} {p a : Addr} {o u : HO} (h : H p = none) (e : H a = some u) : upd H p o a = some u := by
  rw [upd_ne (ne_of_none e h)]
  exact e
/-- the same but at one address -/
def ExX (s : Addr) (H H' : Hp) : Prop := ∀ a o, a ≠ s → H a = some o → H' a = some o
theorem ExX.refl (s : Addr) (H : Hp) : ExX s H H := fun _ _ _ e => e
theorem ExX.of {s : Addr} {H H' : Hp} (e : Ext H H') : ExX s H H' := fun a o _ h => e a o h
theorem ExX.trans {s : Addr} {H H1 H2 : Hp} (a : ExX s H H1) (b : ExX s H1 H2) : ExX s H H2 := fun x o n e => b x o n (a x o n e)
theorem ExX.ext {s : Addr} {H H1 H2 : Hp} (a : ExX s H H1) (b : Ext H1 H2) : ExX s H H2 := a.trans (.of b)
theorem ExX.upd {s : Addr} {H H' : Hp} {o : HO} (e : ExX s H H') : ExX s H (upd H' s o) := fun a u n h => by
  rw [upd_ne n]
  exact e a u n h
theorem ExX.mut {s p : Addr} {H H' : Hp} {o : HO} (e : ExX s H H') (h : H p = none) : ExX s H (L2.upd H' p o) := fun a u n ha => by
  rw [upd_ne (ne_of_none ha h)]
  exact e a u n ha
theorem ExX.free {s p : Addr} {H H' : Hp} (e : ExX s H H') (n : p ≠ s) (h : H' p = none) : H p = none := by
  cases q : H p with
  | none => rfl
  | some o =>
    rw [e p o n q] at h
    cases h
theorem sqL_ext {K : PySem.W.Frag} {H H' : Hp} {a : Addr} {xs : List V} (e : Ext H H') (h : SqL K H a xs) : SqL K H' a xs := Evl.ex_l e h
theorem sqT_ext {K : PySem.W.Frag} {H H' : Hp} {a : Addr} {xs : List V} (e : Ext H H') (h : SqT K H a xs) : SqT K H' a xs := Evl.ex_t e h
theorem sqL_exX {K : PySem.W.Frag} {s : Addr} {H H' : Hp} {a : Addr} {xs : List V} (e : ExX s H H') (n : a ≠ s) (h : SqL K H a xs) : SqL K H' a xs := by
  rcases h with (h | ⟨o, h⟩) | h
  · exact .inl (.inl (e _ _ n h))
  · exact .inl (.inr ⟨o, e _ _ n h⟩)
  · exact .inr h
theorem sqL_of {K : PySem.W.Frag} {H : Hp} {a : Addr} {xs : List V} (h : H a = some (.lst xs)) : SqL K H a xs := .inl (.inl h)
theorem sqT_of {K : PySem.W.Frag} {H : Hp} {a : Addr} {xs : List V} (h : H a = some (.tup xs)) : SqT K H a xs := .inl (.inl h)

theorem ext_at {H H' : Hp} {a : Addr} {o : HO} (e : Ext H H') (h : H a = some o) : H' a = some o := e a o h
theorem exX_at {s : Addr} {H H' : Hp} {a : Addr} {o : HO} (e : ExX s H H') (n : a ≠ s) (h : H a = some o) : H' a = some o := e a o n h
theorem upd_other {H : Hp} {p a : Addr} {o u : HO} (n : a ≠ p) (h : H a = some u) : upd H p o a = some u := by
  rw [upd_ne n]
  exact h
theorem ext_free {H H' : Hp} {a : Addr} (e : Ext H H') (h : H' a = none) : H a = none := e.free h
theorem upd_free {H : Hp} {p a : Addr} {o : HO} (h : upd H p o a = none) : H a = none := by
  by_cases e : a = p
  · rw [e, upd_same] at h
    cases h
  · rw [upd_ne e] at h
    exact h
theorem sqL_upd {K : PySem.W.Frag} {H : Hp} {p a : Addr} {o : HO} {xs : List V} (n : H p = none) (h : SqL K H a xs) : SqL K (upd H p o) a xs := sqL_ext (.new n) h

/-! ## readings, a step at a time -/
section
variable {K : PySem.W.Frag} {σ : Sl} {H : Hp} {i j : Int} {n : Nat} {b : Bool} {v x y : V} {Q : VK} {QB : Bool → Hp → Prop} {QA : List V → Hp → Prop} {ta tb te tc : TE} {t u : TT} {tr : TA} {r r' : R2} {D : Ends} {t1 t2 : TS} {g : TG} {a p : Addr} {xs : List V}
theorem i_var (h : σ[n]? = some (some v)) (q : Q v H) : tVar n σ H Q := ⟨v, h, q⟩
theorem i_c (q : Q v H) : tC v σ H Q := q
theorem i_op (q : ta σ H fun x H1 => tb σ H1 fun y H2 => r x y H2 Q) : tOp r ta tb σ H Q := q
theorem i_un {r : V → Hp → VK → Prop} (q : ta σ H fun x H1 => r x H1 Q) : tUn r ta σ H Q := q
theorem i_add (q : Q (.int (i + j)) H) : rAddI (.int i) (.int j) H Q := ⟨i, j, rfl, rfl, q⟩
theorem i_sub (q : Q (.int (i - j)) H) : rSubI (.int i) (.int j) H Q := ⟨i, j, rfl, rfl, q⟩
theorem i_mul (h : IntMulOk i j) (q : Q (.int (i * j)) H) : rMulI (.int i) (.int j) H Q := ⟨i, j, rfl, rfl, h, q⟩
theorem i_div (h : CDivW i j) (q : Q (.int (i / j)) H) : rDivI (.int i) (.int j) H Q := ⟨i, j, rfl, rfl, h, q⟩
theorem i_mod (h : 0 < j) (q : Q (.int (i % j)) H) : rModI (.int i) (.int j) H Q := ⟨i, j, rfl, rfl, h, q⟩
theorem i_pow (h : CPow i j) (q : Q (.int (i ^ j.toNat)) H) : rPowI (.int i) (.int j) H Q := ⟨i, j, rfl, rfl, h, q⟩
theorem i_shl (h : CShl i j) (q : Q (.int (i * 2 ^ j.toNat)) H) : rShlI (.int i) (.int j) H Q := ⟨i, j, rfl, rfl, h, q⟩
theorem i_shr (h : 0 ≤ j) (q : Q (.int (i / 2 ^ j.toNat)) H) : rShrI (.int i) (.int j) H Q := ⟨i, j, rfl, rfl, h, q⟩
theorem i_and (q : Q (.int (Builtin.bitAnd i j)) H) : rAndI (.int i) (.int j) H Q := ⟨i, j, rfl, rfl, q⟩
theorem i_or (q : Q (.int (Builtin.bitOr i j)) H) : rOrI (.int i) (.int j) H Q := ⟨i, j, rfl, rfl, q⟩
theorem i_xor (q : Q (.int (Builtin.bitXor i j)) H) : rXorI (.int i) (.int j) H Q := ⟨i, j, rfl, rfl, q⟩
theorem i_lt (q : Q (.bl (decide (i < j))) H) : rLtI (.int i) (.int j) H Q := ⟨i, j, rfl, rfl, q⟩
theorem i_le (q : Q (.bl (decide (i ≤ j))) H) : rLeI (.int i) (.int j) H Q := ⟨i, j, rfl, rfl, q⟩
theorem i_gt (q : Q (.bl (decide (j < i))) H) : rGtI (.int i) (.int j) H Q := ⟨i, j, rfl, rfl, q⟩
theorem i_ge (q : Q (.bl (decide (j ≤ i))) H) : rGeI (.int i) (.int j) H Q := ⟨i, j, rfl, rfl, q⟩
theorem dec_int (i j : Int) : decide (V.int i = V.int j) = decide (i = j) := by
  by_cases h : i = j
  · rw [h]; simp
  · have h' : ¬ V.int i = V.int j := fun z => h (V.int.inj z)
    rw [decide_eq_false h, decide_eq_false h']
theorem dec_str (i j : Str) : decide (V.str i = V.str j) = decide (i = j) := by
  by_cases h : i = j
  · rw [h]; simp
  · have h' : ¬ V.str i = V.str j := fun z => h (V.str.inj z)
    rw [decide_eq_false h, decide_eq_false h']
theorem dec_bl (i j : Bool) : decide (V.bl i = V.bl j) = decide (i = j) := by
  by_cases h : i = j
  · rw [h]; simp
  · have h' : ¬ V.bl i = V.bl j := fun z => h (V.bl.inj z)
    rw [decide_eq_false h, decide_eq_false h']
theorem i_eqI (q : Q (.bl (decide (i = j))) H) : rEq (.int i) (.int j) H Q := ⟨rfl, by rw [dec_int]; exact q⟩
theorem i_neI (q : Q (.bl (!decide (i = j))) H) : rNe (.int i) (.int j) H Q := ⟨rfl, by rw [dec_int]; exact q⟩
theorem i_eqS {z w : Str} (q : Q (.bl (decide (z = w))) H) : rEq (.str z) (.str w) H Q := ⟨rfl, by rw [dec_str]; exact q⟩
theorem i_neS {z w : Str} (q : Q (.bl (!decide (z = w))) H) : rNe (.str z) (.str w) H Q := ⟨rfl, by rw [dec_str]; exact q⟩
theorem i_eqB {z w : Bool} (q : Q (.bl (decide (z = w))) H) : rEq (.bl z) (.bl w) H Q := ⟨rfl, by rw [dec_bl]; exact q⟩
theorem i_neB {z w : Bool} (q : Q (.bl (!decide (z = w))) H) : rNe (.bl z) (.bl w) H Q := ⟨rfl, by rw [dec_bl]; exact q⟩
theorem i_isN (q : Q (.bl (decide (x = .non))) H) : rIsK x .non H Q := ⟨.inl rfl, q⟩
theorem i_isB (q : Q (.bl (decide (x = .bl b))) H) : rIsK x (.bl b) H Q := ⟨.inr ⟨b, rfl⟩, q⟩
theorem i_notN (q : Q (.bl (!decide (x = .non))) H) : rNotK x .non H Q := ⟨.inl rfl, q⟩
theorem i_notB (q : Q (.bl (!decide (x = .bl b))) H) : rNotK x (.bl b) H Q := ⟨.inr ⟨b, rfl⟩, q⟩
theorem i_neg (q : Q (.int (-i)) H) : rNegI (.int i) H Q := ⟨i, rfl, q⟩
theorem i_inv (q : Q (.int (Builtin.bitNot i)) H) : rInvI (.int i) H Q := ⟨i, rfl, q⟩
theorem i_max2 (q : Q (.int (if j > i then j else i)) H) : cMax2 [.int i, .int j] H Q := ⟨i, j, rfl, q⟩
theorem i_min2 (q : Q (.int (if j < i then j else i)) H) : cMin2 [.int i, .int j] H Q := ⟨i, j, rfl, q⟩
theorem i_abs (q : Q (.int (if i < 0 then -i else i)) H) : cAbs [.int i] H Q := ⟨i, rfl, q⟩
theorem i_int (q : Q (.int i) H) : cInt [.int i] H Q := .inl ⟨i, rfl, q⟩
theorem i_intB (q : Q (.int (if b then 1 else 0)) H) : cInt [.bl b] H Q := .inr ⟨b, rfl, q⟩
theorem i_lenL (h : SqL K H p xs) (q : Q (.int xs.length) H) : cLen K [.ref p] H Q := ⟨p, xs, rfl, .inl h, q⟩
theorem i_lenT (h : SqT K H p xs) (q : Q (.int xs.length) H) : cLen K [.ref p] H Q := ⟨p, xs, rfl, .inr h, q⟩
theorem i_listL (h : SqL K H p xs) (q : ∀ l, H l = none → Q (.ref l) (upd H l (.lst xs))) : cList K [.ref p] H Q := ⟨p, xs, rfl, .inl h, q⟩
theorem i_ixL (h : SqL K H p xs) (hv : atI xs i = some v) (q : Q v H) : rIxL K (.ref p) (.int i) H Q := ⟨p, xs, i, v, rfl, rfl, h, hv, q⟩
theorem i_ixT (h : SqT K H p xs) (hv : atI xs i = some v) (q : Q v H) : rIxT K (.ref p) (.int i) H Q := ⟨p, xs, i, v, rfl, rfl, h, hv, q⟩
theorem i_setL {m : Nat} {QH : Hp → Prop} (h : H p = some (.lst xs)) (hi : ixN xs.length i = some m) (q : QH (upd H p (.lst (xs.set m v)))) : rSetL (.ref p) (.int i) v H QH := ⟨p, xs, i, m, rfl, rfl, h, hi, q⟩
theorem i_cb {r : List V → Hp → VK → Prop} (q : tr σ H fun vs H1 => r vs H1 Q) : tCB r tr σ H Q := q
theorem i_nil (q : QA [] H) : tNil σ H QA := q
theorem i_cons (q : ta σ H fun x H1 => tr σ H1 fun xs H2 => QA (x :: xs) H2) : tCons ta tr σ H QA := q
theorem i_tup (q : tr σ H fun xs H1 => xs.length ≤ sizeLine ∧ ∀ p, H1 p = none → Q (.ref p) (upd H1 p (.tup xs))) : tTup tr σ H Q := q
theorem i_lst (q : tr σ H fun xs H1 => xs.length ≤ sizeLine ∧ ∀ p, H1 p = none → Q (.ref p) (upd H1 p (.lst xs))) : tLst tr σ H Q := q
theorem i_size {P : Prop} {m : Nat} (h : m ≤ 16777216) (q : P) : m ≤ sizeLine ∧ P := ⟨by rw [sizeLine_eq]; exact h, q⟩
theorem i_test (q : te σ H fun x H1 => ∃ k, x = .bl k ∧ QB k H1) : tTest te σ H QB := q
theorem i_B (q : te σ H fun x H1 => ∃ k, x = .bl k ∧ QB k H1) : tB te σ H QB := q
theorem i_bl {P : Bool → Prop} (q : P b) : ∃ k, V.bl b = .bl k ∧ P k := ⟨b, rfl, q⟩
theorem i_and2 (q : t σ H fun c H1 => if c = true then u σ H1 QB else QB false H1) : tAnd t u σ H QB := q
theorem i_or2 (q : t σ H fun c H1 => if c = true then QB true H1 else u σ H1 QB) : tOr t u σ H QB := q
theorem i_not (q : t σ H fun c H1 => QB (!c) H1) : tNot t σ H QB := q
theorem i_andV (q : ta σ H fun x H1 => ∃ c, x = .bl c ∧ if c = true then tb σ H1 Q else Q (.bl false) H1) : tAndV ta tb σ H Q := q
theorem i_orV (q : ta σ H fun x H1 => ∃ c, x = .bl c ∧ if c = true then Q (.bl true) H1 else tb σ H1 Q) : tOrV ta tb σ H Q := q
theorem i_notV (q : ta σ H fun x H1 => ∃ c, x = .bl c ∧ Q (.bl (!c)) H1) : tNotV ta σ H Q := q
theorem i_chain (q : ta σ H fun x H1 => tb σ H1 fun y H2 => r x y H2 fun z H3 => ∃ k, z = .bl k ∧ (if k = true then tc σ H3 fun w' H4 => r' y w' H4 Q else Q (.bl false) H3)) : tChain r r' ta tb tc σ H Q := q
theorem i_ifE (q : t σ H fun c H1 => if c = true then ta σ H1 Q else tb σ H1 Q) : tIf t ta tb σ H Q := q
theorem i_seq (q : t1 { D with nx := t2 D } σ H) : tSeq t1 t2 D σ H := q
theorem i_next (q : D.nx σ H) : tNext D σ H := q
theorem i_ret (q : te σ H D.rt) : tRet te D σ H := q
theorem i_drop (q : te σ H fun _ H1 => D.nx σ H1) : tDrop te D σ H := q
theorem i_asg (q : te σ H fun x H1 => g x σ H1 D.nx) : tAsg te g D σ H := q
theorem i_name {QS : Sl → Hp → Prop} (q : QS (σ.set n (some v)) H) : gName n v σ H QS := q
theorem i_sub1 {ti : TE} {ts : V → V → V → Hp → (Hp → Prop) → Prop} {QS : Sl → Hp → Prop} (q : ta σ H fun o H1 => ti σ H1 fun i H2 => ts o i v H2 fun H3 => QS σ H3) : gSub ta ti ts v σ H QS := q
theorem i_if (q : t σ H fun b H1 => if b = true then t1 D σ H1 else t2 D σ H1) : tIfS t t1 t2 D σ H := q
theorem i_brk (q : D.bk σ H) : tBreak D σ H := q
theorem i_cnt (q : D.ct σ H) : tCont D σ H := q
theorem i_retN (q : D.rt .non H) : tRetN D σ H := q
theorem i_call {sp : Sp} {E : XK} (q : tr σ H fun vs H1 => sp vs H1 Q E) : tCall sp [] E tr σ H Q := by
  have e : (fun (vs : List V) (H1 : Hp) => sp (vs ++ []) H1 Q E) = fun vs H1 => sp vs H1 Q E := by
    funext vs H1
    rw [List.append_nil]
  show tr σ H (fun (vs : List V) (H1 : Hp) => sp (vs ++ []) H1 Q E)
  rw [e]
  exact q
theorem i_callS {sp : Sp} {E : Sl → XK} (q : tr σ H fun vs H1 => sp vs H1 Q (E σ)) : tCallS sp E tr σ H Q := q
theorem i_callP {sp : Addr → Value → Option Addr → Sp} {ea : Addr} {ec : Value} {ed : Option Addr} (q : tr σ H fun vs H1 => sp ea ec ed vs H1 Q E0) : tCallP sp ea ec ed tr σ H Q := q
theorem i_errF {ea d : Addr} {nm : Str} (q : te σ H fun x H1 => x = .ref ea ∧ ∃ (fs : List (Str × V)) (v : V), H1 d = some (.xd fs) ∧ fs.lookup nm = some v ∧ Q v H1) : tErrF ea d nm te σ H Q := q
theorem i_errV {ea d : Addr} {nm : Str} {fs : List (Str × V)} {v : V} (h : H d = some (.xd fs)) (l : fs.lookup nm = some v) (q : Q v H) : V.ref ea = .ref ea ∧ ∃ (fs : List (Str × V)) (v : V), H d = some (.xd fs) ∧ fs.lookup nm = some v ∧ Q v H := ⟨rfl, fs, v, h, l, q⟩
theorem i_ite {c : Prop} [Decidable c] {A B : Prop} (h1 : c → A) (h2 : ¬ c → B) : if decide c = true then A else B := by
  by_cases h : c
  · rw [decide_eq_true h, if_pos rfl]; exact h1 h
  · rw [decide_eq_false h, if_neg Bool.false_ne_true]; exact h2 h
theorem i_iteN {c : Prop} [Decidable c] {A B : Prop} (h1 : ¬ c → A) (h2 : c → B) : if (!decide c) = true then A else B := by
  by_cases h : c
  · rw [decide_eq_true h]; exact h2 h
  · rw [decide_eq_false h]; exact h1 h
theorem i_iteB {A B : Prop} (h1 : b = true → A) (h2 : b = false → B) : if b = true then A else B := by
  cases b with
  | true => exact h1 rfl
  | false => exact h2 rfl
theorem i_iteNB {A B : Prop} (h1 : b = false → A) (h2 : b = true → B) : if (!b) = true then A else B := by
  cases b with
  | true => exact h2 rfl
  | false => exact h1 rfl
theorem i_nT {A B : Prop} (h : B) : if (!true) = true then A else B := h
theorem i_nF {A B : Prop} (h : A) : if (!false) = true then A else B := h
theorem i_T {A B : Prop} (h : A) : if true = true then A else B := h
theorem i_F {A B : Prop} (h : B) : if false = true then A else B := by
  rw [if_neg Bool.false_ne_true]; exact h
end

theorem Evl_at {α : Type} {xs : List α} {n : Nat} {v : α} (h : xs[n]? = some v) : atI xs (n : Int) = some v := by
  have hn : n < xs.length := (List.getElem?_eq_some_iff.mp h).1
  unfold atI
  rw [Evl.ixN_nat hn]
  exact h
/-! ## written places -/
section
variable {K : PySem.W.Frag} {H : Hp} {p : Addr} {v x0 x1 x2 x3 x4 x5 x6 x7 : V} {xs : List V} {Q : VK} {QH : Hp → Prop}
theorem i_ixL0 (h : SqL K H p (v :: xs)) (q : Q v H) : rIxL K (.ref p) (.int 0) H Q := ⟨p, _, 0, v, rfl, rfl, h, Evl_at (n := 0) rfl, q⟩
theorem i_ixT0 (h : SqT K H p (v :: xs)) (q : Q v H) : rIxT K (.ref p) (.int 0) H Q := ⟨p, _, 0, v, rfl, rfl, h, Evl_at (n := 0) rfl, q⟩
theorem i_set0 (h : H p = some (.lst (x7 :: xs))) (q : QH (upd H p (.lst (v :: xs)))) : rSetL (.ref p) (.int 0) v H QH := ⟨p, _, 0, 0, rfl, rfl, h, Evl.ixN_nat (j := 0) (by simp only [List.length_cons]; omega), q⟩
theorem i_ixL1 (h : SqL K H p (x0 :: v :: xs)) (q : Q v H) : rIxL K (.ref p) (.int 1) H Q := ⟨p, _, 1, v, rfl, rfl, h, Evl_at (n := 1) rfl, q⟩
theorem i_ixT1 (h : SqT K H p (x0 :: v :: xs)) (q : Q v H) : rIxT K (.ref p) (.int 1) H Q := ⟨p, _, 1, v, rfl, rfl, h, Evl_at (n := 1) rfl, q⟩
theorem i_set1 (h : H p = some (.lst (x0 :: x7 :: xs))) (q : QH (upd H p (.lst (x0 :: v :: xs)))) : rSetL (.ref p) (.int 1) v H QH := ⟨p, _, 1, 1, rfl, rfl, h, Evl.ixN_nat (j := 1) (by simp only [List.length_cons]; omega), q⟩
theorem i_ixL2 (h : SqL K H p (x0 :: x1 :: v :: xs)) (q : Q v H) : rIxL K (.ref p) (.int 2) H Q := ⟨p, _, 2, v, rfl, rfl, h, Evl_at (n := 2) rfl, q⟩
theorem i_ixT2 (h : SqT K H p (x0 :: x1 :: v :: xs)) (q : Q v H) : rIxT K (.ref p) (.int 2) H Q := ⟨p, _, 2, v, rfl, rfl, h, Evl_at (n := 2) rfl, q⟩
theorem i_set2 (h : H p = some (.lst (x0 :: x1 :: x7 :: xs))) (q : QH (upd H p (.lst (x0 :: x1 :: v :: xs)))) : rSetL (.ref p) (.int 2) v H QH := ⟨p, _, 2, 2, rfl, rfl, h, Evl.ixN_nat (j := 2) (by simp only [List.length_cons]; omega), q⟩
theorem i_ixL3 (h : SqL K H p (x0 :: x1 :: x2 :: v :: xs)) (q : Q v H) : rIxL K (.ref p) (.int 3) H Q := ⟨p, _, 3, v, rfl, rfl, h, Evl_at (n := 3) rfl, q⟩
theorem i_ixT3 (h : SqT K H p (x0 :: x1 :: x2 :: v :: xs)) (q : Q v H) : rIxT K (.ref p) (.int 3) H Q := ⟨p, _, 3, v, rfl, rfl, h, Evl_at (n := 3) rfl, q⟩
theorem i_set3 (h : H p = some (.lst (x0 :: x1 :: x2 :: x7 :: xs))) (q : QH (upd H p (.lst (x0 :: x1 :: x2 :: v :: xs)))) : rSetL (.ref p) (.int 3) v H QH := ⟨p, _, 3, 3, rfl, rfl, h, Evl.ixN_nat (j := 3) (by simp only [List.length_cons]; omega), q⟩
theorem i_ixL4 (h : SqL K H p (x0 :: x1 :: x2 :: x3 :: v :: xs)) (q : Q v H) : rIxL K (.ref p) (.int 4) H Q := ⟨p, _, 4, v, rfl, rfl, h, Evl_at (n := 4) rfl, q⟩
theorem i_ixT4 (h : SqT K H p (x0 :: x1 :: x2 :: x3 :: v :: xs)) (q : Q v H) : rIxT K (.ref p) (.int 4) H Q := ⟨p, _, 4, v, rfl, rfl, h, Evl_at (n := 4) rfl, q⟩
theorem i_set4 (h : H p = some (.lst (x0 :: x1 :: x2 :: x3 :: x7 :: xs))) (q : QH (upd H p (.lst (x0 :: x1 :: x2 :: x3 :: v :: xs)))) : rSetL (.ref p) (.int 4) v H QH := ⟨p, _, 4, 4, rfl, rfl, h, Evl.ixN_nat (j := 4) (by simp only [List.length_cons]; omega), q⟩
theorem i_ixL5 (h : SqL K H p (x0 :: x1 :: x2 :: x3 :: x4 :: v :: xs)) (q : Q v H) : rIxL K (.ref p) (.int 5) H Q := ⟨p, _, 5, v, rfl, rfl, h, Evl_at (n := 5) rfl, q⟩
theorem i_ixT5 (h : SqT K H p (x0 :: x1 :: x2 :: x3 :: x4 :: v :: xs)) (q : Q v H) : rIxT K (.ref p) (.int 5) H Q := ⟨p, _, 5, v, rfl, rfl, h, Evl_at (n := 5) rfl, q⟩
theorem i_set5 (h : H p = some (.lst (x0 :: x1 :: x2 :: x3 :: x4 :: x7 :: xs))) (q : QH (upd H p (.lst (x0 :: x1 :: x2 :: x3 :: x4 :: v :: xs)))) : rSetL (.ref p) (.int 5) v H QH := ⟨p, _, 5, 5, rfl, rfl, h, Evl.ixN_nat (j := 5) (by simp only [List.length_cons]; omega), q⟩
theorem i_ixL6 (h : SqL K H p (x0 :: x1 :: x2 :: x3 :: x4 :: x5 :: v :: xs)) (q : Q v H) : rIxL K (.ref p) (.int 6) H Q := ⟨p, _, 6, v, rfl, rfl, h, Evl_at (n := 6) rfl, q⟩
theorem i_ixT6 (h : SqT K H p (x0 :: x1 :: x2 :: x3 :: x4 :: x5 :: v :: xs)) (q : Q v H) : rIxT K (.ref p) (.int 6) H Q := ⟨p, _, 6, v, rfl, rfl, h, Evl_at (n := 6) rfl, q⟩
theorem i_ixL7 (h : SqL K H p (x0 :: x1 :: x2 :: x3 :: x4 :: x5 :: x6 :: v :: xs)) (q : Q v H) : rIxL K (.ref p) (.int 7) H Q := ⟨p, _, 7, v, rfl, rfl, h, Evl_at (n := 7) rfl, q⟩
theorem i_ixT7 (h : SqT K H p (x0 :: x1 :: x2 :: x3 :: x4 :: x5 :: x6 :: v :: xs)) (q : Q v H) : rIxT K (.ref p) (.int 7) H Q := ⟨p, _, 7, v, rfl, rfl, h, Evl_at (n := 7) rfl, q⟩
end
/-! ## written numbers, reckoned -/
section
variable {X : Cx} {a b : Expr} {i j v : Int} {pos : Pos}
theorem pe_powC (ha : PE X a (tC (.int i))) (hb : PE X b (tC (.int j))) (h : CPow i j) (e : i ^ j.toNat = v) : PE X (.BinOp a .Pow b pos) (tC (.int v)) :=
  ⟨fun pins s σ H Q I q => (pe_op oPow ha hb).run pins s σ H Q I (i_op (i_c (i_c (i_pow h (by rw [e]; exact q)))))⟩
theorem pe_addC (ha : PE X a (tC (.int i))) (hb : PE X b (tC (.int j))) (e : i + j = v) : PE X (.BinOp a .Add b pos) (tC (.int v)) :=
  ⟨fun pins s σ H Q I q => (pe_op oAdd ha hb).run pins s σ H Q I (i_op (i_c (i_c (i_add (by rw [e]; exact q)))))⟩
theorem pe_subC (ha : PE X a (tC (.int i))) (hb : PE X b (tC (.int j))) (e : i - j = v) : PE X (.BinOp a .Sub b pos) (tC (.int v)) :=
  ⟨fun pins s σ H Q I q => (pe_op oSub ha hb).run pins s σ H Q I (i_op (i_c (i_c (i_sub (by rw [e]; exact q)))))⟩
theorem pe_mulC (ha : PE X a (tC (.int i))) (hb : PE X b (tC (.int j))) (h : IntMulOk i j) (e : i * j = v) : PE X (.BinOp a .Mult b pos) (tC (.int v)) :=
  ⟨fun pins s σ H Q I q => (pe_op oMul ha hb).run pins s σ H Q I (i_op (i_c (i_c (i_mul h (by rw [e]; exact q)))))⟩
theorem pe_negC (ha : PE X a (tC (.int i))) (e : -i = v) : PE X (.UnaryOp .USub a pos) (tC (.int v)) :=
  ⟨fun pins s σ H Q I q => (pe_un uNeg ha).run pins s σ H Q I (i_un (i_c (i_neg (by rw [e]; exact q))))⟩
end

/-! ## loops and comprehensions -/
section
variable {K : PySem.W.Frag} {σ : Sl} {H : Hp} {Q : VK} {ta tb te : TE} {tr : TA} {D : Ends} {tbd : TS} {g : TG} {a : Addr} {xs : List V} {lo : Int} {n j : Nat} {tt : TT} {ws : List Nat}
/-- a for over lo, lo + 1, .. (n turns), at its start -/
def FR (g : TG) (tbd : TS) (D : Ends) (σ : Sl) (lo : Int) (n : Nat) (H : Hp) : Prop := ∃ W : Nat → Nat → Sl → Hp → Prop, (∃ m, W 0 m σ H) ∧ ∀ i m σ H, W i m σ H →
  ((Itr lo n).stop i H ∧ D.nx σ H) ∨ ((Itr lo n).go i H ∧ ∃ N : Sl → Hp → Prop, (∀ σ' H', N σ' H' → ∃ m', m' < m ∧ W (i + 1) m' σ' H') ∧ ∀ x H', (Itr lo n).yld i H x H' → g x σ H' fun σ2 H2 => tbd { D with nx := N, ct := N, bk := D.nx } σ2 H2)
/-- a for over the list at a -/
def FL (K : PySem.W.Frag) (g : TG) (tbd : TS) (D : Ends) (σ : Sl) (a : Addr) (H : Hp) : Prop := ∃ W : Nat → Nat → Sl → Hp → Prop, (∃ m, W 0 m σ H) ∧ ∀ i m σ H, W i m σ H →
  ((Itl K a).stop i H ∧ D.nx σ H) ∨ ((Itl K a).go i H ∧ ∃ N : Sl → Hp → Prop, (∀ σ' H', N σ' H' → ∃ m', m' < m ∧ W (i + 1) m' σ' H') ∧ ∀ x H', (Itl K a).yld i H x H' → g x σ H' fun σ2 H2 => tbd { D with nx := N, ct := N, bk := D.nx } σ2 H2)
theorem i_forR1 (q : tr σ H fun vs H1 => ∃ i : Int, vs = [.int i] ∧ -(2 ^ 62) ≤ i ∧ i < 2 ^ 62 ∧ FR g tbd D σ 0 i.toNat H1) : tFor (iRng1 tr) g tbd D σ H := q
theorem i_forR2 (q : tr σ H fun vs H1 => ∃ i k : Int, vs = [.int i, .int k] ∧ (-(2 ^ 62) ≤ i ∧ i < 2 ^ 62 ∧ -(2 ^ 62) ≤ k ∧ k < 2 ^ 62) ∧ FR g tbd D σ i (k - i).toNat H1) : tFor (iRng2 tr) g tbd D σ H := q
theorem i_forL (q : te σ H fun x H1 => ∃ a, x = .ref a ∧ (∃ xs, SqL K H1 a xs) ∧ FL K g tbd D σ a H1) : tFor (iList K te) g tbd D σ H := q
theorem r_bounds {i : Int} {P : Prop} (h0 : -1000000000000 ≤ i) (h1 : i ≤ 1000000000000) (q : P) : -(2 ^ 62) ≤ i ∧ i < 2 ^ 62 ∧ P := ⟨by omega, by omega, q⟩
theorem i_rng1 {i : Int} {P : Int → Prop} (h0 : -1000000000000 ≤ i) (h1 : i ≤ 1000000000000) (q : P i) : ∃ k : Int, [V.int i] = [.int k] ∧ -(2 ^ 62) ≤ k ∧ k < 2 ^ 62 ∧ P k := ⟨i, rfl, by omega, by omega, q⟩
theorem i_rng2 {i k : Int} {P : Int → Int → Prop} (h0 : -1000000000000 ≤ i) (h1 : i ≤ 1000000000000) (h2 : -1000000000000 ≤ k) (h3 : k ≤ 1000000000000) (q : P i k) :
    ∃ u v : Int, [V.int i, .int k] = [.int u, .int v] ∧ (-(2 ^ 62) ≤ u ∧ u < 2 ^ 62 ∧ -(2 ^ 62) ≤ v ∧ v < 2 ^ 62) ∧ P u v := ⟨i, k, rfl, ⟨by omega, by omega, by omega, by omega⟩, q⟩
/-- by an invariant over the turn -/
theorem fr_of (Pv : Nat → Sl → Hp → Prop) (h0 : Pv 0 σ H) (hs : ∀ i σ H, i < n → Pv i σ H → tbd { D with nx := Pv (i + 1), ct := Pv (i + 1), bk := D.nx } (σ.set j (some (.int (lo + (i : Int))))) H) (hd : ∀ σ H, Pv n σ H → D.nx σ H) : FR (gName j) tbd D σ lo n H :=
  for_range Pv h0 hs hd
theorem i_listOf {P : Prop} (h : SqL K H a xs) (q : FL K g tbd D σ a H) : ∃ b, V.ref a = .ref b ∧ (∃ xs, SqL K H b xs) ∧ FL K g tbd D σ b H := ⟨a, rfl, ⟨xs, h⟩, q⟩
theorem fl_of (Pv : Nat → Sl → Hp → Prop) (h0 : Pv 0 σ H) (hl : ∀ i σ H, i ≤ xs.length → Pv i σ H → SqL K H a xs) (hs : ∀ i x σ H, xs[i]? = some x → Pv i σ H → tbd { D with nx := Pv (i + 1), ct := Pv (i + 1), bk := D.nx } (σ.set j (some x)) H)
    (hd : ∀ σ H, Pv xs.length σ H → D.nx σ H) : FL K (gName j) tbd D σ a H := for_list Pv h0 hl hs hd
/-- [.. for x in range]: at its start -/
def CR (g : TG) (tt : TT) (te : TE) (ws : List Nat) (σ : Sl) (lo : Int) (n : Nat) (H1 : Hp) (Q : VK) : Prop := ∀ D, H1 D = none → ∃ W : Nat → Nat → Hp → Prop, (∃ m, W 0 m (upd H1 D (.lst []))) ∧ ∀ i m H, W i m H →
  ((Itr lo n).stop i H ∧ Q (.ref D) H) ∨ ((Itr lo n).go i H ∧ ∃ Nx : Hp → Prop, (∀ H', Nx H' → ∃ m', m' < m ∧ W (i + 1) m' H') ∧ ∀ x H', (Itr lo n).yld i H x H' → g x (wipe σ ws) H' fun σ2 H2 => wipe σ2 ws = wipe σ ws ∧ tt σ2 H2 fun b H3 =>
    if b = true then te σ2 H3 fun y H4 => ∃ acc, H4 D = some (.lst acc) ∧ acc.length < sizeLine ∧ Nx (upd H4 D (.lst (acc ++ [y]))) else Nx H3)
def CL (K : PySem.W.Frag) (g : TG) (tt : TT) (te : TE) (ws : List Nat) (σ : Sl) (a : Addr) (H1 : Hp) (Q : VK) : Prop := ∀ D, H1 D = none → ∃ W : Nat → Nat → Hp → Prop, (∃ m, W 0 m (upd H1 D (.lst []))) ∧ ∀ i m H, W i m H →
  ((Itl K a).stop i H ∧ Q (.ref D) H) ∨ ((Itl K a).go i H ∧ ∃ Nx : Hp → Prop, (∀ H', Nx H' → ∃ m', m' < m ∧ W (i + 1) m' H') ∧ ∀ x H', (Itl K a).yld i H x H' → g x (wipe σ ws) H' fun σ2 H2 => wipe σ2 ws = wipe σ ws ∧ tt σ2 H2 fun b H3 =>
    if b = true then te σ2 H3 fun y H4 => ∃ acc, H4 D = some (.lst acc) ∧ acc.length < sizeLine ∧ Nx (upd H4 D (.lst (acc ++ [y]))) else Nx H3)
theorem i_lcR1 (q : tr σ H fun vs H1 => ∃ i : Int, vs = [.int i] ∧ -(2 ^ 62) ≤ i ∧ i < 2 ^ 62 ∧ CR g tt te ws σ 0 i.toNat H1 Q) : tLc (iRng1 tr) g tt te ws σ H Q := q
theorem i_lcR2 (q : tr σ H fun vs H1 => ∃ i k : Int, vs = [.int i, .int k] ∧ (-(2 ^ 62) ≤ i ∧ i < 2 ^ 62 ∧ -(2 ^ 62) ≤ k ∧ k < 2 ^ 62) ∧ CR g tt te ws σ i (k - i).toNat H1 Q) : tLc (iRng2 tr) g tt te ws σ H Q := q
theorem i_lcL (q : ta σ H fun x H1 => ∃ a, x = .ref a ∧ (∃ xs, SqL K H1 a xs) ∧ CL K g tt te ws σ a H1 Q) : tLc (iList K ta) g tt te ws σ H Q := q
/-- what holds of heaps through a comprehension: closed under the new list's growing -/
structure Keeps (H1 : Hp) (R : Hp → Prop) : Prop where
  start : R H1
  new : ∀ D H o, H1 D = none → R H → R (upd H D o)
/-- elements each of which satisfies P at its turn -/
theorem cr_of (R : Hp → Prop) (P : Nat → V → Prop) (hn : n ≤ 16000000) (kp : Keeps H R) (hw : ∀ x, wipe ((wipe σ ws).set j (some x)) ws = wipe σ ws)
    (he : ∀ i H2 (Q2 : VK), i < n → R H2 → (∀ y H3, R H3 → Ext H2 H3 ∨ (∀ D o, H D = none → H2 D = some o → H3 D = some o) → P i y → Q2 y H3) → te ((wipe σ ws).set j (some (.int (lo + (i : Int))))) H2 Q2)
    (q : ∀ D H2 ys, H D = none → R H2 → H2 D = some (.lst ys) → ys.length = n → (∀ i y, ys[i]? = some y → P i y) → Q (.ref D) H2) : CR (gName j) tYes te ws σ lo n H Q := by
  intro D hD
  refine lc_range (fun i H2 => R H2 ∧ ∃ ys, H2 D = some (.lst ys) ∧ ys.length = i ∧ ∀ k y, ys[k]? = some y → P k y) ⟨kp.new D _ _ hD kp.start, [], upd_same, rfl, fun k y h => by simp at h⟩ (fun i H2 hi ⟨r, ys, e, el, ep⟩ => ⟨hw _, ?_⟩) (fun H2 ⟨r, ys, e, el, ep⟩ => q D H2 ys hD r e el ep)
  refine he i H2 _ hi r fun y H3 r3 k3 hy => ⟨ys, ?_, ?_, kp.new D _ _ hD r3, ys ++ [y], upd_same, ?_, fun k z hk => ?_⟩
  · rcases k3 with k3 | k3
    · exact k3 _ _ e
    · exact k3 _ _ hD e
  · rw [sizeLine_eq]; omega
  · rw [List.length_append, el]; rfl
  · by_cases h : k < ys.length
    · rw [List.getElem?_append_left h] at hk
      exact ep k z hk
    · have hk2 : k = ys.length := by
        have h2 := (List.getElem?_eq_some_iff.mp hk).1
        rw [List.length_append] at h2
        simp only [List.length_cons, List.length_nil] at h2
        omega
      subst hk2
      rw [List.getElem?_append_right (Nat.le_refl _), Nat.sub_self] at hk
      cases hk
      rw [el]
      exact hy
theorem cl_of (R : Hp → Prop) (P : Nat → V → Prop) (hn : xs.length ≤ 16000000) (kp : Keeps H R) (hl : ∀ H2, R H2 → SqL K H2 a xs) (hw : ∀ x, wipe ((wipe σ ws).set j (some x)) ws = wipe σ ws)
    (he : ∀ i x H2 (Q2 : VK), xs[i]? = some x → R H2 → (∀ y H3, R H3 → Ext H2 H3 ∨ (∀ D o, H D = none → H2 D = some o → H3 D = some o) → P i y → Q2 y H3) → te ((wipe σ ws).set j (some x)) H2 Q2)
    (q : ∀ D H2 ys, H D = none → R H2 → H2 D = some (.lst ys) → ys.length = xs.length → (∀ i y, ys[i]? = some y → P i y) → Q (.ref D) H2) : CL K (gName j) tYes te ws σ a H Q := by
  intro D hD
  refine lc_list (xs := xs) (fun i H2 => R H2 ∧ ∃ ys, H2 D = some (.lst ys) ∧ ys.length = i ∧ ∀ k y, ys[k]? = some y → P k y) ⟨kp.new D _ _ hD kp.start, [], upd_same, rfl, fun k y h => by simp at h⟩ (fun i H2 hi ⟨r, _⟩ => hl H2 r) (fun i x H2 hi ⟨r, ys, e, el, ep⟩ => ⟨hw _, ?_⟩) (fun H2 ⟨r, ys, e, el, ep⟩ => q D H2 ys hD r e el ep)
  have hi2 : i < xs.length := (List.getElem?_eq_some_iff.mp hi).1
  refine he i x H2 _ hi r fun y H3 r3 k3 hy => ⟨ys, ?_, ?_, kp.new D _ _ hD r3, ys ++ [y], upd_same, ?_, fun k z hk => ?_⟩
  · rcases k3 with k3 | k3
    · exact k3 _ _ e
    · exact k3 _ _ hD e
  · rw [sizeLine_eq]; omega
  · rw [List.length_append, el]; rfl
  · by_cases h : k < ys.length
    · rw [List.getElem?_append_left h] at hk
      exact ep k z hk
    · have hk2 : k = ys.length := by
        have h2 := (List.getElem?_eq_some_iff.mp hk).1
        rw [List.length_append] at h2
        simp only [List.length_cons, List.length_nil] at h2
        omega
      subst hk2
      rw [List.getElem?_append_right (Nat.le_refl _), Nat.sub_self] at hk
      cases hk
      rw [el]
      exact hy
theorem keeps_ext (H : Hp) : Keeps H (Ext H) := ⟨.refl H, fun D H2 o hD e => e.mut hD⟩
end
/-- a list of ints, item by item -/
theorem ints_of {ys : List V} (h : ∀ (i : Nat) (y : V), ys[i]? = some y → ∃ n : Int, y = V.int n) : ∃ ns : List Int, ys = ns.map V.int := by
  induction ys with
  | nil => exact ⟨[], rfl⟩
  | cons y r ih =>
    obtain ⟨n, rfl⟩ := h 0 y rfl
    obtain ⟨ns, rfl⟩ := ih fun i z e => h (i + 1) z e
    exact ⟨n :: ns, rfl⟩
theorem ints_ofP {P : Int → Prop} {ys : List V} (h : ∀ (i : Nat) (y : V), ys[i]? = some y → ∃ n : Int, y = V.int n ∧ P n) : ∃ ns : List Int, ys = ns.map V.int ∧ ∀ n ∈ ns, P n := by
  induction ys with
  | nil => exact ⟨[], rfl, fun n hn => by cases hn⟩
  | cons y r ih =>
    obtain ⟨n, rfl, hp⟩ := h 0 y rfl
    obtain ⟨ns, rfl, hq⟩ := ih fun i z e => h (i + 1) z e
    exact ⟨n :: ns, rfl, fun m hm => by rcases List.mem_cons.mp hm with e | e; (· rw [e]; exact hp); (· exact hq m e)⟩
theorem i_cat {H : Hp} {p q : Addr} {xs ys : List V} {Q : VK} (h : H p = some (.lst xs)) (h2 : H q = some (.lst ys)) (hz : xs.length + ys.length ≤ 16777216) (k : ∀ l, H l = none → Q (.ref l) (upd H l (.lst (xs ++ ys)))) : rCat (.ref p) (.ref q) H Q :=
  ⟨p, q, xs, ys, rfl, rfl, h, h2, by rw [sizeLine_eq]; exact hz, k⟩
theorem i_lrg {te : Sl → Hp → (Int → Int → Hp → Prop) → Prop} {σ : Sl} {H : Hp} {Q : VK} (q : te σ H fun a b H1 => RgOk a b ∧ ∀ l, H1 l = none → Q (.ref l) (upd H1 l (.lst (rgV a b)))) : tLstRg te σ H Q := q
theorem i_rg1 {ta : TE} {σ : Sl} {H : Hp} {Q : Int → Int → Hp → Prop} (q : ta σ H fun x H1 => ∃ n, x = .int n ∧ Q 0 n H1) : tRg1 ta σ H Q := q
theorem i_rg2 {ta tb : TE} {σ : Sl} {H : Hp} {Q : Int → Int → Hp → Prop} (q : ta σ H fun x H1 => tb σ H1 fun y H2 => ∃ i j, x = .int i ∧ y = .int j ∧ Q i j H2) : tRg2 ta tb σ H Q := q
theorem i_isInt {i : Int} {P : Int → Prop} (q : P i) : ∃ n, V.int i = .int n ∧ P n := ⟨i, rfl, q⟩
theorem i_isInt2 {i j : Int} {P : Int → Int → Prop} (q : P i j) : ∃ n m, V.int i = .int n ∧ V.int j = .int m ∧ P n m := ⟨i, j, rfl, rfl, q⟩
theorem i_bits {ta : TE} {σ : Sl} {H : Hp} {Q : VK} (q : ta σ H fun x H1 => ∃ i, x = .int i ∧ Q (.int (Builtin.Int.intBits i : Nat)) H1) : tBits ta σ H Q := q

/-! ## sides -/
theorem mulL {i j : Int} (h1 : -18446744073709551616 < i) (h2 : i < 18446744073709551616) : IntMulOk i j := .of_left (intBits_le_64 (by omega) (by omega))
theorem mulR {i j : Int} (h1 : -18446744073709551616 < j) (h2 : j < 18446744073709551616) : IntMulOk i j := .of_right (intBits_le_64 (by omega) (by omega))
theorem mulWide {i j : Int} {a b : Nat} (ha : i.natAbs < 2 ^ a) (hb : j.natAbs < 2 ^ b) (h : a + b ≤ 134217728) : IntMulOk i j := (mulx_ok ha hb h).ok
theorem divS {i j : Int} (h0 : 0 < j) (h : j < 340282366920938463463374607431768211456) : CDivW i j := wide_div h0 (b := 128) (by omega) (by decide) (by decide)
theorem divL {i j : Int} {b : Nat} (h0 : 0 < j) (h : j < 2 ^ b) (hb : 0 < b) (h9 : b ≤ 9000) : CDivW i j := wide_div h0 (b := b) (by
  have e : ((2 ^ b : Nat) : Int) = (2 : Int) ^ b := by push_cast; rfl
  omega) hb h9
theorem powS {i j : Int} (h0 : 0 ≤ j) (h1 : j ≤ 1000000) (h2 : -18446744073709551616 < i) (h3 : i < 18446744073709551616) : CPow i j := ⟨h0, h1, by omega⟩
theorem shlS {i j : Int} (h0 : 0 ≤ j) (h1 : j ≤ 100000) (h2 : -18446744073709551616 < i) (h3 : i < 18446744073709551616) : CShl i j := by
  obtain ⟨m, rfl⟩ := Int.eq_ofNat_of_zero_le h0
  exact shl_ok (n := 64) (by omega) (by omega)

local macro_rules | `(tactic| walk_at "nb.side") => `(tactic| first
  | assumption
  | decide
  | omega
  | exact mulR (by omega) (by omega)
  | exact mulL (by omega) (by omega)
  | exact divS (by omega) (by omega)
  | exact powS (by omega) (by omega) (by omega) (by omega)
  | exact shlS (by omega) (by omega) (by omega) (by omega))
example (i : Int) (h : i < 5) (h0 : 0 ≤ i) : IntMulOk i 123456789123456789123456789123456789123456789 := by walk_at "nb.side"
example (i : Int) : IntMulOk i 48271 := by walk_at "nb.side"
example (i : Int) : CDivW i 2147483648 := by walk_at "nb.side"
example : CPow 10 18 := by walk_at "nb.side"
end NB

namespace NB
open PySem PySem.Spec PyProof.Rows L2
open He (ga ma)
/-! ## what the head's look tells of an error class -/
def oexB (K : PySem.W.Frag) (C : Addr) : Bool := (match K.lookup C with
  | some ⟨.type "type", _, .cls cd, sl⟩ => (match cd.mro, sl.toList with
    | .ref C' :: bm, [_, _, _, _, some (.builtin n), _] => decide (C' = C) && (decide (n = "ValueError.__new__") && (!cd.hasDel && (cd.hasDict && PySem.HandSPX.refsVE bm)))
    | _, _ => false)
  | _ => false) && (decide (PySem.W.findIn K (.ref C) "__setattr__" = some (some (.builtin "object.__setattr__"))) && (decide (PySem.W.subIn K (.ref C) (.type "BaseException") = some true) &&
    (decide (PySem.W.typeIn K (.ref C) = some (.type "type")) && PySem.W.keepIn K (.ref C))))
theorem oexB_ok {K : PySem.W.Frag} {C : Addr} (h : oexB K C = true) : OexC K C := by
  unfold oexB at h
  simp only [Bool.and_eq_true, decide_eq_true_eq] at h
  obtain ⟨h1, h2, h3, h4, h5⟩ := h
  refine ⟨?_, h2, h3, h4, h5⟩
  cases q : K.lookup C with
  | none =>
    rw [q] at h1
    cases h1
  | some o =>
    rw [q] at h1
    split at h1
    · rename_i z cd sl e
      cases e
      split at h1
      · rename_i C' bm k0 k1 k2 k3 n k5 hm hs
        simp only [Bool.and_eq_true, decide_eq_true_eq, Bool.not_eq_true'] at h1
        obtain ⟨rfl, rfl, g1, g2, g3⟩ := h1
        obtain ⟨nm, bs, mro, ns, qn, hd, sn, sub, ab, col, del⟩ := cd
        dsimp only at hm g1 g2
        subst hm g1 g2
        obtain ⟨l⟩ := sl
        simp only at hs
        subst hs
        exact ⟨_, _, _, _, _, _, _, _, _, _, _, _, _, _, _, rfl, g3⟩
      · cases h1
    · cases h1
def excB (K : PySem.W.Frag) (C : Addr) : Bool := decide (PySem.W.findIn K (.ref C) "__class__" = some (some (.builtin "object.__class__"))) &&
  (decide (PySem.W.specialIn K (.builtin "object.__class__") "__get__" = some (some (.builtin "getset_descriptor.__get__"))) && (decide (PySem.W.takesIn K (.builtin "object.__class__") = some true) && decide (PySem.W.mroIn K C (.type "object") = some true)))
theorem errC_ok {K : PySem.W.Frag} {C : Addr} (h1 : xfB K C = true) (h2 : excB K C = true) : ErrC K C := by
  have x := xfB_ok h1
  unfold excB at h2
  simp only [Bool.and_eq_true, decide_eq_true_eq] at h2
  exact ⟨⟨x.ga, x.gg, x.exC, x.hdC, h2.1, h2.2.1, h2.2.2.1, h2.2.2.2⟩, x⟩
/-- a raised class: x its name, fs its fields, own: it has its own __init__ -/
def errB (K : PySem.W.Frag) (all : List Str) (base x : Str) (fs : List Str) : Bool :=
  oexB K (ga K x) && (xfB K (ga K x) && (excB K (ga K x) && ((fs.all fun f => decide (PySem.W.findIn K (.ref (ga K x)) f = some none)) &&
  (decide (PySem.W.findIn K (.ref (ga K x)) "__init__" = some (some (.ref (ma K (ga K x) "__init__")))) && (decide (PySem.W.typeIn K (.ref (ma K (ga K x) "__init__")) = some (.type "function")) &&
  (decide (PySem.W.exmOne K (.ref (ga K x)) (.ref (ga K base)) = some true) && ((all.all fun D => decide (PySem.W.kitOne K (.ref (ga K x)) (.ref (ga K D)) = some (decide (D = x) || decide (D = base)))) &&
  decide (PySem.W.kitOne K (.ref (ga K x)) (.type "ValueError") = some true))))))))
structure ErrT (K : PySem.W.Frag) (all : List Str) (base x : Str) (fs : List Str) : Prop where
  o : OexC K (ga K x)
  e : ErrC K (ga K x)
  n : ∀ f ∈ fs, PySem.W.findIn K (.ref (ga K x)) f = some none
  i : PySem.W.findIn K (.ref (ga K x)) "__init__" = some (some (.ref (ma K (ga K x) "__init__")))
  t : PySem.W.typeIn K (.ref (ma K (ga K x) "__init__")) = some (.type "function")
  m : PySem.W.exmOne K (.ref (ga K x)) (.ref (ga K base)) = some true
  k : ∀ D ∈ all, PySem.W.kitOne K (.ref (ga K x)) (.ref (ga K D)) = some (decide (D = x) || decide (D = base))
  v : PySem.W.kitOne K (.ref (ga K x)) (.type "ValueError") = some true
theorem errB_ok {K : PySem.W.Frag} {all : List Str} {base x : Str} {fs : List Str} (h : errB K all base x fs = true) : ErrT K all base x fs := by
  unfold errB at h
  simp only [Bool.and_eq_true, List.all_eq_true, decide_eq_true_eq] at h
  obtain ⟨h1, h2, h3, h4, h5, h6, h7, h8, h9⟩ := h
  exact ⟨oexB_ok h1, errC_ok h2 h3, h4, h5, h6, h7, h8, h9⟩
theorem kitAny_false {K : PySem.W.Frag} {t : Value} : ∀ {l : List Value}, (∀ c ∈ l, PySem.W.kitOne K t c = some false) → PySem.W.kitAny K t l = some false
  | [], _ => rfl
  | c :: r, h => kitAny_cons (h c (List.mem_cons_self ..)) (fun _ => kitAny_false fun d hd => h d (List.mem_cons_of_mem _ hd)) (fun z => nomatch z)
/-- a module's whole number -/
theorem pe_globI {X : Cx} {x : Str} {i : Int} {pos : Pos} (h : ∃ t, X.mg x = some (.int i t)) (hg : Gl X x := by rfl) (hd : (x == ("__debug__" : Str)) = false := by decide) : PE X (.Name x pos) (tC (.int i)) := by
  obtain ⟨t, e⟩ := h
  exact pe_glob hg e ⟨t, rfl⟩ hd
theorem pe_globS {X : Cx} {x z : Str} {pos : Pos} (h : ∃ t, X.mg x = some (.str z t)) (hg : Gl X x := by rfl) (hd : (x == ("__debug__" : Str)) = false := by decide) : PE X (.Name x pos) (tC (.str z)) := by
  obtain ⟨t, e⟩ := h
  exact pe_glob hg e ⟨t, rfl⟩ hd
/-- a def that keeps its promise, ready to be called -/
def Good (P : Program) (w : World) (K : PySem.W.Frag) (mg : Str → Option Value) (base : Heap) (k : Nat) (f : Addr) (ps : List Str) (sp : Sp) : Prop :=
  ∃ fd, FnOk P w K mg base (L2N.CX P w) k f fd ps sp ∧ Binds K fd ps [] ∧ PySem.W.keepIn K (.ref f) = true ∧ ∃ (oc : Value) (od : Option Addr) (osl : Array (Option Value)), K.lookup f = some ⟨oc, od, .func fd, osl⟩
theorem fun_at {K : PySem.W.Frag} {x qual : Str} {params : Arguments} {body : List Stmt} {scope : Scope} {dvs : List V} {kws : List (Str × V)} {f : Addr} {fd : FuncData} (F : FunD K x qual params body scope dvs kws f fd) :
    ∃ (oc : Value) (od : Option Addr) (osl : Array (Option Value)), K.lookup f = some ⟨oc, od, .func fd, osl⟩ := by
  obtain ⟨oc, od, dV, kV, doc, pm, an, cdv, ct, osl, e, lk, _⟩ := F.ex
  exact ⟨oc, od, osl, lk⟩
theorem fun_one {K : PySem.W.Frag} {f : Addr} {fd fd' : FuncData} (h : ∃ (oc : Value) (od : Option Addr) (osl : Array (Option Value)), K.lookup f = some ⟨oc, od, .func fd, osl⟩)
    (h' : ∃ (oc : Value) (od : Option Addr) (osl : Array (Option Value)), K.lookup f = some ⟨oc, od, .func fd', osl⟩) : fd = fd' := by
  obtain ⟨oc, od, osl, e⟩ := h
  obtain ⟨oc', od', osl', e'⟩ := h'
  rw [e] at e'
  cases e'
  rfl
/-! ### calls that name their arguments -/
/-- the parameters in their order, out of the positional values and then the named ones -/
def pick {α : Type} (perm : List Nat) (us ws : List α) : List α := perm.filterMap fun i => (us ++ ws)[i]?
theorem pick_rel (perm : List Nat) {vs zs : List V} {us ws : List Value} (a : Vals vs us) (b : Vals zs ws) : Vals (pick perm vs zs) (pick perm us ws) := by
  have c := a.append b
  unfold pick
  induction perm with
  | nil => exact .nil
  | cons i r ih =>
    cases e : (vs ++ zs)[i]? with
    | none =>
      have e' := c.none_of e
      rw [List.filterMap_cons_none e, List.filterMap_cons_none e']
      exact ih
    | some v =>
      obtain ⟨u, e', rv⟩ := c.get e
      rw [List.filterMap_cons_some e, List.filterMap_cons_some e']
      exact .cons rv ih
theorem kwBinds {K : PySem.W.Frag} {x qual : Str} {params : Arguments} {body : List Stmt} {scope : Scope} {kws : List (Str × V)} {f : Addr} {fd : FuncData} {ps : List Str} (F : FunD K x qual params body scope [] kws f fd) (n : Nat) (ks : List Str) (perm : List Nat)
    (h : ∀ (kV doc pm : Value) (an : Option Addr) (cdv ct : Value) (us ws : List Value), us.length = n → ws.length = ks.length → bindArgs (PySem.W.fnOf x qual params body scope .none kV doc pm an cdv ct) ⟨us, ks.zip ws⟩ = pure (ps.zip (pick perm us ws))) :
    KBn K fd ps n ks (pick perm) (pick perm) := by
  obtain ⟨oc, od, dV, kV, doc, pm, an, cdv, ct, osl, rfl, lk, hcd, hD, hK⟩ := F.ex
  rcases hD with ⟨_, rfl⟩ | ⟨e, _⟩
  · exact ⟨fun s us ws X l1 l2 => .of_eq (h kV doc pm an cdv ct us ws l1 l2), fun a b => pick_rel perm a b⟩
  · exact absurd rfl e
def tKw (m : Nat) (sp : Sp) (gV : List V → List V → List V) (E : Sl → XK) (tk : TA) : TE := fun σ H Q => tk σ H fun zs H2 => zs.length = m ∧ sp (gV [] zs) H2 Q (E σ)
def tKwP (n m : Nat) (sp : Sp) (gV : List V → List V → List V) (E : Sl → XK) (t tk : TA) : TE := fun σ H Q => t σ H fun vs H1 => tk σ H1 fun zs H2 => vs.length = n ∧ zs.length = m ∧ sp (gV vs zs) H2 Q (E σ)
section
variable {X : Cx} {CX : CXT} {k n : Nat} {f : Addr} {fd : FuncData} {ps ks : List Str} {sp : Sp} {E : Sl → XK} {x : Str} {p pos : Pos} {e : Expr} {es : List Expr} {kws : List Keyword} {t tk : TA} {g : List Value → List Value → List Value} {gV : List V → List V → List V}
theorem run_kw {pins : List (Addr × Obj)} {σ : Sl} {H : Hp} {s : Shared} {Q : VK} {us ws : List Value} {vs zs : List V} (F : FnOk X.prog X.w X.K X.mg X.base CX k f fd ps sp) (hr : Room k X.A) (hb : KBn X.K fd ps n ks g gV) (hx : PassesAt CX X σ (E σ))
    (I : Inv X pins σ H s) (r : Vals vs us) (rz : Vals zs ws) (l1 : vs.length = n) (l2 : zs.length = ks.length) (h : sp (gV vs zs) H Q (E σ)) : wpAny (model X.prog X.w) X.A (call (.ref f) us (ks.zip ws)) (EP X pins σ Q) X.xe s := by
  refine wpAny_call (codeAny_mono (F.run X.A X.stack s H ⟨us, ks.zip ws⟩ (g us ws) (gV vs zs) Q (E σ) hr I.env0 (hb.to s us ws I.kIn (by rw [← r.length]; exact l1) (by rw [← rz.length]; exact l2)) (hb.rel r rz) h) fun q s' hq => ?_)
  cases q with
  | error z => exact hx pins H s z s' I hq
  | ok fl =>
    cases fl with
    | ret u => exact I.after hq
    | next => exact False.elim hq
    | brk => exact False.elim hq
    | cont => exact False.elim hq
/-- f(k = v, ..) -/
theorem pe_callN0 (F : FnOk X.prog X.w X.K X.mg X.base CX k f fd ps sp) (hr : Room k X.A) (hg : Gl X x) (hm : X.mg x = some (.ref f)) (hk : PySem.W.keepIn X.K (.ref f) = true) (hb : KBn X.K fd ps 0 ks g gV) (hx : ∀ σ, PassesAt CX X σ (E σ)) (hkw : PK X kws tk)
    (hall : (backToKw pos (keywordEach kws X.env)).all (·.1.isSome) = true := by rfl) (hks : (backToKw pos (keywordEach kws X.env)).filterMap (·.1) = ks := by rfl) (hdb : (x == ("__debug__" : Str)) = false := by decide)
    (hpl : ((backTo pos (starEach [] X.env)).any (·.1) || (backToKw pos (keywordEach kws X.env)).any (·.1.isNone)) = false := by rfl) :
    PE X (.Call (.Name x p) [] kws pos) (tKw ks.length sp gV E tk) := by
  refine ⟨fun pins s σ H Q I h => ?_⟩
  refine wpAny_Call_Name_kw (ld_glob I hg hm ?_ hdb)
  refine PySem.W.callWith_KW0 (h₀ := X.base) I.ok.mod.kin hk hall (thn (hkw.run pos pins s σ H _ I h) fun ws s2 hh => ?_) hpl
  obtain ⟨zs, H2, I2, rz, l2, q2⟩ := hh
  refine ⟨I2.kIn, ?_⟩
  rw [hks]
  exact run_kw (us := []) (vs := []) F hr hb (hx σ) I2 .nil rz rfl l2 q2
/-- f(e, .., k = v, ..) -/
theorem pe_callN1 (F : FnOk X.prog X.w X.K X.mg X.base CX k f fd ps sp) (hr : Room k X.A) (hg : Gl X x) (hm : X.mg x = some (.ref f)) (hk : PySem.W.keepIn X.K (.ref f) = true) (hb : KBn X.K fd ps n ks g gV) (hx : ∀ σ, PassesAt CX X σ (E σ))
    (ha : PA X (e :: es) t) (hkw : PK X kws tk) (hall : (backToKw pos (keywordEach kws X.env)).all (·.1.isSome) = true := by rfl) (hks : (backToKw pos (keywordEach kws X.env)).filterMap (·.1) = ks := by rfl)
    (hdb : (x == ("__debug__" : Str)) = false := by decide) (he : starEach (e :: es) X.env = (false, eval e X.env) :: starEach es X.env := by rfl)
    (hpl : ((backTo pos (starEach (e :: es) X.env)).any (·.1) || (backToKw pos (keywordEach kws X.env)).any (·.1.isNone)) = false := by rfl) :
    PE X (.Call (.Name x p) (e :: es) kws pos) (tKwP n ks.length sp gV E t tk) := by
  refine ⟨fun pins s σ H Q I h => ?_⟩
  refine wpAny_Call_Name_kw (ld_glob I hg hm ?_ hdb)
  refine PySem.W.callWith_KW (h₀ := X.base) I.ok.mod.kin hk hall (thn (ha.run pos pins s σ H _ I h) fun us s1 hh => ?_) hpl he
  obtain ⟨vs, H1, I1, r, q⟩ := hh
  refine thn (hkw.run pos pins s1 σ H1 _ I1 q) fun ws s2 hh2 => ?_
  obtain ⟨zs, H2, I2, rz, l1, l2, q2⟩ := hh2
  refine ⟨I2.kIn, ?_⟩
  rw [hks]
  exact run_kw F hr hb (hx σ) I2 r rz l1 l2 q2
theorem passAtN {σ : Sl} : PassesAt (L2N.CX X.prog X.w) X σ E0 := fun _ _ _ _ _ _ h => by
  obtain ⟨_, _, _, _, _, _, _, _, _, _, _, _, z⟩ := h
  exact z.elim
variable {σ : Sl} {H : Hp} {Q : VK} {m : Nat}
theorem i_kw (q : tk σ H fun zs H2 => zs.length = m ∧ sp (gV [] zs) H2 Q (E σ)) : tKw m sp gV E tk σ H Q := q
theorem i_kwP (q : t σ H fun vs H1 => tk σ H1 fun zs H2 => vs.length = n ∧ zs.length = m ∧ sp (gV vs zs) H2 Q (E σ)) : tKwP n m sp gV E t tk σ H Q := q
end
def GoodP (P : Program) (w : World) (K : PySem.W.Frag) (mg : Str → Option Value) (base : Heap) (k : Nat) (f : Addr) (ps : List Str) (sp : Addr → Value → Option Addr → Sp) : Prop :=
  ∃ fd, FnP P w K mg base k f fd ps sp ∧ Binds K fd ps [] ∧ PySem.W.keepIn K (.ref f) = true ∧ ∃ (oc : Value) (od : Option Addr) (osl : Array (Option Value)), K.lookup f = some ⟨oc, od, .func fd, osl⟩
theorem roomX {X : Cx} {k j : Nat} {a : Addr} {pn : List (Addr × Obj)} (hr : Room k X.A) (h : j ≤ k := by decide) : L2H.RoomH j (X.suite a pn).A := (L2H.roomH_mark hr _).mono h
section
variable {K : PySem.W.Frag} {all fs : List Str} {base x D : Str} {H : Hp} {Q : VK} {a d tp : Addr} {b : Bool} {ys : List (Str × V)}
/-- isinstance(e, D) -/
theorem i_isP (e : ErrT K all base x fs) (hD : D ∈ all) (hb : (decide (D = x) || decide (D = base)) = b) (hd : H d = some (.xd ys)) (q : Q (.bl b) H) : rIsP K (ga K x) a (some d) [.ref a, .ref (ga K D)] H Q :=
  ⟨_, _, b, rfl, .own _, fun dd z => by cases z; exact ⟨_, hd⟩, by rw [e.k D hD, hb], q⟩
theorem i_isPV (e : ErrT K all base x fs) (hd : H d = some (.xd ys)) (q : Q (.bl true) H) : rIsP K (ga K x) a (some d) [.ref a, .ty "ValueError"] H Q :=
  ⟨_, _, true, rfl, .ty _, fun dd z => by cases z; exact ⟨_, hd⟩, e.v, q⟩
theorem own_all : ∀ Ds : List Str, Paired ClsV (Ds.map fun D => V.ref (ga K D)) (Ds.map fun D => Value.ref (ga K D))
  | [] => .nil
  | D :: r => .cons (.own _) (own_all r)
/-- isinstance(e, (D, ..)): of none of them -/
theorem i_isPTno (e : ErrT K all base x fs) (Ds : List Str) (hall : (Ds.all fun D => all.contains D && !(decide (D = x) || decide (D = base))) = true) (hT : H tp = some (.tup (Ds.map fun D => V.ref (ga K D)))) (hd : H d = some (.xd ys)) (q : Q (.bl false) H) :
    rIsPT K (ga K x) a (some d) [.ref a, .ref tp] H Q := by
  refine ⟨tp, _, _, false, rfl, hT, own_all Ds, fun dd z => by cases z; exact ⟨_, hd⟩, kitAny_false fun c hc => ?_, q⟩
  obtain ⟨D, hD, rfl⟩ := List.mem_map.mp hc
  have h := List.all_eq_true.mp hall D hD
  rw [Bool.and_eq_true] at h
  rw [e.k D (List.contains_iff_mem.mp h.1)]
  have h2 := h.2
  rw [Bool.not_eq_true'] at h2
  rw [h2]
end
/-- what an except clause asks of an error of the class x -/
theorem was_of {K : PySem.W.Frag} {all fs : List Str} {base x : Str} {i : Nat} {ts : Addr → Value → Option Addr → TS} {Wout : WX} {D : Ends} {d : Option Addr} {σ : Sl} {H : Hp} (e : ErrT K all base x fs)
    (q : ∀ a, H a = none → ts a (.ref (ga K x)) d { nx := fun σ' H' => D.nx (σ'.set i none) H', rt := D.rt, bk := fun σ' H' => D.bk (σ'.set i none) H', ct := fun σ' H' => D.ct (σ'.set i none) H' } (σ.set i (some (.ref a))) H) :
    wAs K (.ref (ga K base)) i ts Wout D (.ref (ga K x)) d σ H := ⟨true, e.m, fun _ => q, fun z => nomatch z⟩
/-- the promise of an error's __init__ of one field, of two -/
def spInit1 (C : Addr) (f : Str) : Sp := fun vs H Q _ => ∃ (a : Addr) (v : V), vs = [.ref a, v] ∧ H a = some (exo a C none) ∧
  ∀ dx, H dx = none → dx ≠ a → Q .non (upd (upd H dx (exd dx [(f, v)])) a (exo a C (some dx)))
def spInit2 (C : Addr) (f g : Str) : Sp := fun vs H Q _ => ∃ (a : Addr) (v u : V), vs = [.ref a, v, u] ∧ H a = some (exo a C none) ∧
  ∀ dx, H dx = none → dx ≠ a → Q .non (upd (upd (upd H dx (exd dx [(f, v)])) a (exo a C (some dx))) dx (exd dx [(g, u), (f, v)]))
section
variable {C : Addr} {f g : Str} {v u : V} {H : Hp} {Q : XK} {tr : TA} {σ : Sl} {sp : Sp}
theorem i_mkO (q : tr σ H fun vs H1 => vs.length ≤ 1000 ∧ ∀ a, H1 a = none → sp (.ref a :: (vs ++ [])) (upd H1 a (exo a C none))
  (fun v H2 => v = .non ∧ ∃ (d : Addr) (fs : List (Str × V)), H2 a = some (exo a C (some d)) ∧ H2 d = some (exd d fs) ∧ H1 d = none ∧ Q (.ref C) (some d) (upd (L2.del H2 a) d (.xd fs))) (fun _ _ _ => False)) : tMkO C sp [] tr σ H Q := q
theorem del_upds {a d : Addr} {o1 o2 o3 : HO} (na : H a = none) (nd : H d = none) (ne : d ≠ a) : Ext H (upd (L2.del (upd (upd (upd H a o1) d o2) a o3) a) d o2) := fun b o e => by
  have hb : b ≠ a := ne_of_none e na
  have hd : b ≠ d := ne_of_none e nd
  rw [upd_ne hd, L2.del_ne hb, upd_ne hb, upd_ne hd, upd_ne hb]
  exact e
theorem ext_xd {a d : Addr} {H2 : Hp} {o : HO} (na : H a = none) (nd : H d = none) (k : ∀ b u, b ≠ a → b ≠ d → H b = some u → H2 b = some u) : Ext H (upd (L2.del H2 a) d o) := fun b u e => by
  have hb : b ≠ a := ne_of_none e na
  have hd : b ≠ d := ne_of_none e nd
  rw [upd_ne hd, L2.del_ne hb]
  exact k b u hb hd e
theorem mk1 (q : ∀ d H2, Ext H H2 → H d = none → H2 d = some (.xd [(f, v)]) → Q (.ref C) (some d) H2) : [v].length ≤ 1000 ∧ ∀ a, H a = none → spInit1 C f (.ref a :: ([v] ++ [])) (upd H a (exo a C none))
    (fun v H2 => v = .non ∧ ∃ (d : Addr) (fs : List (Str × V)), H2 a = some (exo a C (some d)) ∧ H2 d = some (exd d fs) ∧ H d = none ∧ Q (.ref C) (some d) (upd (L2.del H2 a) d (.xd fs))) (fun _ _ _ => False) := by
  refine ⟨by show 1 ≤ 1000; decide, fun a na => ⟨a, v, rfl, upd_same, fun dx hn ne => ⟨rfl, dx, _, upd_same, ?_, ?_, q dx _ (ext_xd na ?_ fun b u hb hd e => ?_) ?_ upd_same⟩⟩⟩
  · rw [upd_ne ne, upd_same]
  · rw [upd_ne ne] at hn; exact hn
  · rw [upd_ne ne] at hn; exact hn
  · rw [upd_ne hb, upd_ne hd, upd_ne hb]; exact e
  · rw [upd_ne ne] at hn; exact hn
theorem mk2 (q : ∀ d H2, Ext H H2 → H d = none → H2 d = some (.xd [(g, u), (f, v)]) → Q (.ref C) (some d) H2) : [v, u].length ≤ 1000 ∧ ∀ a, H a = none → spInit2 C f g (.ref a :: ([v, u] ++ [])) (upd H a (exo a C none))
    (fun v H2 => v = .non ∧ ∃ (d : Addr) (fs : List (Str × V)), H2 a = some (exo a C (some d)) ∧ H2 d = some (exd d fs) ∧ H d = none ∧ Q (.ref C) (some d) (upd (L2.del H2 a) d (.xd fs))) (fun _ _ _ => False) := by
  refine ⟨by show 2 ≤ 1000; decide, fun a na => ⟨a, v, u, rfl, upd_same, fun dx hn ne => ⟨rfl, dx, _, ?_, upd_same, ?_, q dx _ (ext_xd na ?_ fun b u hb hd e => ?_) ?_ upd_same⟩⟩⟩
  · rw [upd_ne (Ne.symm ne), upd_same]
  · rw [upd_ne ne] at hn; exact hn
  · rw [upd_ne ne] at hn; exact hn
  · rw [upd_ne hd, upd_ne hb, upd_ne hd, upd_ne hb]; exact e
  · rw [upd_ne ne] at hn; exact hn
end
end NB
namespace NB
open PySem PySem.Spec PyProof.Rows L2
/-- the law's promise: at every script of at most 63 whole numbers, together of at most 2^20 bits, it gives True -/
def spLaw (K : PySem.W.Frag) : Sp := fun vs H Q _ => ∃ (a : Addr) (ns : List Int), vs = [.ref a] ∧ SqL K H a (ns.map V.int) ∧ ns.length ≤ 63 ∧ (∀ z ∈ ns, Builtin.Int.intBits z ≤ 1048576) ∧ ∀ H', Q (.bl true) H'
/-- the end of a law over a head's facts, the script's bits told -/
theorem walk_end {l : PySem.W.OpenLaw} {n k : Nat} {q : Program} {loose : List Str} {XP : (Str → Option Value) → Heap → Prop} {YP : World → Heap → Prop} {d : DefRec} {x : Str}
    (hn : l.most = some n) (hn2 : n ≤ sizeLine) (hdf : d.params.defaults = []) (hr : Room k callerA)
    (F : ∀ (w : World) (mg : Str → Option Value) (fa : Addr) (h : Heap), YP w h → h.Ns mainGlobals mg → mg d.name = some (.ref fa) →
      ∃ (K : PySem.W.Frag) (fd : FuncData) (sp : Sp), K.In h ∧ (∀ (s : Shared) (u : Value), BindsTo s fd ⟨[u], []⟩ [(x, u)]) ∧
        (∀ (H : Hp) (a : Addr) (ns : List Int), ns.length ≤ n → (∀ z ∈ ns, Builtin.Int.intBits z ≤ 1048576) → Only H → SqL K H a (ns.map V.int) → sp [.ref a] H (fun v _ => v = .bl true) fun _ _ _ => False) ∧
        ∀ base : Heap, K.In base → base.Ns mainGlobals mg → FnOk l.prog w K mg base (L2N.CX l.prog w) k fa fd [x] sp) :
    PySem.W.WalkO q loose XP YP l.row.toRowW d [] (fun f vs => PySem.call f vs) := by
  refine Att.attach_callB hn hdf fun w s₀ s₁ mg mb fa o pm cd doc a vs ns G Y ho hd hcd hmg hobj hints hlen hbits hg => ?_
  obtain ⟨K, fd, sp, KX, hb, hsp, hF⟩ := F w mg fa _ Y G.T.g hmg
  exact law_call KX G.T.g G.T.b G.T.builtins G.T.nolimit hg hobj hints (Nat.le_trans hlen hn2) hr hF hb (fun H hO hS => hsp H a ns hlen hbits hO hS) fun H e s' z => by
    obtain ⟨_, _, _, _, _, _, _, _, _, _, _, _, z⟩ := z
    exact z.elim
end NB

namespace NB
open PySem PySem.Spec PyProof.Rows L2
open He (ga ma)
/-! ## values of any plain kind -/
inductive AnyV (H : Hp) : V → Prop where
  | non : AnyV H .non
  | bl (b : Bool) : AnyV H (.bl b)
  | int (i : Int) : AnyV H (.int i)
  | str (z : Str) : AnyV H (.str z)
  | lst {a : Addr} {xs : List V} (h : H a = some (.lst xs)) : AnyV H (.ref a)
  | tup {a : Addr} {xs : List V} (h : H a = some (.tup xs)) : AnyV H (.ref a)
  | dK {a : Addr} {xs : List (Key × V)} (h : H a = some (.dK xs)) : AnyV H (.ref a)
theorem AnyV.ext {H H' : Hp} {v : V} (e : Ext H H') (h : AnyV H v) : AnyV H' v := by
  cases h with
  | non => exact .non
  | bl b => exact .bl b
  | int i => exact .int i
  | str z => exact .str z
  | lst h => exact .lst (e _ _ h)
  | tup h => exact .tup (e _ _ h)
  | dK h => exact .dK (e _ _ h)
def isI : V → Bool
  | .int _ => true
  | _ => false
def isB : V → Bool
  | .bl _ => true
  | _ => false
def isS : V → Bool
  | .str _ => true
  | _ => false
def isR : V → Bool
  | .ref _ => true
  | _ => false
/-- a whole number between the two -/
def inR (v : V) (lo hi : Int) : Prop := ∃ i, v = .int i ∧ lo ≤ i ∧ i ≤ hi
theorem inR_int {i lo hi : Int} : inR (.int i) lo hi ↔ lo ≤ i ∧ i ≤ hi := ⟨fun ⟨j, e, h⟩ => by cases e; exact h, fun h => ⟨i, rfl, h⟩⟩
theorem inR_not {v : V} {lo hi : Int} (h : isI v = false) : ¬ inR v lo hi := fun ⟨j, e, _⟩ => by rw [e] at h; cases h
section
variable {K : PySem.W.Frag} {H : Hp} {v : V} {Q : VK} {b : Bool}
theorem i_isi {t T : String} (ty : TyX K H v (.type t)) (e : kitB t T = some b) (q : Q (.bl b) H) : rIsi K [v, .ty T] H Q := ⟨v, .ty T, .type t, .type T, b, rfl, .ty T, ty, kit_ty e, q⟩
/-- isinstance(v, int), bool, str, list, tuple of any plain value -/
theorem isi_int (h : AnyV H v) (q : Q (.bl (isI v || isB v)) H) : rIsi K [v, .ty "int"] H Q := by
  cases h with
  | non => exact i_isi (b := false) (.base .non) (by decide +kernel) q
  | bl b => exact i_isi (b := true) (.base (.bl b)) (by decide +kernel) q
  | int i => exact i_isi (b := true) (.base (.int i)) (by decide +kernel) q
  | str z => exact i_isi (b := false) (.base (.str z)) (by decide +kernel) q
  | lst h => exact i_isi (b := false) (.base (.lst h)) (by decide +kernel) q
  | tup h => exact i_isi (b := false) (.base (.tup h)) (by decide +kernel) q
  | dK h => exact i_isi (b := false) (.base (.dK h)) (by decide +kernel) q
theorem isi_bool (h : AnyV H v) (q : Q (.bl (isB v)) H) : rIsi K [v, .ty "bool"] H Q := by
  cases h with
  | non => exact i_isi (b := false) (.base .non) (by decide +kernel) q
  | bl b => exact i_isi (b := true) (.base (.bl b)) (by decide +kernel) q
  | int i => exact i_isi (b := false) (.base (.int i)) (by decide +kernel) q
  | str z => exact i_isi (b := false) (.base (.str z)) (by decide +kernel) q
  | lst h => exact i_isi (b := false) (.base (.lst h)) (by decide +kernel) q
  | tup h => exact i_isi (b := false) (.base (.tup h)) (by decide +kernel) q
  | dK h => exact i_isi (b := false) (.base (.dK h)) (by decide +kernel) q
theorem isi_str (h : AnyV H v) (q : Q (.bl (isS v)) H) : rIsi K [v, .ty "str"] H Q := by
  cases h with
  | non => exact i_isi (b := false) (.base .non) (by decide +kernel) q
  | bl b => exact i_isi (b := false) (.base (.bl b)) (by decide +kernel) q
  | int i => exact i_isi (b := false) (.base (.int i)) (by decide +kernel) q
  | str z => exact i_isi (b := true) (.base (.str z)) (by decide +kernel) q
  | lst h => exact i_isi (b := false) (.base (.lst h)) (by decide +kernel) q
  | tup h => exact i_isi (b := false) (.base (.tup h)) (by decide +kernel) q
  | dK h => exact i_isi (b := false) (.base (.dK h)) (by decide +kernel) q
theorem isi_listL {a : Addr} {xs : List V} (h : H a = some (.lst xs)) (q : Q (.bl true) H) : rIsi K [.ref a, .ty "list"] H Q := i_isi (b := true) (.base (.lst h)) (by decide +kernel) q
theorem isi_listT {a : Addr} {xs : List V} (h : H a = some (.tup xs)) (q : Q (.bl false) H) : rIsi K [.ref a, .ty "list"] H Q := i_isi (b := false) (.base (.tup h)) (by decide +kernel) q
theorem isi_tupT {a : Addr} {xs : List V} (h : H a = some (.tup xs)) (q : Q (.bl true) H) : rIsi K [.ref a, .ty "tuple"] H Q := i_isi (b := true) (.base (.tup h)) (by decide +kernel) q
theorem isi_tupL {a : Addr} {xs : List V} (h : H a = some (.lst xs)) (q : Q (.bl false) H) : rIsi K [.ref a, .ty "tuple"] H Q := i_isi (b := false) (.base (.lst h)) (by decide +kernel) q
theorem isi_lt {a tp : Addr} {t : String} (hT : H tp = some (.tup [.ty "list", .ty "tuple"])) (ty : TyX K H (.ref a) (.type t)) (ht : t = "list" ∨ t = "tuple") (q : Q (.bl true) H) : rIsiT K [.ref a, .ref tp] H Q := by
  refine ⟨_, tp, _, _, [.type "list", .type "tuple"], true, rfl, hT, .cons (.ty _) (.cons (.ty _) .nil), ty, ?_, q⟩
  rcases ht with rfl | rfl
  · exact kitAny_cons (b := true) (kit_ty (by decide +kernel)) (fun z => nomatch z) fun _ => rfl
  · exact kitAny_cons (b := false) (kit_ty (by decide +kernel)) (fun _ => kitAny_cons (b := true) (kit_ty (by decide +kernel)) (fun z => nomatch z) fun _ => rfl) fun z => nomatch z
end
section
variable {K : PySem.W.Frag} {H : Hp} {i : Int} {b : Bool} {z : Str} {a : Addr} {xs : List V} {Q : VK}
theorem isi_int_int (q : Q (.bl true) H) : rIsi K [.int i, .ty "int"] H Q := i_isi (b := true) (.base (.int i)) (by decide +kernel) q
theorem isi_int_bool (q : Q (.bl false) H) : rIsi K [.int i, .ty "bool"] H Q := i_isi (b := false) (.base (.int i)) (by decide +kernel) q
theorem isi_int_str (q : Q (.bl false) H) : rIsi K [.int i, .ty "str"] H Q := i_isi (b := false) (.base (.int i)) (by decide +kernel) q
theorem isi_int_list (q : Q (.bl false) H) : rIsi K [.int i, .ty "list"] H Q := i_isi (b := false) (.base (.int i)) (by decide +kernel) q
theorem isi_int_tuple (q : Q (.bl false) H) : rIsi K [.int i, .ty "tuple"] H Q := i_isi (b := false) (.base (.int i)) (by decide +kernel) q
theorem isi_bl_int (q : Q (.bl true) H) : rIsi K [.bl b, .ty "int"] H Q := i_isi (b := true) (.base (.bl b)) (by decide +kernel) q
theorem isi_bl_bool (q : Q (.bl true) H) : rIsi K [.bl b, .ty "bool"] H Q := i_isi (b := true) (.base (.bl b)) (by decide +kernel) q
theorem isi_bl_str (q : Q (.bl false) H) : rIsi K [.bl b, .ty "str"] H Q := i_isi (b := false) (.base (.bl b)) (by decide +kernel) q
theorem isi_bl_list (q : Q (.bl false) H) : rIsi K [.bl b, .ty "list"] H Q := i_isi (b := false) (.base (.bl b)) (by decide +kernel) q
theorem isi_bl_tuple (q : Q (.bl false) H) : rIsi K [.bl b, .ty "tuple"] H Q := i_isi (b := false) (.base (.bl b)) (by decide +kernel) q
theorem isi_str_int (q : Q (.bl false) H) : rIsi K [.str z, .ty "int"] H Q := i_isi (b := false) (.base (.str z)) (by decide +kernel) q
theorem isi_str_bool (q : Q (.bl false) H) : rIsi K [.str z, .ty "bool"] H Q := i_isi (b := false) (.base (.str z)) (by decide +kernel) q
theorem isi_str_str (q : Q (.bl true) H) : rIsi K [.str z, .ty "str"] H Q := i_isi (b := true) (.base (.str z)) (by decide +kernel) q
theorem isi_str_list (q : Q (.bl false) H) : rIsi K [.str z, .ty "list"] H Q := i_isi (b := false) (.base (.str z)) (by decide +kernel) q
theorem isi_str_tuple (q : Q (.bl false) H) : rIsi K [.str z, .ty "tuple"] H Q := i_isi (b := false) (.base (.str z)) (by decide +kernel) q
theorem isi_non_int (q : Q (.bl false) H) : rIsi K [.non, .ty "int"] H Q := i_isi (b := false) (.base (.non)) (by decide +kernel) q
theorem isi_non_bool (q : Q (.bl false) H) : rIsi K [.non, .ty "bool"] H Q := i_isi (b := false) (.base (.non)) (by decide +kernel) q
theorem isi_non_str (q : Q (.bl false) H) : rIsi K [.non, .ty "str"] H Q := i_isi (b := false) (.base (.non)) (by decide +kernel) q
theorem isi_non_list (q : Q (.bl false) H) : rIsi K [.non, .ty "list"] H Q := i_isi (b := false) (.base (.non)) (by decide +kernel) q
theorem isi_non_tuple (q : Q (.bl false) H) : rIsi K [.non, .ty "tuple"] H Q := i_isi (b := false) (.base (.non)) (by decide +kernel) q
theorem isi_lst_int (h : H a = some (.lst xs)) (q : Q (.bl false) H) : rIsi K [.ref a, .ty "int"] H Q := i_isi (b := false) (.base (.lst h)) (by decide +kernel) q
theorem isi_lst_bool (h : H a = some (.lst xs)) (q : Q (.bl false) H) : rIsi K [.ref a, .ty "bool"] H Q := i_isi (b := false) (.base (.lst h)) (by decide +kernel) q
theorem isi_lst_str (h : H a = some (.lst xs)) (q : Q (.bl false) H) : rIsi K [.ref a, .ty "str"] H Q := i_isi (b := false) (.base (.lst h)) (by decide +kernel) q
theorem isi_lst_list (h : H a = some (.lst xs)) (q : Q (.bl true) H) : rIsi K [.ref a, .ty "list"] H Q := i_isi (b := true) (.base (.lst h)) (by decide +kernel) q
theorem isi_lst_tuple (h : H a = some (.lst xs)) (q : Q (.bl false) H) : rIsi K [.ref a, .ty "tuple"] H Q := i_isi (b := false) (.base (.lst h)) (by decide +kernel) q
theorem isi_tup_int (h : H a = some (.tup xs)) (q : Q (.bl false) H) : rIsi K [.ref a, .ty "int"] H Q := i_isi (b := false) (.base (.tup h)) (by decide +kernel) q
theorem isi_tup_bool (h : H a = some (.tup xs)) (q : Q (.bl false) H) : rIsi K [.ref a, .ty "bool"] H Q := i_isi (b := false) (.base (.tup h)) (by decide +kernel) q
theorem isi_tup_str (h : H a = some (.tup xs)) (q : Q (.bl false) H) : rIsi K [.ref a, .ty "str"] H Q := i_isi (b := false) (.base (.tup h)) (by decide +kernel) q
theorem isi_tup_list (h : H a = some (.tup xs)) (q : Q (.bl false) H) : rIsi K [.ref a, .ty "list"] H Q := i_isi (b := false) (.base (.tup h)) (by decide +kernel) q
theorem isi_tup_tuple (h : H a = some (.tup xs)) (q : Q (.bl true) H) : rIsi K [.ref a, .ty "tuple"] H Q := i_isi (b := true) (.base (.tup h)) (by decide +kernel) q
end
/-! ## bs.count(b), a list of bools -/
def isBl (k : Bool) (v : Value) : Bool := match v with
  | .bool b => b == k
  | _ => false
def rCountB (K : PySem.W.Frag) : V → List V → Hp → VK → Prop := fun x xs H Q => ∃ (p : Addr) (bs : List Bool) (k : Bool), x = .ref p ∧ xs = [.bl k] ∧ SqL K H p (bs.map V.bl) ∧ Q (.int (bs.count k : Nat)) H
theorem bools_are : ∀ {bs : List Bool} {us : List Value}, Vals (bs.map V.bl) us → us = bs.map Value.bool
  | [], _, .nil => rfl
  | b :: r, _, .cons h t => by
    cases (show _ = Value.bool b from h)
    rw [bools_are t]
    rfl
theorem bools_count {k : Bool} : ∀ bs : List Bool, (bs.map Value.bool).countP (isBl k) = bs.count k
  | [] => rfl
  | b :: r => by
    rw [List.map_cons, List.countP_cons, List.count_cons, bools_count r]
    rfl
theorem mCountB {X : Cx} : MtR X "list.count" (rCountB X.K) := by
  intro pins s σ H x xs v us Q I rx rxs h
  obtain ⟨p, bs, k, rfl, rfl, hs, q⟩ := h
  cases rx
  obtain ⟨u, rfl, ru⟩ := rxs.one
  cases (show u = Value.bool k from ru)
  obtain ⟨its, rv, ⟨⟨cls, dd, data, sl⟩, n, ho, hc, hdn, hd⟩, hlen⟩ := I.list hs
  simp only at hc hd
  subst hc hd
  have hi := bools_are rv
  refine call_meets PySem.F.slot_list_count ⟨_, ho, rfl⟩ PySem.F.entry_list_count (PySem.F.args_list_count_2 _ _)
    (SeqAt.list_countAt p its.toArray n dd sl (.bool k) (isBl k)) ⟨ho, fun y hy => ?_, ?_⟩
  · have hy2 : y ∈ its := by simpa using hy
    rw [hi] at hy2
    obtain ⟨b, _, rfl⟩ := List.mem_map.mp hy2
    exact SeqAt.EqAt.bool_bool b k
  · have ec : its.toArray.toList.countP (isBl k) = bs.count k := by
      show its.countP (isBl k) = bs.count k
      rw [hi]
      exact bools_count bs
    refine ⟨.int (bs.count k : Nat), H, I.tok _, ⟨s.toks, ?_⟩, q⟩
    show Value.int ((its.toArray.toList.countP (isBl k) : Nat) : Int) s.toks = Value.int ((bs.count k : Nat) : Int) s.toks
    rw [ec]
theorem i_count {K : PySem.W.Frag} {H : Hp} {p : Addr} {bs : List Bool} {k : Bool} {Q : VK} (h : SqL K H p (bs.map V.bl)) (q : Q (.int (bs.count k : Nat)) H) : rCountB K (.ref p) [.bl k] H Q := ⟨p, bs, k, rfl, rfl, h, q⟩
/-- a method of a list -/
theorem i_bmL {K : PySem.W.Frag} {σ : Sl} {H : Hp} {Q : VK} {r : V → List V → Hp → VK → Prop} {to : TE} {t : TA} (q : to σ H fun x H1 => tyV K "list" x H1 ∧ t σ H1 fun xs H2 => r x xs H2 Q) : tBM K "list" r to t σ H Q := q
theorem i_tyL {K : PySem.W.Frag} {H : Hp} {p : Addr} {xs : List V} {P : Prop} (h : SqL K H p xs) (q : P) : tyV K "list" (.ref p) H ∧ P := ⟨.inl ⟨rfl, _, h⟩, q⟩
theorem i_app {H : Hp} {p : Addr} {xs : List V} {v : V} {Q : VK} (h : H p = some (.lst xs)) (hz : xs.length < 16777216) (q : Q .non (upd H p (.lst (xs ++ [v])))) : rAppend (.ref p) [v] H Q := ⟨p, xs, v, rfl, rfl, h, by rw [sizeLine_eq]; exact hz, q⟩
theorem i_slL {K : PySem.W.Frag} {H : Hp} {p : Addr} {xs : List V} {lo hi : Option Int} {Q : VK} (h : SqL K H p xs) (q : ∀ l, H l = none → Q (.ref l) (upd H l (.lst (cutV xs lo hi)))) : rSlL K (.ref p) lo hi H Q := ⟨p, xs, rfl, h, q⟩
theorem i_sl {r : V → Option Int → Option Int → Hp → VK → Prop} {te : TE} {tl th : TO} {σ : Sl} {H : Hp} {Q : VK} (q : te σ H fun x H1 => tl σ H1 fun l H2 => th σ H2 fun u H3 => r x l u H3 Q) : tSl r te tl th σ H Q := q
theorem i_noP {σ : Sl} {H : Hp} {Q : Option Int → Hp → Prop} (q : Q none H) : tNoPart σ H Q := q
theorem i_part {te : TE} {σ : Sl} {H : Hp} {Q : Option Int → Hp → Prop} (q : te σ H fun x H1 => ∃ i, x = .int i ∧ Q (some i) H1) : tPart te σ H Q := q
end NB

/-! NBk: a list comprehension over range(..), walked while an error is handled. -/
namespace NB
open PySem PySem.Spec PyProof.Rows L2
open L2H HotX
/-- one turn, and the end, of a range's iterator: the end wants the handled error at hand -/
structure RgT (P : Program) (w : World) (K : PySem.W.Frag) (tg : Expr) (lo : Int) (n : Nat) (z : Addr) : Prop where
  step : ∀ (Y : Cx), Y.prog = P → Y.w = w → Y.K = K → ∀ (i : Nat) (pl : List (Addr × Obj)) (t : Shared) (τ : L2.St) (G : Hp) (E : Value → Shared → Prop), Inv Y pl τ G t → FpOk Y pl G z → IsRangeIter t.heap z (lo + (i : Nat) * 1) ((n : Int) - (i : Nat)) 1 → i < n →
    wpAny (model P w) Y.A (pyNext (.ref z)) (fun r t1 => ∃ u, r = some u ∧ wpAny (model P w) Y.A (letOwnedTupleGo tg (.ref z) u)
      (fun _ t2 => Inv Y pl τ G t2 ∧ RelV (.int (lo + i)) u ∧ IsRangeIter t2.heap z (lo + ((i + 1 : Nat) : Int) * 1) ((n : Int) - ((i + 1 : Nat) : Int)) 1) E t1) E t
  stop : ∀ (Y : Cx), Y.prog = P → Y.w = w → Y.K = K → ∀ (i : Nat) (pl : List (Addr × Obj)) (t : Shared) (τ : L2.St) (G : Hp) (E : Value → Shared → Prop), (∃ x1, HotAt Y.A x1 t.heap) → Inv Y pl τ G t → FpOk Y pl G z → IsRangeIter t.heap z (lo + (i : Nat) * 1) ((n : Int) - (i : Nat)) 1 → n ≤ i →
    wpAny (model P w) Y.A (pyNext (.ref z)) (fun r t1 => r = none ∧ Inv Y pl τ G t1) E t
theorem rgT {P : Program} {w : World} {K : PySem.W.Frag} {tg : Expr} (z : Addr) (lo : Int) (n : Nat) : RgT P w K tg lo n z where
  step := by
    intro Y h1 h2 h3 i pl t τ G E I f st hi
    subst h1 h2 h3
    obtain ⟨f0, f1, f2, f3, f4, f5⟩ := f
    refine wpAny_pyNext_range_item st (by omega) fun hp' st' sb => ?_
    have e1 : lo + ((i : Nat) : Int) * 1 + 1 = lo + ((i + 1 : Nat) : Int) * 1 := by omega
    have e2 : (n : Int) - ((i : Nat) : Int) - 1 = (n : Int) - ((i + 1 : Nat) : Int) := by omega
    rw [e1, e2] at st'
    have J : Inv Y pl τ G { t with heap := hp', toks := t.toks + 1 } := I.turned (fun b o hb e => (sb.2 b hb).trans e) f0 f1 f3 f4 f5
    refine ⟨_, rfl, go_of (s := { t with heap := hp', toks := t.toks + 1 }) (n := "range_iterator") st' rfl rfl (by decide) ⟨J, ⟨t.toks, ?_⟩, st'⟩⟩
    rw [Int.mul_one]
  stop := by
    intro Y h1 h2 h3 i pl t τ G E hot I f st hi
    subst h1 h2 h3
    obtain ⟨f0, f1, f2, f3, f4, f5⟩ := f
    obtain ⟨x1, ha⟩ := hot
    exact pyNext_range_end_hot ha st (by omega) fun hp' eb => ⟨rfl, I.turned (t' := t.toks) (fun b o _ e => eb b o e) f0 f1 f3 f4 f5⟩
/-- what a range's iterator is, behind its making -/
def MadeR (X : Cx) (pins : List (Addr × Obj)) (σ : L2.St) (H : Hp) (lo : Int) (n : Nat) (v : Value) (t : Shared) : Prop :=
  ∃ z : Addr, v = .ref z ∧ Inv X pins σ H t ∧ FpOk X pins H z ∧ IsRangeIter t.heap z (lo + ((0 : Nat) : Int) * 1) ((n : Int) - ((0 : Nat) : Int)) 1
theorem made_r {X : Cx} {pins : List (Addr × Obj)} {σ : L2.St} {H : Hp} {s : Shared} {E : Value → Shared → Prop} {lo hi : Int} {t u v : Tok} {tk : Nat} (I : Inv X pins σ H s) (h1 : -(2 ^ 62) ≤ lo ∧ lo < 2 ^ 62) (h3 : -(2 ^ 62) ≤ hi ∧ hi < 2 ^ 62) :
    wpAny (model X.prog X.w) X.A (pyIter (.ref s.heap.objs.size)) (MadeR X pins σ H lo (hi - lo).toNat) E { s with heap := s.heap.push { cls := .type "range", data := .fields #[.int lo t, .int hi u, .int 1 v] }, toks := tk } := by
  refine wpAny_pyIter_range (IsRange.new ..) (small_one h1.1 h1.2 h3.1 h3.2) ?_
  have J : Inv X pins σ H { s with heap := s.heap.push { cls := .type "range", data := .fields #[.int lo t, .int hi u, .int 1 v] }, toks := tk } := I.kept fun b o e => Heap.get?_push_of_some _ e
  refine ⟨_, rfl, J.kept (t' := tk) fun b o e => Heap.get?_push_of_some _ e, J.fpOk (Nat.le_refl _) (J.hok.fresh (Nat.le_refl _)), ?_⟩
  have e1 : lo + ((0 : Nat) : Int) * 1 = lo := by simp
  have e2 : (((hi - lo).toNat : Nat) : Int) - ((0 : Nat) : Int) = Builtin.Range.rangeSize lo hi 1 := by rw [rangeSize_one]; split <;> omega
  rw [e1, e2]
  exact Heap.get?_push_size _ rfl
section
variable {X : Cx}
/-- [elt for x in range(a) if ..] where an error is handled -/
theorem pe_lcH {elt tg a : Expr} {ifs : List Expr} {scope : Scope} {own : List (Str × Nat)} {pos ps p2 : Pos} {ta : TA} {g : TG} {tt : TT} {te : TE} (hc : HotC X) (hN : X.N.Nodup) (hgl : Gl X "range") (hm : X.mg "range" = none) (ha : PA X [a] ta)
    (ok : BlkOk X.N X.env.scope scope own)
    (hg : ∀ (s : Shared) (H : Hp) (C : Addr) (cl : List (Str × Addr)) (fp : List Addr), PG (X.blk s H scope (compEnvC scope cl C X.env) fp) tg g)
    (ht : ∀ (s : Shared) (H : Hp) (C : Addr) (cl : List (Str × Addr)) (fp : List Addr), PTs (X.blk s H scope (compEnvC scope cl C X.env) fp) ifs tt)
    (he : ∀ (s : Shared) (H : Hp) (C : Addr) (cl : List (Str × Addr)) (fp : List Addr), PE (X.blk s H scope (compEnvC scope cl C X.env) fp) elt te)
    (hst : starEach [a] X.env = [(false, eval a X.env)] := by rfl)
    (hs : ∀ x, foldedSetIterable (.Call (.Name "range" ps) [a] [] p2) X.env x = pure x := by intro _; rfl) :
    PE X (.ListComp elt [⟨tg, .Call (.Name "range" ps) [a] [] p2, ifs, 0⟩] scope pos) (tLc (iRng1 ta) g tt te (own.map (·.2))) := by
  refine ⟨fun pins s σ H Q I h => ?_⟩
  rw [eval_ListComp]
  have hfree : ∀ y ∈ scope.names, y.2 = .free → ∃ c, X.env.cells.lookup y.1 = some c := fun y hy e => (ok.free y hy e).elim (fun k => I.ok.has _ (.inl k)) fun k => I.ok.has _ (.inr k)
  refine wpAny_comprehension_free (use := none) rfl hs (closure_ok hfree) ok.kind (fun y hy e => by rw [ok.uniq y hy, e]) ?_
  refine Call_ (ld_blt I hgl hm boot_range (PyProof.Rows.callWith_type1 (thn (ha.run p2 pins s σ H _ I h) fun us s1 ⟨vs, H1, I1, r1, q1⟩ => ?_) hst rfl))
  obtain ⟨j, e, b1, b2, q⟩ := q1
  subst e
  cases r1 with
  | cons r rr =>
    cases rr
    obtain ⟨t0, rfl⟩ := r
    refine call_range_1 ?_
    refine thn (made_r (lo := 0) (hi := j) I1 ⟨by omega, by omega⟩ ⟨b1, b2⟩) fun itv s2 h2 => ?_
    obtain ⟨z, e, I2, fz, st2⟩ := h2
    subst e
    rw [Int.sub_zero] at st2
    have RT := rgT (P := X.prog) (w := X.w) (K := X.K) (tg := tg) z 0 j.toNat
    refine wpAny_newObj_type (newEnv_comp ?_) (by show 0 ≤ sizeLine; decide)
    generalize hD : s2.heap.objs.size = D
    have nD : H1 D = none := I2.hok.fresh (Nat.le_of_eq hD)
    obtain ⟨W, ⟨m0, w0⟩, turn⟩ := q D nD
    generalize hs3 : ({ s2 with heap := s2.heap.push { cls := .type "list", data := .seq ([] : List Value).toArray } } : Shared) = s3
    have h3 : s3.heap = s2.heap.push { cls := .type "list", data := .seq ([] : List Value).toArray } := by rw [← hs3]
    have I3 : L2.Inv X pins σ (upd H1 D (.lst [])) s3 := by
      rw [← hs3]
      exact I2.laid (t' := s2.toks) (fun b o e => Heap.get?_push_of_some _ e) (Nat.le_of_eq hD) ⟨Nat.zero_le _, [], 0, .nil, by rw [← hD]; exact Heap.get?_push_size _ rfl⟩
    have zlt : z < s2.heap.objs.size := Heap.lt_size st2
    have f3 : ∀ b ∈ [z], FpOk X pins (upd H1 D (.lst [])) b ∧ b < s3.heap.objs.size := fun b hb => by
      have e := List.mem_singleton.mp hb
      subst e
      refine ⟨⟨?_, fz.2⟩, by rw [h3, Heap.size_push]; exact Nat.lt_succ_of_lt zlt⟩
      rw [upd_ne (by rw [← hD]; exact Nat.ne_of_lt zlt)]
      exact fz.1
    obtain ⟨fz3, _⟩ := f3 z (List.mem_singleton.mpr rfl)
    have st3 : IsRangeIter s3.heap z (0 + ((0 : Nat) : Int) * 1) ((j.toNat : Int) - ((0 : Nat) : Int)) 1 := by
      rw [h3]
      exact Heap.get?_push_of_some _ st2
    have I4 := block_start I3 ok hN f3
    have pg := hg s3 (upd H1 D (.lst [])) s3.heap.objs.size (cellsFrom (s3.heap.objs.size + 1) scope.names (cloFrom X.env.cells scope.names [])) [z]
    have pt := ht s3 (upd H1 D (.lst [])) s3.heap.objs.size (cellsFrom (s3.heap.objs.size + 1) scope.names (cloFrom X.env.cells scope.names [])) [z]
    have pe := he s3 (upd H1 D (.lst [])) s3.heap.objs.size (cellsFrom (s3.heap.objs.size + 1) scope.names (cloFrom X.env.cells scope.names [])) [z]
    show codeAny _ _ (.compStart (.ListComp elt [⟨tg, .Call (.Name "range" ps) [a] [] p2, ifs, 0⟩] scope pos) 0 (.ref z) (.ref D) (compEnvC scope (cellsFrom (s3.heap.objs.size + 1) scope.names (cloFrom X.env.cells scope.names [])) s3.heap.objs.size X.env)) (compPost (model X.prog X.w) X.A X.xe none (EP X pins σ Q) (.ref D) s3.heap.objs.size) { s3 with heap := pushCells (s3.heap.push { cls := .type "dict", data := .dict #[] }) scope.names }
    generalize hce : compEnvC scope (cellsFrom (s3.heap.objs.size + 1) scope.names (cloFrom X.env.cells scope.names [])) s3.heap.objs.size X.env = ce at I4 pg pt pe ⊢
    have cL : ce.locals = s3.heap.objs.size := by subst hce; rfl
    generalize hH3 : upd H1 D (.lst []) = H3 at I3 I4 pg pt pe w0 f3 fz3
    generalize hs4 : ({ s3 with heap := pushCells (s3.heap.push { cls := .type "dict", data := .dict #[] }) scope.names } : Shared) = s4 at I4 ⊢
    have st4 : IsRangeIter s4.heap z (0 + ((0 : Nat) : Int) * 1) ((j.toNat : Int) - ((0 : Nat) : Int)) 1 := by
      rw [← hs4]
      exact pushCells_keeps _ _ _ _ (Heap.get?_push_of_some _ st3)
    have stat : ∀ {τ : L2.St} {G : Hp} {t : Shared}, L2.Inv (X.blk s3 H3 scope ce [z]) [] τ G t → G z = none → FpOk (X.blk s3 H3 scope ce [z]) [] G z := fun J hn =>
      ⟨hn, (J.ok.exf z (List.mem_singleton.mpr rfl)).1, J.ok.exfs z (List.mem_singleton.mpr rfl), .inl (List.mem_singleton.mpr rfl), fun x c e => (J.ok.exf z (List.mem_singleton.mpr rfl)).2 x c e, fun p hp => absurd (show p ∈ ([] : List (Addr × Obj)) ++ [] from hp) (by simp)⟩
    have outer : ∀ {τ : L2.St} {G : Hp} {t : Shared}, L2.Inv (X.blk s3 H3 scope ce [z]) [] τ G t → L2.Inv X pins σ G t := fun J => I3.call' (ch := [z]) J.os J.base J.hok J.bare fun b hb => ⟨(f3 b hb).1.2.2.2.1, (f3 b hb).1.2.1, (f3 b hb).1.2.2.2.2.1, (f3 b hb).1.2.2.2.2.2⟩
    have loop : codeAny (model X.prog X.w) X.A (.compLoop (.ListComp elt [⟨tg, .Call (.Name "range" ps) [a] [] p2, ifs, 0⟩] scope pos) 0 (.ref z) (.ref D) ce) (compPost (model X.prog X.w) X.A X.xe none (EP X pins σ Q) (.ref D) s3.heap.objs.size) s4 := by
      refine compLoop_any (fun n t => ∃ i G, L2.Inv (X.blk s3 H3 scope ce [z]) [] (wipe σ (own.map (·.2))) G t ∧ IsRangeIter t.heap z (0 + ((i : Nat) : Int) * 1) ((j.toNat : Int) - ((i : Nat) : Int)) 1 ∧ G z = none ∧ W i n G) ?_ m0 ⟨0, H3, I4, st4, fz3.1, w0⟩
      rintro n s5 ⟨i, H5, I5, st5, n5, w5⟩
      rcases turn i n H5 w5 with ⟨stop, qq⟩ | ⟨go, Nx, hNx, step⟩
      · obtain hot := hc.at (outer I5)
        have td := RT.stop (X.blk s3 H3 scope ce [z]) rfl rfl rfl i [] s5 _ H5 (fun _ _ => False) hot I5 (stat I5 n5) st5 stop
        refine thnF td fun r s6 ⟨hr, I6⟩ => ?_
        subst hr
        have I7 := outer I6
        have nC : H5 s3.heap.objs.size = none := by
          have z2 : H5 ce.locals = none := I6.free
          rw [cL] at z2
          exact z2
        obtain ⟨m, hn, _⟩ := I6.loc
        have hn2 : s6.heap.Ns ce.locals m := hn
        rw [cL] at hn2
        obtain ⟨f0, f1, f2, f4, f5, f6⟩ := I3.fpOk (H' := H5) (Nat.le_refl _) nC
        exact ⟨m, hn2, fun h2 sb => ⟨.ref D, H5, I7.turned (t' := s6.toks) (fun b o hb e => (sb.2 b hb).trans e) f0 f1 f4 f5 f6, rfl, qq⟩⟩
      · have ti := RT.step (X.blk s3 H3 scope ce [z]) rfl rfl rfl i [] s5 _ H5 (fun _ _ => False) I5 (stat I5 n5) st5 go
        refine thnF ti fun r s6 ⟨u, hr, h6⟩ => ?_
        subst hr
        refine thnF h6 fun _ s7 ⟨I7, r7, st7⟩ => ?_
        have I7p := I7.pinned (fp := [z]) (fun b hb => by rw [List.mem_singleton.mp hb]; exact stat I7 n5) fun b hb => by
          rw [List.mem_singleton.mp hb]
          exact ⟨_, st7, fun v hv => nomatch hv⟩
        refine thnF (pg.run _ s7 _ H5 _ u _ I7p r7 (step _ H5 ⟨rfl, rfl⟩)) fun _ s8 ⟨σ8, H8, I8, hw8, q8⟩ => ?_
        refine thnF (pt.run _ s8 σ8 H8 _ I8 q8) fun b s9 ⟨H9, I9, q9⟩ => ?_
        have fin : ∀ {t : Shared} {G : Hp}, L2.Inv (X.blk s3 H3 scope ce [z]) ([] ++ pinsAt [z] s7.heap) σ8 G t → Nx G → ∃ m, m < n ∧ ∃ i G, L2.Inv (X.blk s3 H3 scope ce [z]) [] (wipe σ (own.map (·.2))) G t ∧ IsRangeIter t.heap z (0 + ((i : Nat) : Int) * 1) ((j.toNat : Int) - ((i : Nat) : Int)) 1 ∧ G z = none ∧ W i m G := fun {t G} J nx => by
          obtain ⟨m2, hm, w2⟩ := hNx G nx
          obtain ⟨k1, k2, _⟩ := J.pin (z, _) (List.mem_append_right _ (List.mem_append_right _ (mem_pinsAt (List.mem_singleton.mpr rfl) st7)))
          have hl : (wipe σ (own.map (·.2))).length = σ8.length := by rw [← hw8, wipe_length]
          refine ⟨m2, hm, i + 1, G, (J.unpinned (pins := [])).weak hl (fun j2 v e => ?_), k1, k2, w2⟩
          rw [← hw8] at e
          exact (wipe_some e).1
        cases b with
        | false =>
          simp only [Bool.false_eq_true, if_false] at q9 ⊢
          exact fin I9 q9
        | true =>
          simp only [if_true] at q9 ⊢
          refine thnF (pe.run _ s9 σ8 H9 _ I9 q9) fun zv s10 ⟨yv, H10, I10, r10, acc, hD10, hz10, nx⟩ => ?_
          exact app_ok (X := X.blk s3 H3 scope ce [z]) I10 hD10 hz10 r10 fun s11 I11 => fin I11 nx
    exact codeAny_compStart_list loop (wpAny_pyIter_rangeiter st4 loop)
end
section
variable {K : PySem.W.Frag} {σ : Sl} {H : Hp} {Q : VK} {te : TE} {a : Addr} {xs : List V} {lo : Int} {n j : Nat} {tt : TT} {ws : List Nat}
/-- [.. for x in range(..) if ..]: f tells of each turn what it adds -/
theorem crf_of (R : Hp → Prop) (f : Nat → Option V) (hn : n ≤ 16000000) (kp : Keeps H R) (hw : ∀ x, wipe ((wipe σ ws).set j (some x)) ws = wipe σ ws)
    (he : ∀ i H2 (Q2 : Option V → Hp → Prop), i < n → R H2 → (∀ H3, R H3 → (Ext H2 H3 ∨ ∀ D o, H D = none → H2 D = some o → H3 D = some o) → Q2 (f i) H3) →
      tt ((wipe σ ws).set j (some (.int (lo + (i : Int))))) H2 fun b H3 => if b = true then te ((wipe σ ws).set j (some (.int (lo + (i : Int))))) H3 (fun y H4 => Q2 (some y) H4) else Q2 none H3)
    (q : ∀ D H2, H D = none → R H2 → H2 D = some (.lst ((List.range n).filterMap f)) → Q (.ref D) H2) : CR (gName j) tt te ws σ lo n H Q := by
  intro D hD
  refine lc_range (fun i H2 => R H2 ∧ H2 D = some (.lst ((List.range i).filterMap f))) ⟨kp.new D _ _ hD kp.start, upd_same⟩ (fun i H2 hi ⟨r, e⟩ => ⟨hw _, ?_⟩) (fun H2 ⟨r, e⟩ => q D H2 hD r e)
  have nx : (List.range (i + 1)).filterMap f = (List.range i).filterMap f ++ (f i).toList := by
    rw [List.range_succ, List.filterMap_append]
    cases hf : f i with
    | none => simp [hf]
    | some y => simp [hf]
  refine he i H2 (fun o H3 => match o with
    | some y => ∃ acc, H3 D = some (.lst acc) ∧ acc.length < sizeLine ∧ (R (upd H3 D (.lst (acc ++ [y]))) ∧ upd H3 D (.lst (acc ++ [y])) D = some (.lst ((List.range (i + 1)).filterMap f)))
    | none => R H3 ∧ H3 D = some (.lst ((List.range (i + 1)).filterMap f))) hi r fun H3 r3 k3 => ?_
  have e3 : H3 D = some (.lst ((List.range i).filterMap f)) := k3.elim (fun k => k _ _ e) fun k => k _ _ hD e
  cases hf : f i with
  | none =>
    rw [hf] at nx
    exact ⟨r3, by rw [nx]; simpa using e3⟩
  | some y =>
    rw [hf] at nx
    refine ⟨_, e3, ?_, kp.new D _ _ hD r3, by rw [nx]; exact upd_same⟩
    have := List.length_filterMap_le f (List.range i)
    rw [List.length_range] at this
    rw [sizeLine_eq]
    omega
/-- the same over a list -/
theorem clf_of (R : Hp → Prop) (f : Nat → V → Option V) (hn : xs.length ≤ 16000000) (kp : Keeps H R) (hl : ∀ H2, R H2 → SqL K H2 a xs) (hw : ∀ x, wipe ((wipe σ ws).set j (some x)) ws = wipe σ ws)
    (he : ∀ i x H2 (Q2 : Option V → Hp → Prop), xs[i]? = some x → R H2 → (∀ H3, R H3 → (Ext H2 H3 ∨ ∀ D o, H D = none → H2 D = some o → H3 D = some o) → Q2 (f i x) H3) →
      tt ((wipe σ ws).set j (some x)) H2 fun b H3 => if b = true then te ((wipe σ ws).set j (some x)) H3 (fun y H4 => Q2 (some y) H4) else Q2 none H3)
    (q : ∀ D H2 ys, H D = none → R H2 → H2 D = some (.lst ys) → ys = (xs.zipIdx.filterMap fun p => f p.2 p.1) → Q (.ref D) H2) : CL K (gName j) tt te ws σ a H Q := by
  intro D hD
  refine lc_list (xs := xs) (fun i H2 => R H2 ∧ H2 D = some (.lst ((xs.take i).zipIdx.filterMap fun p => f p.2 p.1))) ⟨kp.new D _ _ hD kp.start, by simpa using upd_same⟩ (fun i H2 hi ⟨r, _⟩ => hl H2 r) (fun i x H2 hi ⟨r, e⟩ => ⟨hw _, ?_⟩) (fun H2 ⟨r, e⟩ => q D H2 _ hD r e (by rw [List.take_length]))
  have hi2 : i < xs.length := (List.getElem?_eq_some_iff.mp hi).1
  have nx : ((xs.take (i + 1)).zipIdx.filterMap fun p => f p.2 p.1) = ((xs.take i).zipIdx.filterMap fun p => f p.2 p.1) ++ (f i x).toList := by
    rw [List.take_succ, hi]
    show (List.zipIdx (List.take i xs ++ [x])).filterMap (fun p => f p.2 p.1) = _
    rw [List.zipIdx_append, List.filterMap_append]
    have el : 0 + (List.take i xs).length = i := by rw [List.length_take]; omega
    rw [el]
    cases hf : f i x with
    | none => simp [hf]
    | some y => simp [hf]
  refine he i x H2 (fun o H3 => match o with
    | some y => ∃ acc, H3 D = some (.lst acc) ∧ acc.length < sizeLine ∧ (R (upd H3 D (.lst (acc ++ [y]))) ∧ upd H3 D (.lst (acc ++ [y])) D = some (.lst ((xs.take (i + 1)).zipIdx.filterMap fun p => f p.2 p.1)))
    | none => R H3 ∧ H3 D = some (.lst ((xs.take (i + 1)).zipIdx.filterMap fun p => f p.2 p.1))) hi r fun H3 r3 k3 => ?_
  have e3 : H3 D = some (.lst ((xs.take i).zipIdx.filterMap fun p => f p.2 p.1)) := k3.elim (fun k => k _ _ e) fun k => k _ _ hD e
  cases hf : f i x with
  | none =>
    rw [hf] at nx
    exact ⟨r3, by rw [nx]; simpa using e3⟩
  | some y =>
    rw [hf] at nx
    refine ⟨_, e3, ?_, kp.new D _ _ hD r3, by rw [nx]; exact upd_same⟩
    have h2 := List.length_filterMap_le (fun p : V × Nat => f p.2 p.1) (xs.take i).zipIdx
    rw [List.length_zipIdx, List.length_take] at h2
    rw [sizeLine_eq]
    omega
end
open L2H in
theorem pe_callPa {X : Cx} {k : Nat} {f : Addr} {fd : FuncData} {ps : List Str} {sp : Addr → Value → Option Addr → Sp} {c : Value} {d : Option Addr} {x : Str} {q pos : Pos} {e : Expr} {es : List Expr} {t : TA} {a : Addr} {oe : Obj}
    (F : FnP X.prog X.w X.K X.mg X.base k f fd ps sp) (hr : RoomH k X.A) (hot : Hot1 X.A (a, oe)) (hzc : Zc c d oe) (hp : (a, oe) ∈ X.pn) (hg : Gl X x) (hm : X.mg x = some (.ref f)) (hk : PySem.W.keepIn X.K (.ref f) = true) (hb : Binds X.K fd ps [])
    (ha : PA X (e :: es) t) (hdb : (x == ("__debug__" : Str)) = false := by decide)
    (he : starEach (e :: es) X.env = (false, eval e X.env) :: starEach es X.env := by rfl) (hpl : (backTo pos (starEach es X.env)).any (·.1) = false := by rfl) :
    PE X (.Call (.Name x q) (e :: es) [] pos) (tCallP sp a c d t) := pe_callP (p := (a, oe)) F hr hot hzc hp hg hm hk hb ha hdb he hpl
end NB

namespace NB
open PySem PySem.Spec PyProof.Rows L2
open He (ga ma)
/-! ## the text by places -/
def top (i : Nat) : Stmt := PySem.Challenge.pw_noisebound_k07_rotating_a_lane.main.body.getD i (.Pass ⟨0, 0, 0, 0⟩)
abbrev s_OutOfRange___init__ : Stmt := inClass (top 2) 0
theorem sc_OutOfRange___init__ : FnScope ["self", "name"] ["self", "name"] (defScope s_OutOfRange___init__) := ⟨rfl, rfl, rfl, by decide +kernel, rfl, by decide +kernel, by decide +kernel⟩
def d_OutOfRange___init__ : He.DefD := ⟨("OutOfRange", some "__init__"), "__init__", "OutOfRange.__init__", defArgs s_OutOfRange___init__, defBody s_OutOfRange___init__, defScope s_OutOfRange___init__, [], []⟩
abbrev s_is_integer : Stmt := top 22
theorem sc_is_integer : FnScope ["value"] ["value"] (defScope s_is_integer) := ⟨rfl, rfl, rfl, by decide +kernel, rfl, by decide +kernel, by decide +kernel⟩
def d_is_integer : He.DefD := ⟨("is_integer", none), "is_integer", "is_integer", defArgs s_is_integer, defBody s_is_integer, defScope s_is_integer, [], []⟩
abbrev s_need_integer : Stmt := top 23
theorem sc_need_integer : FnScope ["value", "low", "high", "name"] ["value", "low", "high", "name"] (defScope s_need_integer) := ⟨rfl, rfl, rfl, by decide +kernel, rfl, by decide +kernel, by decide +kernel⟩
def d_need_integer : He.DefD := ⟨("need_integer", none), "need_integer", "need_integer", defArgs s_need_integer, defBody s_need_integer, defScope s_need_integer, [], []⟩
abbrev s_rotated : Stmt := top 24
theorem sc_rotated : FnScope ["lane", "count"] ["lane", "count"] (defScope s_rotated) := ⟨rfl, rfl, rfl, by decide +kernel, rfl, by decide +kernel, by decide +kernel⟩
def d_rotated : He.DefD := ⟨("rotated", none), "rotated", "rotated", defArgs s_rotated, defBody s_rotated, defScope s_rotated, [], []⟩
abbrev s_rotate : Stmt := top 25
theorem sc_rotate : FnScope ["lane", "count"] ["lane", "count"] (defScope s_rotate) := ⟨rfl, rfl, rfl, by decide +kernel, rfl, by decide +kernel, by decide +kernel⟩
def d_rotate : He.DefD := ⟨("rotate", none), "rotate", "rotate", defArgs s_rotate, defBody s_rotate, defScope s_rotate, [], []⟩
abbrev s_law_begin : Stmt := top 27
theorem sc_law_begin : FnScope ["_law_script"] ["_law_script"] (defScope s_law_begin) := ⟨rfl, rfl, rfl, by decide +kernel, rfl, by decide +kernel, by decide +kernel⟩
def d_law_begin : He.DefD := ⟨("_law_begin", none), "_law_begin", "_law_begin", defArgs s_law_begin, defBody s_law_begin, defScope s_law_begin, [], []⟩
abbrev s_law_mixed : Stmt := top 28
theorem sc_law_mixed : FnScope ["_law_seed", "_law_turn", "_law_number"] ["_law_seed", "_law_turn"] (defScope s_law_mixed) := ⟨rfl, rfl, rfl, by decide +kernel, rfl, by decide +kernel, by decide +kernel⟩
def d_law_mixed : He.DefD := ⟨("_law_mixed", none), "_law_mixed", "_law_mixed", defArgs s_law_mixed, defBody s_law_mixed, defScope s_law_mixed, [], []⟩
abbrev s_law_take : Stmt := top 29
theorem sc_law_take : FnScope ["_law_store", "_law_many", "_law_limit", "_law_cell", "_law_rest"] ["_law_store", "_law_many"] (defScope s_law_take) := ⟨rfl, rfl, rfl, by decide +kernel, rfl, by decide +kernel, by decide +kernel⟩
def d_law_take : He.DefD := ⟨("_law_take", none), "_law_take", "_law_take", defArgs s_law_take, defBody s_law_take, defScope s_law_take, [], []⟩
abbrev s_law_wide : Stmt := top 30
theorem sc_law_wide : FnScope ["_law_store", "_law_many", "_law_limit", "_law_number", "_law_span", "_law_turn"] ["_law_store", "_law_many"] (defScope s_law_wide) := ⟨rfl, rfl, rfl, by decide +kernel, rfl, by decide +kernel, by decide +kernel⟩
def d_law_wide : He.DefD := ⟨("_law_wide", none), "_law_wide", "_law_wide", defArgs s_law_wide, defBody s_law_wide, defScope s_law_wide, [], []⟩
abbrev s_law_pick : Stmt := top 31
theorem sc_law_pick : FnScope ["_law_store", "_law_row"] ["_law_store", "_law_row"] (defScope s_law_pick) := ⟨rfl, rfl, rfl, by decide +kernel, rfl, by decide +kernel, by decide +kernel⟩
def d_law_pick : He.DefD := ⟨("_law_pick", none), "_law_pick", "_law_pick", defArgs s_law_pick, defBody s_law_pick, defScope s_law_pick, [], []⟩
abbrev s_law_between : Stmt := top 32
theorem sc_law_between : FnScope ["_law_store", "_law_low", "_law_high", "_law_span"] ["_law_store", "_law_low", "_law_high"] (defScope s_law_between) := ⟨rfl, rfl, rfl, by decide +kernel, rfl, by decide +kernel, by decide +kernel⟩
def d_law_between : He.DefD := ⟨("_law_between", none), "_law_between", "_law_between", defArgs s_law_between, defBody s_law_between, defScope s_law_between, [], []⟩
abbrev s_law_other : Stmt := top 33
theorem sc_law_other : FnScope ["_law_store"] ["_law_store"] (defScope s_law_other) := ⟨rfl, rfl, rfl, by decide +kernel, rfl, by decide +kernel, by decide +kernel⟩
def d_law_other : He.DefD := ⟨("_law_other", none), "_law_other", "_law_other", defArgs s_law_other, defBody s_law_other, defScope s_law_other, [], []⟩
abbrev s_law_beyond : Stmt := top 34
theorem sc_law_beyond : FnScope ["_law_store", "_law_low", "_law_high", "_law_kind"] ["_law_store", "_law_low", "_law_high"] (defScope s_law_beyond) := ⟨rfl, rfl, rfl, by decide +kernel, rfl, by decide +kernel, by decide +kernel⟩
def d_law_beyond : He.DefD := ⟨("_law_beyond", none), "_law_beyond", "_law_beyond", defArgs s_law_beyond, defBody s_law_beyond, defScope s_law_beyond, [], []⟩
abbrev s_law_same : Stmt := top 35
theorem sc_law_same : FnScope ["_law_actual", "_law_expected", "_law_at"] ["_law_actual", "_law_expected"] (defScope s_law_same) := ⟨rfl, rfl, rfl, by decide +kernel, rfl, by decide +kernel, by decide +kernel⟩
def d_law_same : He.DefD := ⟨("_law_same", none), "_law_same", "_law_same", defArgs s_law_same, defBody s_law_same, defScope s_law_same, [], []⟩
abbrev s_law_kin : Stmt := top 36
theorem sc_law_kin : FnScope ["_law_error", "_law_flags", "_law_words", "_law_at"] ["_law_error"] (defScope s_law_kin) := ⟨rfl, rfl, rfl, by decide +kernel, rfl, by decide +kernel, by decide +kernel⟩
def d_law_kin : He.DefD := ⟨("_law_kin", none), "_law_kin", "_law_kin", defArgs s_law_kin, defBody s_law_kin, defScope s_law_kin, [], []⟩
abbrev s_law_refusal : Stmt := top 37
theorem sc_law_refusal : FnScope ["_law_error", "_law_kin_here"] ["_law_error"] (defScope s_law_refusal) := ⟨rfl, rfl, rfl, by decide +kernel, rfl, by decide +kernel, by decide +kernel⟩
def d_law_refusal : He.DefD := ⟨("_law_refusal", none), "_law_refusal", "_law_refusal", defArgs s_law_refusal, defBody s_law_refusal, defScope s_law_refusal, [], []⟩
abbrev s_law_lane : Stmt := top 38
theorem sc_law_lane : FnScope ["_law_store", "_law_kind"] ["_law_store"] (defScope s_law_lane) := ⟨rfl, rfl, rfl, by decide +kernel, rfl, by decide +kernel, by decide +kernel⟩
def d_law_lane : He.DefD := ⟨("_law_lane", none), "_law_lane", "_law_lane", defArgs s_law_lane, defBody s_law_lane, defScope s_law_lane, [], []⟩
abbrev s_law_rot : Stmt := top 39
theorem sc_law_rot : FnScope ["_law_lane_here", "_law_count", "_law_number", "_law_bit"] ["_law_lane_here", "_law_count"] (defScope s_law_rot) := ⟨rfl, rfl, rfl, by decide +kernel, rfl, by decide +kernel, by decide +kernel⟩
def d_law_rot : He.DefD := ⟨("_law_rot", none), "_law_rot", "_law_rot", defArgs s_law_rot, defBody s_law_rot, defScope s_law_rot, [], []⟩
abbrev s_law_told : Stmt := top 40
theorem sc_law_told : FnScope ["_law_lane_here", "_law_many", "_law_error"] ["_law_lane_here", "_law_many"] (defScope s_law_told) := ⟨rfl, rfl, rfl, by decide +kernel, rfl, by decide +kernel, by decide +kernel⟩
def d_law_told : He.DefD := ⟨("_law_told", none), "_law_told", "_law_told", defArgs s_law_told, defBody s_law_told, defScope s_law_told, [], []⟩
abbrev s_law_longest : Stmt := top 41
theorem sc_law_longest : FnScope ["_law_number", "_law_turn"] [] (defScope s_law_longest) := ⟨rfl, rfl, rfl, by decide +kernel, rfl, by decide +kernel, by decide +kernel⟩
def d_law_longest : He.DefD := ⟨("_law_longest", none), "_law_longest", "_law_longest", defArgs s_law_longest, defBody s_law_longest, defScope s_law_longest, [], []⟩
abbrev s_law : Stmt := top 42
theorem sc_law : FnScope ["_law_script", "_law_store", "_law_ones", "_law_lanes", "_law_counts", "_law_lane_here", "_law_great", "_law_strange", "_law_far", "_law_many", "_law_due", "_law_back"] ["_law_script"] (defScope s_law) := ⟨rfl, rfl, rfl, by decide +kernel, rfl, by decide +kernel, by decide +kernel⟩
def d_law : He.DefD := ⟨("law", none), "law", "law", defArgs s_law, defBody s_law, defScope s_law, [], []⟩
def fn : List He.DefD := [
  d_OutOfRange___init__, d_is_integer, d_need_integer, d_rotated, d_rotate, d_law_begin, d_law_mixed, d_law_take,
  d_law_wide, d_law_pick, d_law_between, d_law_other, d_law_beyond, d_law_same, d_law_kin, d_law_refusal,
  d_law_lane, d_law_rot, d_law_told, d_law_longest, d_law]
def fa : List He.Fa := [
  .glo "NoiseboundError", .glo "OutOfRange", .glo "BadItem", .glo "BadLength", .glo "BadText", .glo "BadPadding",
  .glo "WrongPhase", .glo "NotInvertible", .glo "BadRing", .glo "BadParameters", .glo "UnknownName", .glo "DifferentRings",
  .glo "BadKey", .glo "BadLetter", .glo "BadKeyText", .glo "BadRecord", .glo "BadCommand", .glo "NoEntry",
  .glo "NothingLeft", .glo "is_integer", .glo "need_integer", .glo "rotated", .glo "rotate", .glo "_law_begin",
  .glo "_law_mixed", .glo "_law_take", .glo "_law_wide", .glo "_law_pick", .glo "_law_between", .glo "_law_other",
  .glo "_law_beyond", .glo "_law_same", .glo "_law_kin", .glo "_law_refusal", .glo "_law_lane", .glo "_law_rot",
  .glo "_law_told", .glo "_law_longest", .glo "law", .free "ValueError", .free "bool", .free "int",
  .free "isinstance", .free "len", .free "list", .free "max", .free "range", .free "str",
  .free "tuple", .int "LARGEST" 18446744073709551615]
def errNames : List Str := [
  "NoiseboundError", "OutOfRange", "BadItem", "BadLength", "BadText", "BadPadding", "WrongPhase", "NotInvertible",
  "BadRing", "BadParameters", "UnknownName", "DifferentRings", "BadKey", "BadLetter", "BadKeyText", "BadRecord",
  "BadCommand", "NoEntry", "NothingLeft"]
def exB (K : PySem.W.Frag) : Bool :=
  errB K errNames "NoiseboundError" "OutOfRange" ["name"]
structure Txt (K : PySem.W.Frag) (mg : Str → Option Value) : Prop where
  d : He.SaysD fa fn K
  g_NoiseboundError : mg "NoiseboundError" = some (.ref (ga K "NoiseboundError"))
  g_OutOfRange : mg "OutOfRange" = some (.ref (ga K "OutOfRange"))
  g_BadItem : mg "BadItem" = some (.ref (ga K "BadItem"))
  g_BadLength : mg "BadLength" = some (.ref (ga K "BadLength"))
  g_BadText : mg "BadText" = some (.ref (ga K "BadText"))
  g_BadPadding : mg "BadPadding" = some (.ref (ga K "BadPadding"))
  g_WrongPhase : mg "WrongPhase" = some (.ref (ga K "WrongPhase"))
  g_NotInvertible : mg "NotInvertible" = some (.ref (ga K "NotInvertible"))
  g_BadRing : mg "BadRing" = some (.ref (ga K "BadRing"))
  g_BadParameters : mg "BadParameters" = some (.ref (ga K "BadParameters"))
  g_UnknownName : mg "UnknownName" = some (.ref (ga K "UnknownName"))
  g_DifferentRings : mg "DifferentRings" = some (.ref (ga K "DifferentRings"))
  g_BadKey : mg "BadKey" = some (.ref (ga K "BadKey"))
  g_BadLetter : mg "BadLetter" = some (.ref (ga K "BadLetter"))
  g_BadKeyText : mg "BadKeyText" = some (.ref (ga K "BadKeyText"))
  g_BadRecord : mg "BadRecord" = some (.ref (ga K "BadRecord"))
  g_BadCommand : mg "BadCommand" = some (.ref (ga K "BadCommand"))
  g_NoEntry : mg "NoEntry" = some (.ref (ga K "NoEntry"))
  g_NothingLeft : mg "NothingLeft" = some (.ref (ga K "NothingLeft"))
  g_is_integer : mg "is_integer" = some (.ref (ga K "is_integer"))
  g_need_integer : mg "need_integer" = some (.ref (ga K "need_integer"))
  g_rotated : mg "rotated" = some (.ref (ga K "rotated"))
  g_rotate : mg "rotate" = some (.ref (ga K "rotate"))
  g__law_begin : mg "_law_begin" = some (.ref (ga K "_law_begin"))
  g__law_mixed : mg "_law_mixed" = some (.ref (ga K "_law_mixed"))
  g__law_take : mg "_law_take" = some (.ref (ga K "_law_take"))
  g__law_wide : mg "_law_wide" = some (.ref (ga K "_law_wide"))
  g__law_pick : mg "_law_pick" = some (.ref (ga K "_law_pick"))
  g__law_between : mg "_law_between" = some (.ref (ga K "_law_between"))
  g__law_other : mg "_law_other" = some (.ref (ga K "_law_other"))
  g__law_beyond : mg "_law_beyond" = some (.ref (ga K "_law_beyond"))
  g__law_same : mg "_law_same" = some (.ref (ga K "_law_same"))
  g__law_kin : mg "_law_kin" = some (.ref (ga K "_law_kin"))
  g__law_refusal : mg "_law_refusal" = some (.ref (ga K "_law_refusal"))
  g__law_lane : mg "_law_lane" = some (.ref (ga K "_law_lane"))
  g__law_rot : mg "_law_rot" = some (.ref (ga K "_law_rot"))
  g__law_told : mg "_law_told" = some (.ref (ga K "_law_told"))
  g__law_longest : mg "_law_longest" = some (.ref (ga K "_law_longest"))
  g_law : mg "law" = some (.ref (ga K "law"))
  b_ValueError : mg "ValueError" = none
  b_bool : mg "bool" = none
  b_int : mg "int" = none
  b_isinstance : mg "isinstance" = none
  b_len : mg "len" = none
  b_list : mg "list" = none
  b_max : mg "max" = none
  b_range : mg "range" = none
  b_str : mg "str" = none
  b_tuple : mg "tuple" = none
  c_LARGEST : ∃ t, mg "LARGEST" = some (.int 18446744073709551615 t)
  e_OutOfRange : ErrT K errNames "NoiseboundError" "OutOfRange" ["name"]
theorem txt_of {K : PySem.W.Frag} {h : Heap} {mg : Str → Option Value} (X : K.In h) (G : h.Ns mainGlobals mg) (c : He.SaysD fa fn K) (e : exB K = true) : Txt K mg := by
  unfold exB at e
  have e0 := e
  exact {
    d := c
    g_NoiseboundError := He.glo_ok X G (c.fact 0 rfl)
    g_OutOfRange := He.glo_ok X G (c.fact 1 rfl)
    g_BadItem := He.glo_ok X G (c.fact 2 rfl)
    g_BadLength := He.glo_ok X G (c.fact 3 rfl)
    g_BadText := He.glo_ok X G (c.fact 4 rfl)
    g_BadPadding := He.glo_ok X G (c.fact 5 rfl)
    g_WrongPhase := He.glo_ok X G (c.fact 6 rfl)
    g_NotInvertible := He.glo_ok X G (c.fact 7 rfl)
    g_BadRing := He.glo_ok X G (c.fact 8 rfl)
    g_BadParameters := He.glo_ok X G (c.fact 9 rfl)
    g_UnknownName := He.glo_ok X G (c.fact 10 rfl)
    g_DifferentRings := He.glo_ok X G (c.fact 11 rfl)
    g_BadKey := He.glo_ok X G (c.fact 12 rfl)
    g_BadLetter := He.glo_ok X G (c.fact 13 rfl)
    g_BadKeyText := He.glo_ok X G (c.fact 14 rfl)
    g_BadRecord := He.glo_ok X G (c.fact 15 rfl)
    g_BadCommand := He.glo_ok X G (c.fact 16 rfl)
    g_NoEntry := He.glo_ok X G (c.fact 17 rfl)
    g_NothingLeft := He.glo_ok X G (c.fact 18 rfl)
    g_is_integer := He.glo_ok X G (c.fact 19 rfl)
    g_need_integer := He.glo_ok X G (c.fact 20 rfl)
    g_rotated := He.glo_ok X G (c.fact 21 rfl)
    g_rotate := He.glo_ok X G (c.fact 22 rfl)
    g__law_begin := He.glo_ok X G (c.fact 23 rfl)
    g__law_mixed := He.glo_ok X G (c.fact 24 rfl)
    g__law_take := He.glo_ok X G (c.fact 25 rfl)
    g__law_wide := He.glo_ok X G (c.fact 26 rfl)
    g__law_pick := He.glo_ok X G (c.fact 27 rfl)
    g__law_between := He.glo_ok X G (c.fact 28 rfl)
    g__law_other := He.glo_ok X G (c.fact 29 rfl)
    g__law_beyond := He.glo_ok X G (c.fact 30 rfl)
    g__law_same := He.glo_ok X G (c.fact 31 rfl)
    g__law_kin := He.glo_ok X G (c.fact 32 rfl)
    g__law_refusal := He.glo_ok X G (c.fact 33 rfl)
    g__law_lane := He.glo_ok X G (c.fact 34 rfl)
    g__law_rot := He.glo_ok X G (c.fact 35 rfl)
    g__law_told := He.glo_ok X G (c.fact 36 rfl)
    g__law_longest := He.glo_ok X G (c.fact 37 rfl)
    g_law := He.glo_ok X G (c.fact 38 rfl)
    b_ValueError := He.free_ok X G (c.fact 39 rfl)
    b_bool := He.free_ok X G (c.fact 40 rfl)
    b_int := He.free_ok X G (c.fact 41 rfl)
    b_isinstance := He.free_ok X G (c.fact 42 rfl)
    b_len := He.free_ok X G (c.fact 43 rfl)
    b_list := He.free_ok X G (c.fact 44 rfl)
    b_max := He.free_ok X G (c.fact 45 rfl)
    b_range := He.free_ok X G (c.fact 46 rfl)
    b_str := He.free_ok X G (c.fact 47 rfl)
    b_tuple := He.free_ok X G (c.fact 48 rfl)
    c_LARGEST := He.int_ok X G (c.fact 49 rfl)
    e_OutOfRange := errB_ok e0
  }
end NB

namespace NB
open PySem PySem.Spec PyProof.Rows L2
open He (ga ma)
local macro_rules | `(tactic| walk_at "nb.side") => `(tactic| first
  | assumption
  | decide
  | omega
  | exact mulR (by omega) (by omega)
  | exact mulL (by omega) (by omega)
  | exact divS (by omega) (by omega)
  | exact powS (by omega) (by omega) (by omega) (by omega)
  | exact shlS (by omega) (by omega) (by omega) (by omega))
local macro_rules | `(tactic| walk_at "nb.len") => `(tactic| first
  | decide
  | (simp only [List.length_cons, List.length_nil, List.length_append, List.length_map, List.length_replicate]; first | decide | omega)
  | (refine ⟨?_, ?_⟩ <;> (simp only [List.length_cons, List.length_nil, List.length_append, List.length_map, List.length_replicate]; first | decide | omega)))
local macro_rules | `(tactic| walk_at "nb.hp") => `(tactic| first
  | assumption
  | exact upd_same
  | ((with_reducible apply upd_old); (focus first | assumption | walk_at "nb.free"); walk_at "nb.hp")
  | ((with_reducible apply upd_other); (focus first | assumption | exact Ne.symm (by assumption)); walk_at "nb.hp")
  | ((with_reducible apply ext_at); (focus assumption); walk_at "nb.hp")
  | ((with_reducible apply exX_at); (focus assumption); (focus first | assumption | exact Ne.symm (by assumption)); walk_at "nb.hp"))
local macro_rules | `(tactic| walk_at "nb.free") => `(tactic| first
  | assumption
  | ((with_reducible apply upd_free); assumption)
  | ((with_reducible apply ext_free); (focus assumption); first | assumption | ((with_reducible apply upd_free); assumption))
  | ((with_reducible apply upd_free); with_reducible apply upd_free; assumption)
  | ((with_reducible apply upd_free); with_reducible apply ext_free; (focus assumption); assumption))
local macro_rules | `(tactic| walk_at "nb.sq") => `(tactic| first
  | assumption
  | ((with_reducible apply sqL_of); walk_at "nb.hp")
  | ((with_reducible apply sqT_of); walk_at "nb.hp")
  | ((with_reducible apply sqL_ext); (focus assumption); walk_at "nb.sq")
  | ((with_reducible apply sqT_ext); (focus assumption); walk_at "nb.sq")
  | ((with_reducible apply sqL_upd); (focus first | assumption | walk_at "nb.free"); walk_at "nb.sq"))
local macro_rules | `(tactic| walk_at "nb.isi") => `(tactic| first
  | with_reducible refine isi_int_int ?_
  | with_reducible refine isi_int_bool ?_
  | with_reducible refine isi_int_str ?_
  | with_reducible refine isi_int_list ?_
  | with_reducible refine isi_int_tuple ?_
  | with_reducible refine isi_bl_int ?_
  | with_reducible refine isi_bl_bool ?_
  | with_reducible refine isi_bl_str ?_
  | with_reducible refine isi_bl_list ?_
  | with_reducible refine isi_bl_tuple ?_
  | with_reducible refine isi_str_int ?_
  | with_reducible refine isi_str_bool ?_
  | with_reducible refine isi_str_str ?_
  | with_reducible refine isi_str_list ?_
  | with_reducible refine isi_str_tuple ?_
  | with_reducible refine isi_non_int ?_
  | with_reducible refine isi_non_bool ?_
  | with_reducible refine isi_non_str ?_
  | with_reducible refine isi_non_list ?_
  | with_reducible refine isi_non_tuple ?_
  | ((with_reducible apply isi_lst_int); (focus walk_at "nb.hp"))
  | ((with_reducible apply isi_lst_bool); (focus walk_at "nb.hp"))
  | ((with_reducible apply isi_lst_str); (focus walk_at "nb.hp"))
  | ((with_reducible apply isi_lst_list); (focus walk_at "nb.hp"))
  | ((with_reducible apply isi_lst_tuple); (focus walk_at "nb.hp"))
  | ((with_reducible apply isi_tup_int); (focus walk_at "nb.hp"))
  | ((with_reducible apply isi_tup_bool); (focus walk_at "nb.hp"))
  | ((with_reducible apply isi_tup_str); (focus walk_at "nb.hp"))
  | ((with_reducible apply isi_tup_list); (focus walk_at "nb.hp"))
  | ((with_reducible apply isi_tup_tuple); (focus walk_at "nb.hp")))
local macro_rules | `(tactic| walk_at "nb.s") => `(tactic| repeat (first
  | with_reducible refine i_var rfl ?_
  | with_reducible refine i_c ?_
  | with_reducible refine i_op ?_
  | with_reducible refine i_cons ?_
  | with_reducible refine i_nil ?_
  | with_reducible refine i_seq ?_
  | with_reducible refine i_asg ?_
  | with_reducible refine i_name ?_
  | with_reducible refine i_if ?_
  | with_reducible refine i_test ?_
  | with_reducible refine i_bl ?_
  | with_reducible refine i_cb ?_
  | with_reducible refine i_ret ?_
  | with_reducible refine i_next ?_
  | with_reducible refine i_call ?_
  | with_reducible refine i_callS ?_
  | with_reducible refine i_callP ?_
  | with_reducible refine i_kw ?_
  | with_reducible refine i_errF ?_
  | with_reducible refine i_kwP ?_
  | with_reducible refine i_T ?_
  | with_reducible refine i_F ?_
  | with_reducible refine i_nT ?_
  | with_reducible refine i_nF ?_
  | with_reducible refine i_add ?_
  | with_reducible refine i_sub ?_
  | with_reducible refine i_mul (by walk_at "nb.side") ?_
  | with_reducible refine i_div (by walk_at "nb.side") ?_
  | with_reducible refine i_mod (by walk_at "nb.side") ?_
  | with_reducible refine i_lt ?_
  | with_reducible refine i_le ?_
  | with_reducible refine i_gt ?_
  | with_reducible refine i_ge ?_
  | with_reducible refine i_eqI ?_
  | with_reducible refine i_neI ?_
  | with_reducible refine i_eqS ?_
  | with_reducible refine i_eqB ?_
  | with_reducible refine i_and2 ?_
  | with_reducible refine i_or2 ?_
  | with_reducible refine i_not ?_
  | with_reducible refine i_andV ?_
  | with_reducible refine i_orV ?_
  | with_reducible refine i_notV ?_
  | with_reducible refine i_B ?_
  | with_reducible refine i_un ?_
  | with_reducible refine i_neg ?_
  | with_reducible refine i_pow (by walk_at "nb.side") ?_
  | with_reducible refine i_shl (by walk_at "nb.side") ?_
  | with_reducible refine i_shr (by walk_at "nb.side") ?_
  | with_reducible refine i_and ?_
  | with_reducible refine i_or ?_
  | with_reducible refine i_xor ?_
  | with_reducible refine i_max2 ?_
  | with_reducible refine i_min2 ?_
  | with_reducible refine i_abs ?_
  | with_reducible refine i_int ?_
  | with_reducible refine i_intB ?_
  | with_reducible refine i_isN ?_
  | with_reducible refine i_isB ?_
  | with_reducible refine i_ifE ?_
  | with_reducible refine i_chain ?_
  | with_reducible refine i_brk ?_
  | with_reducible refine i_drop ?_
  | with_reducible refine i_sub1 ?_
  | with_reducible refine i_tup ?_
  | with_reducible refine i_lst ?_
  | with_reducible refine i_size (by walk_at "nb.len") ?_
  | with_reducible refine i_mkO ?_
  | with_reducible refine i_inv ?_
  | with_reducible refine i_forR1 ?_
  | with_reducible refine i_forR2 ?_
  | with_reducible refine i_forL ?_
  | with_reducible refine i_lcR1 ?_
  | with_reducible refine i_lcR2 ?_
  | with_reducible refine i_lcL ?_
  | with_reducible refine i_lrg ?_
  | with_reducible refine i_rg1 ?_
  | with_reducible refine i_rg2 ?_
  | with_reducible refine i_bits ?_
  | with_reducible refine i_bmL ?_
  | with_reducible refine i_sl ?_
  | with_reducible refine i_noP ?_
  | with_reducible refine i_part ?_
  | with_reducible refine i_isInt ?_
  | with_reducible refine i_isInt2 ?_
  | ((with_reducible apply i_ixL0); (focus walk_at "nb.sq"))
  | ((with_reducible apply i_ixT0); (focus walk_at "nb.sq"))
  | ((with_reducible apply i_set0); (focus walk_at "nb.hp"))
  | ((with_reducible apply i_ixL1); (focus walk_at "nb.sq"))
  | ((with_reducible apply i_ixT1); (focus walk_at "nb.sq"))
  | ((with_reducible apply i_set1); (focus walk_at "nb.hp"))
  | ((with_reducible apply i_ixL2); (focus walk_at "nb.sq"))
  | ((with_reducible apply i_ixT2); (focus walk_at "nb.sq"))
  | ((with_reducible apply i_set2); (focus walk_at "nb.hp"))
  | ((with_reducible apply i_ixL3); (focus walk_at "nb.sq"))
  | ((with_reducible apply i_ixT3); (focus walk_at "nb.sq"))
  | ((with_reducible apply i_set3); (focus walk_at "nb.hp"))
  | ((with_reducible apply i_ixL4); (focus walk_at "nb.sq"))
  | ((with_reducible apply i_ixT4); (focus walk_at "nb.sq"))
  | ((with_reducible apply i_set4); (focus walk_at "nb.hp"))
  | ((with_reducible apply i_ixL5); (focus walk_at "nb.sq"))
  | ((with_reducible apply i_ixT5); (focus walk_at "nb.sq"))
  | ((with_reducible apply i_set5); (focus walk_at "nb.hp"))
  | ((with_reducible apply i_ixL6); (focus walk_at "nb.sq"))
  | ((with_reducible apply i_ixT6); (focus walk_at "nb.sq"))
  | ((with_reducible apply i_ixL7); (focus walk_at "nb.sq"))
  | ((with_reducible apply i_ixT7); (focus walk_at "nb.sq"))
  | ((with_reducible apply i_lenL); (focus walk_at "nb.sq"))
  | ((with_reducible apply i_tyL); (focus walk_at "nb.sq"))
  | (refine (id (α := rIsi _ _ _ _) ?_); walk_at "nb.isi")
  | ((with_reducible apply i_lenT); (focus walk_at "nb.sq"))))
section
variable {P : Program} {w : World} {K : PySem.W.Frag} {mg : Str → Option Value} {base : Heap}
theorem len_OutOfRange___init__ {vs : List V} {H : Hp} {Q : VK} {E : XK} (h : spInit1 (ga K "OutOfRange") "name" vs H Q E) : vs.length = 2 := by
  obtain ⟨a, v, rfl, _⟩ := h
  rfl
theorem ok_OutOfRange___init__ (T : Txt K mg) : Good P w K mg base 1 (ma K (ga K "OutOfRange") "__init__") ["self", "name"] (spInit1 (ga K "OutOfRange") "name") := by
  obtain ⟨fd, F⟩ := T.d.def_ 0 (d := d_OutOfRange___init__) rfl
  have b := F.bindsN (ps := ["self", "name"]) fun _ _ _ _ _ _ us hl => match us, hl with | [_, _], _ => rfl
  refine ⟨fd, F.ok sc_OutOfRange___init__ (fun vs H Q E h => len_OutOfRange___init__ h) (fun cdv A outer s H vs Q E hr h => ⟨_, PSs.nox ((pss_one (ps_ost (pv 0) (pv 1)))), ?_⟩), b, F.kp, fun_at F⟩
  obtain ⟨a, v, rfl, ha, k⟩ := h
  exact ⟨_, rfl, _, rfl, a, _, rfl, T.e_OutOfRange.o, T.e_OutOfRange.n _ (by decide), .inl ⟨ha, fun dx hn ne => k dx hn ne⟩⟩
/-- the law's store of draws, at st -/
abbrev StoreAt (H : Hp) (st l : Addr) : Prop := ∃ (ns : List Int) (c1 c2 c3 c4 c5 : Int), H st = some (.lst [.ref l, .int c1, .int c2, .int c3, .int c4, .int c5]) ∧ l ≠ st ∧ H l = some (.lst (ns.map V.int)) ∧ 0 ≤ c1
def StoreOk (H : Hp) (st : Addr) : Prop := ∃ l : Addr, StoreAt H st l
theorem StoreAt.ext {H H' : Hp} {st l : Addr} (e : Ext H H') (h : StoreAt H st l) : StoreAt H' st l := by
  obtain ⟨ns, c1, c2, c3, c4, c5, h1, h2, h3, h4⟩ := h
  exact ⟨ns, c1, c2, c3, c4, c5, e _ _ h1, h2, e _ _ h3, h4⟩
theorem StoreOk.ext {H H' : Hp} {st : Addr} (e : Ext H H') (h : StoreOk H st) : StoreOk H' st := by
  obtain ⟨l, ns, c1, c2, c3, c4, c5, h1, h2, h3, h4⟩ := h
  exact ⟨l, ns, c1, c2, c3, c4, c5, e _ _ h1, h2, e _ _ h3, h4⟩
theorem StoreOk.some {H : Hp} {st : Addr} (h : StoreOk H st) : ∃ o, H st = Option.some o := by
  obtain ⟨l, ns, c1, c2, c3, c4, c5, h1, _⟩ := h
  exact ⟨_, h1⟩
theorem StoreOk.ne {H : Hp} {st p : Addr} (h : StoreOk H st) (n : H p = none) : p ≠ st := by
  obtain ⟨o, e⟩ := h.some
  exact (ne_of_none e n).symm
theorem StoreOk.upd {H : Hp} {st p : Addr} {o : HO} (h : StoreOk H st) (n : H p = none) : StoreOk (L2.upd H p o) st := h.ext (Ext.new n)
/-- a def that draws: what it leaves -/
structure Drew (H : Hp) (st : Addr) (H' : Hp) : Prop where
  x : ExX st H H'
  o : StoreOk H' st
  l : ∀ l, StoreAt H st l → StoreAt H' st l
theorem Drew.trans {H H1 H2 : Hp} {st : Addr} (a : Drew H st H1) (b : Drew H1 st H2) : Drew H st H2 := ⟨a.1.trans b.1, b.2, fun l h => b.3 l (a.3 l h)⟩
theorem Drew.then {H H1 H2 : Hp} {st : Addr} (a : Drew H st H1) (b : Ext H1 H2) : Drew H st H2 := ⟨a.1.ext b, a.2.ext b, fun l h => (a.3 l h).ext b⟩
theorem Drew.refl {H : Hp} {st : Addr} (h : StoreOk H st) : Drew H st H := ⟨.refl _ _, h, fun _ h => h⟩
theorem Drew.of {H H' : Hp} {st : Addr} (h : StoreOk H st) (e : Ext H H') : Drew H st H' := (Drew.refl h).then e
theorem Drew.mk' {H H' : Hp} {st l : Addr} {r : List V} (h1 : H st = Option.some (.lst (.ref l :: r))) (x : ExX st H H') (a : StoreAt H' st l) : Drew H st H' := ⟨x, ⟨l, a⟩, fun l' h' => by
  obtain ⟨ns, c1, c2, c3, c4, c5, e, _⟩ := h'
  rw [h1] at e
  cases e
  exact a⟩
theorem Drew.ne {H H' : Hp} {st p : Addr} (d : Drew H st H') (n : H' p = none) : p ≠ st := d.2.ne n
/-- a new list at the end of what was drawn -/
theorem Drew.new {H H' : Hp} {st p : Addr} {o : HO} (d : Drew H st H') (n : H' p = none) : Drew H st (L2.upd H' p o) := d.then (.new n)
theorem Drew.mut {H H' : Hp} {st D : Addr} {o : HO} (ho : StoreOk H st) (d : Drew H st H') (hD : H D = none) : Drew H st (L2.upd H' D o) := by
  obtain ⟨l, hl⟩ := ho
  have hne : D ≠ st := StoreOk.ne ⟨l, hl⟩ hD
  obtain ⟨ns0, _, _, _, _, _, h1, _, h3, _⟩ := _root_.id hl
  obtain ⟨ns, c1, c2, c3, c4, c5, g1, g2, g3, g4⟩ := d.3 l hl
  refine Drew.mk' h1 (d.1.mut hD) ⟨ns, c1, c2, c3, c4, c5, ?_, g2, ?_, g4⟩
  · rw [upd_ne hne.symm]
    exact g1
  · rw [upd_ne (ne_of_none h3 hD)]
    exact g3
theorem keeps_drew {H : Hp} {st : Addr} (ho : StoreOk H st) : Keeps H (Drew H st) := ⟨.refl ho, fun D H' o hD d => d.mut ho hD⟩
def spBegin (K : PySem.W.Frag) : Sp := fun vs H Q _ => ∃ (a : Addr) (ns : List Int), vs = [.ref a] ∧ SqL K H a (ns.map V.int) ∧ ∀ st H', Ext H H' → H st = none → StoreOk H' st → Q (.ref st) H' 
theorem len_law_begin {K : PySem.W.Frag} {vs : List V} {H : Hp} {Q : VK} {E : XK} (h : spBegin K vs H Q E) : vs.length = 1 := by
  obtain ⟨_, _, rfl, _⟩ := h
  rfl
theorem ok_law_begin (T : Txt K mg) : Good P w K mg base 1 (ga K "_law_begin") ["_law_script"] (spBegin K) := by
  obtain ⟨fd, F⟩ := T.d.def_ 5 (d := d_law_begin) rfl
  have b := F.bindsN (ps := ["_law_script"]) fun _ _ _ _ _ _ us hl => match us, hl with | [_], _ => rfl
  refine ⟨fd, F.ok sc_law_begin (fun vs H Q E h => len_law_begin h) (fun cdv A outer s H vs Q E hr h => ⟨_, PSs.nox ((pss_one (ps_ret (pe_lst (pa_cons (pe_callTy (kList) (by rfl) T.b_list (by decide +kernel) (pa_cons (pv 0) pa_nil)) (pa_cons pe_int (pa_cons pe_int (pa_cons pe_int (pa_cons pe_int (pa_cons pe_int pa_nil)))))))))), ?_⟩), b, F.kp, fun_at F⟩
  obtain ⟨a, ns, rfl, hS, k⟩ := h
  walk_at "nb.s"
  refine i_listL hS fun l hl => ?_
  walk_at "nb.s"
  refine fun p hp => ?_
  have e1 : Ext H (upd H l (.lst (ns.map V.int))) := .new hl
  refine k p _ (e1.trans (.new hp)) (e1.free hp) ⟨l, ns, _, _, _, _, _, upd_same, ?_, upd_old hp upd_same, ?_⟩
  · exact ne_of_none upd_same hp
  · decide
def spMixed : Sp := fun vs H Q _ => ∃ (a b : Int), vs = [.int a, .int b] ∧ ∀ n : Int, 0 ≤ n → n < 2305843009213693951 → Q (.int n) H
theorem len_law_mixed {vs : List V} {H : Hp} {Q : VK} {E : XK} (h : spMixed vs H Q E) : vs.length = 2 := by
  obtain ⟨_, _, rfl, _⟩ := h
  rfl
theorem ok_law_mixed (T : Txt K mg) : Good P w K mg base 1 (ga K "_law_mixed") ["_law_seed", "_law_turn"] spMixed := by
  obtain ⟨fd, F⟩ := T.d.def_ 6 (d := d_law_mixed) rfl
  have b := F.bindsN (ps := ["_law_seed", "_law_turn"]) fun _ _ _ _ _ _ us hl => match us, hl with | [_, _], _ => rfl
  refine ⟨fd, F.ok sc_law_mixed (fun vs H Q E h => len_law_mixed h) (fun cdv A outer s H vs Q E hr h => ⟨_, PSs.nox ((pss_cons (ps_set (i := 2) sc_law_mixed.nd rfl (Or.inl rfl) (pe_op oAdd (pe_op oMul (pe_op oMod (pe_callTy (kInt) (by rfl) T.b_int (by decide +kernel) (pa_cons (pv 0) pa_nil)) pe_int) pe_int) (pe_op oMul (pe_op oMod (pe_callTy (kInt) (by rfl) T.b_int (by decide +kernel) (pa_cons (pv 1) pa_nil)) pe_int) pe_int))) (pss_cons (ps_set (i := 2) sc_law_mixed.nd rfl (Or.inl rfl) (pe_op oMod (pe_callTy (kInt) (by rfl) T.b_int (by decide +kernel) (pa_cons (pe_op oAdd (pv 2) pe_int) pa_nil)) pe_int)) (pss_cons (ps_set (i := 2) sc_law_mixed.nd rfl (Or.inl rfl) (pe_op oMul (pe_op oXor (pv 2) (pe_op oDiv (pv 2) pe_int)) pe_int)) (pss_cons (ps_set (i := 2) sc_law_mixed.nd rfl (Or.inl rfl) (pe_op oMod (pe_callTy (kInt) (by rfl) T.b_int (by decide +kernel) (pa_cons (pv 2) pa_nil)) pe_int)) (pss_cons (ps_set (i := 2) sc_law_mixed.nd rfl (Or.inl rfl) (pe_op oMul (pe_op oXor (pv 2) (pe_op oDiv (pv 2) pe_int)) pe_int)) (pss_one (ps_ret (pe_op oMod (pe_callTy (kInt) (by rfl) T.b_int (by decide +kernel) (pa_cons (pv 2) pa_nil)) pe_int))))))))), ?_⟩), b, F.kp, fun_at F⟩
  obtain ⟨a, b, rfl, k⟩ := h
  have z0 : ∀ i : Int, 0 ≤ i % 2305843009213693951 := fun i => Int.emod_nonneg _ (by decide)
  have z1 : ∀ i : Int, i % 2305843009213693951 < 2305843009213693951 := fun i => Int.emod_lt_of_pos _ (by decide)
  walk_at "nb.s"
  exact k _ (z0 _) (z1 _)
theorem max1 (m : Int) : 0 < (if m > 1 then m else 1) := by split <;> omega
theorem if_neg_or_pos {m : Int} (h : 0 < m) : (if m > 1 then m else 1) = m := by split <;> omega
def drawMax : Int := 2 ^ 8000
theorem draw_small {m : Int} (h : m ≤ 2 ^ 64) : m ≤ drawMax := by
  have e : (2 : Int) ^ 64 ≤ 2 ^ 8000 := by decide +kernel
  exact Int.le_trans h e
theorem draw_div {m i : Int} (hm : m ≤ drawMax) : CDivW i (if m > 1 then m else 1) := divL (b := 8001) (max1 m) (by
  have e : (2 : Int) ^ 8001 = 2 ^ 8000 * 2 := Int.pow_succ _ _
  have p0 : (0 : Int) < 2 ^ 8000 := Int.pow_pos (by decide)
  unfold drawMax at hm
  rw [e]
  generalize (2 : Int) ^ 8000 = z at hm p0
  split <;> omega) (by decide) (by decide)
/-- the greatest draw that is asked at once has fewer bits than this -/
def spTake : Sp := fun vs H Q _ => ∃ (st : Addr) (many : Int), vs = [.ref st, .int many] ∧ StoreOk H st ∧ many ≤ drawMax ∧ ∀ (n : Int) H', Drew H st H' → 0 ≤ n → n < (if many > 1 then many else 1) → Q (.int n) H'
theorem use_take {st : Addr} {many : Int} {H : Hp} {Q : VK} {E : XK} (h : StoreOk H st) (hm : many ≤ drawMax) (q : ∀ (n : Int) H', Drew H st H' → 0 ≤ n → n < (if many > 1 then many else 1) → Q (.int n) H') : spTake [.ref st, .int many] H Q E := ⟨st, many, rfl, h, hm, q⟩
theorem store_set {H : Hp} {st l : Addr} {ns : List Int} {c1 c2 c3 c4 c5 : Int} (h2 : l ≠ st) (h3 : H l = some (.lst (ns.map V.int))) (h0 : 0 ≤ c1) : StoreAt (upd H st (.lst [.ref l, .int c1, .int c2, .int c3, .int c4, .int c5])) st l :=
  ⟨ns, c1, c2, c3, c4, c5, upd_same, h2, by rw [upd_ne h2]; exact h3, h0⟩
theorem len_law_take {vs : List V} {H : Hp} {Q : VK} {E : XK} (h : spTake vs H Q E) : vs.length = 2 := by
  obtain ⟨_, _, rfl, _⟩ := h
  rfl
theorem ok_law_take (T : Txt K mg) : Good P w K mg base 2 (ga K "_law_take") ["_law_store", "_law_many"] spTake := by
  obtain ⟨fd, F⟩ := T.d.def_ 7 (d := d_law_take) rfl
  have b := F.bindsN (ps := ["_law_store", "_law_many"]) fun _ _ _ _ _ _ us hl => match us, hl with | [_, _], _ => rfl
  obtain ⟨f_law_mixed, G_law_mixed, b_law_mixed, k_law_mixed, l_law_mixed⟩ := ok_law_mixed (P := P) (w := w) (base := base) T
  refine ⟨fd, F.ok sc_law_take (fun vs H Q E h => len_law_take h) (fun cdv A outer s H vs Q E hr h => ⟨_, PSs.nox ((pss_cons (ps_set (i := 2) sc_law_take.nd rfl (Or.inl rfl) (pe_callB (kMax2 rfl) (by rfl) T.b_max (by decide +kernel) (pa_cons pe_int (pa_cons (pv 1) pa_nil)))) (pss_cons (ps_asg (pe_op oAdd (pe_ix ix_list (pv 0) pe_int (fun _ _ => rfl)) pe_int) (pg_sub (pv 0) pe_int set_list)) (Evl.pss_cut (ps_if (PW.pt (pw_and (pt_cmpR op_eq (pe_ix ix_list (pv 0) pe_int (fun _ _ => rfl)) pe_int (nomark _)) (pw_and (pt_cmpR op_eq (pe_ix ix_list (pv 0) pe_int (fun _ _ => rfl)) pe_int (nomark _)) (pw_and1 (pt_cmpR oLt (pe_ix ix_list (pv 0) pe_int (fun _ _ => rfl)) (pe_callB (kLen) (by rfl) T.b_len (by decide +kernel) (pa_cons (pe_ix ix_list (pv 0) pe_int (fun _ _ => rfl)) pa_nil)) (nomark _)))))) (pss_cons (ps_set (i := 3) sc_law_take.nd rfl (Or.inl rfl) (pe_callTy (kInt) (by rfl) T.b_int (by decide +kernel) (pa_cons (pe_ix ix_list (pe_ix ix_list (pv 0) pe_int (fun _ _ => rfl)) (pe_ix ix_list (pv 0) pe_int (fun _ _ => rfl)) (fun _ _ => rfl)) pa_nil))) (pss_cons (ps_asg (pe_op oAdd (pe_ix ix_list (pv 0) pe_int (fun _ _ => rfl)) pe_int) (pg_sub (pv 0) pe_int set_list)) (pss_cons (ps_asg (pe_op oMod (pe_callTy (kInt) (by rfl) T.b_int (by decide +kernel) (pa_cons (pe_op oAdd (pe_op oAdd (pe_op oMul (pe_callTy (kInt) (by rfl) T.b_int (by decide +kernel) (pa_cons (pe_ix ix_list (pv 0) pe_int (fun _ _ => rfl)) pa_nil)) pe_int) (pe_op oMod (pe_callTy (kInt) (by rfl) T.b_int (by decide +kernel) (pa_cons (pv 3) pa_nil)) pe_int)) pe_int) pa_nil)) pe_int) (pg_sub (pv 0) pe_int set_list)) (pss_one (ps_if (pt_cmpR oGe (pv 3) (pe_powC (v := 1000000000000000000) pe_int pe_int (powS (by decide) (by decide) (by decide) (by decide)) (by decide +kernel)) (nomark _)) (pss_one (ps_asg (pv 3) (pg_sub (pv 0) pe_int set_list))) (pss_one (ps_asg pe_int (pg_sub (pv 0) pe_int set_list)))))))) pss_nil) (pss_cons (ps_if (pt_cmpR oGt (pe_ix ix_list (pv 0) pe_int (fun _ _ => rfl)) pe_int (nomark _)) (pss_cons (ps_set (i := 4) sc_law_take.nd rfl (Or.inl rfl) (pe_callTy (kInt) (by rfl) T.b_int (by decide +kernel) (pa_cons (pe_ix ix_list (pv 0) pe_int (fun _ _ => rfl)) pa_nil))) (pss_cons (ps_asg (pe_op oDiv (pv 4) (pv 2)) (pg_sub (pv 0) pe_int set_list)) (pss_one (ps_ret (pe_op oMod (pe_callTy (kInt) (by rfl) T.b_int (by decide +kernel) (pa_cons (pv 4) pa_nil)) (pv 2)))))) pss_nil) (Evl.pss_cut (ps_if (pt_cmpR oGt (pe_ix ix_list (pv 0) pe_int (fun _ _ => rfl)) pe_int (nomark _)) (pss_one (ps_asg (pe_op oSub (pe_ix ix_list (pv 0) pe_int (fun _ _ => rfl)) pe_int) (pg_sub (pv 0) pe_int set_list))) pss_nil) (pss_one (ps_ret (pe_op oMod (pe_callTy (kInt) (by rfl) T.b_int (by decide +kernel) (pa_cons (pe_call G_law_mixed (hr.mono (by decide)) rfl T.g__law_mixed k_law_mixed b_law_mixed .nil passN (pa_cons (pe_ix ix_list (pv 0) pe_int (fun _ _ => rfl)) (pa_cons (pe_ix ix_list (pv 0) pe_int (fun _ _ => rfl)) pa_nil))) pa_nil)) (pv 2)))))))))), ?_⟩), b, F.kp, fun_at F⟩
  obtain ⟨st, many, rfl, ⟨l, ns, c1, c2, c3, c4, c5, h1, hne, h3, h0⟩, hm, k⟩ := h
  have hp := max1 many
  have hdiv : ∀ i : Int, CDivW i (if many > 1 then many else 1) := fun i => draw_div hm
  have hr0 : ∀ i : Int, 0 ≤ i % (if many > 1 then many else 1) := fun i => Int.emod_nonneg _ (by omega)
  have hr1 : ∀ i : Int, i % (if many > 1 then many else 1) < (if many > 1 then many else 1) := fun i => Int.emod_lt_of_pos _ hp
  walk_at "nb.s"
  generalize (if many > 1 then many else 1) = lim at *
  refine ⟨fun σ' H' => ∃ v3 d1 d2 d3 d4 d5, σ' = [some (.ref st), some (.int many), some (.int lim), v3, none] ∧ 0 ≤ d1 ∧ H' st = some (.lst [.ref l, .int d1, .int d2, .int d3, .int d4, .int d5]) ∧ ExX st H H', ?_, ?_⟩
  · have e0 : ∀ o, ExX st H (upd H st o) := fun o => (ExX.refl st H).upd
    walk_at "nb.s"
    refine i_ite (fun h2 => ?_) (fun h2 => ?_)
    · walk_at "nb.s"
      refine i_ite (fun h3 => ?_) (fun h3 => ?_)
      · walk_at "nb.s"
        refine i_ite (fun h4 => ?_) (fun h4 => ?_)
        · obtain ⟨m, rfl⟩ := Int.eq_ofNat_of_zero_le h0
          rw [List.length_map] at h4
          have hm4 : m < ns.length := by omega
          have hx : atI (ns.map V.int) (m : Int) = some (.int (ns[m]'hm4)) := by
            unfold atI
            rw [List.length_map, Evl.ixN_nat hm4, Option.bind_some, List.getElem?_map, List.getElem?_eq_getElem hm4]
            rfl
          walk_at "nb.s"
          refine i_ixL (by walk_at "nb.sq") hx ?_
          walk_at "nb.s"
          refine i_ite (fun h5 => ?_) (fun h5 => ?_)
          · walk_at "nb.s"
            exact ⟨_, _, _, _, _, _, rfl, by omega, upd_same, ((((e0 _).upd).upd).upd)⟩
          · walk_at "nb.s"
            exact ⟨_, _, _, _, _, _, rfl, by omega, upd_same, ((((e0 _).upd).upd).upd)⟩
        · walk_at "nb.s"
          exact ⟨_, _, _, _, _, _, rfl, by omega, upd_same, e0 _⟩
      · walk_at "nb.s"
        exact ⟨_, _, _, _, _, _, rfl, by omega, upd_same, e0 _⟩
    · walk_at "nb.s"
      exact ⟨_, _, _, _, _, _, rfl, by omega, upd_same, e0 _⟩
  · rintro σ' H' ⟨v3, d1, d2, d3, d4, d5, rfl, hd1, hs, x⟩
    walk_at "nb.s"
    refine i_ite (fun h2 => ?_) (fun h2 => ?_)
    · walk_at "nb.s"
      refine i_div (hdiv _) ?_
      walk_at "nb.s"
      exact k _ _ (Drew.mk' h1 x.upd (store_set hne (x _ _ hne h3) hd1)) (hr0 _) (hr1 _)
    · walk_at "nb.s"
      refine ⟨fun σ2 H2 => ∃ d3, σ2 = [some (.ref st), some (.int many), some (.int lim), v3, none] ∧ H2 st = some (.lst [.ref l, .int d1, .int d2, .int d3, .int d4, .int d5]) ∧ ExX st H H2, ?_, ?_⟩
      · walk_at "nb.s"
        refine i_ite (fun h3 => ?_) (fun h3 => ?_)
        · walk_at "nb.s"
          exact ⟨_, rfl, upd_same, x.upd⟩
        · walk_at "nb.s"
          exact ⟨_, rfl, hs, x⟩
      · rintro σ2 H2 ⟨d3, rfl, hs, x⟩
        walk_at "nb.s"
        refine ⟨_, _, rfl, fun n z0 z1 => ?_⟩
        walk_at "nb.s"
        exact k _ _ (Drew.mk' h1 x ⟨ns, d1, d2, d3, d4, d5, hs, hne, x _ _ hne h3, hd1⟩) (hr0 _) (hr1 _)
def spWide : Sp := fun vs H Q _ => ∃ (st : Addr) (many : Int), vs = [.ref st, .int many] ∧ StoreOk H st ∧ ∀ (n : Int) H', Drew H st H' → 0 ≤ n → n < (if many > 1 then many else 1) → Q (.int n) H'
theorem len_law_wide {vs : List V} {H : Hp} {Q : VK} {E : XK} (h : spWide vs H Q E) : vs.length = 2 := by
  obtain ⟨_, _, rfl, _⟩ := h
  rfl
theorem ok_law_wide (T : Txt K mg) : Good P w K mg base 3 (ga K "_law_wide") ["_law_store", "_law_many"] spWide := by
  obtain ⟨fd, F⟩ := T.d.def_ 8 (d := d_law_wide) rfl
  have b := F.bindsN (ps := ["_law_store", "_law_many"]) fun _ _ _ _ _ _ us hl => match us, hl with | [_, _], _ => rfl
  obtain ⟨f_law_take, G_law_take, b_law_take, k_law_take, l_law_take⟩ := ok_law_take (P := P) (w := w) (base := base) T
  refine ⟨fd, F.ok sc_law_wide (fun vs H Q E h => len_law_wide h) (fun cdv A outer s H vs Q E hr h => ⟨_, PSs.nox ((pss_cons (ps_set (i := 2) sc_law_wide.nd rfl (Or.inl rfl) (pe_callB (kMax2 rfl) (by rfl) T.b_max (by decide +kernel) (pa_cons pe_int (pa_cons (pv 1) pa_nil)))) (pss_cons (ps_if (pt_cmpR oLe (pv 2) (pe_powC (v := 1000000000000000) pe_int pe_int (powS (by decide) (by decide) (by decide) (by decide)) (by decide +kernel)) (nomark _)) (pss_one (ps_ret (pe_call G_law_take (hr.mono (by decide)) rfl T.g__law_take k_law_take b_law_take .nil passN (pa_cons (pv 0) (pa_cons (pv 2) pa_nil))))) pss_nil) (pss_cons (ps_set (i := 3) sc_law_wide.nd rfl (Or.inl rfl) pe_int) (pss_cons (ps_set (i := 4) sc_law_wide.nd rfl (Or.inl rfl) pe_int) (pss_cons (ps_for PassesOwn.never rfl (pi_range1 rfl T.b_range (pa_cons pe_int pa_nil)) (pg_name (i := 5) sc_law_wide.nd rfl (Or.inl rfl)) (pss_cons (ps_if (pt_cmpR oGe (pv 4) (pv 2) (nomark _)) (pss_one ps_break) pss_nil) (pss_cons (ps_set (i := 3) sc_law_wide.nd rfl (Or.inl rfl) (pe_op oAdd (pe_op oMul (pv 3) (pe_powC (v := 1000000000000000) pe_int pe_int (powS (by decide) (by decide) (by decide) (by decide)) (by decide +kernel))) (pe_call G_law_take (hr.mono (by decide)) rfl T.g__law_take k_law_take b_law_take .nil passN (pa_cons (pv 0) (pa_cons (pe_powC (v := 1000000000000000) pe_int pe_int (powS (by decide) (by decide) (by decide) (by decide)) (by decide +kernel)) pa_nil))))) (pss_one (ps_set (i := 4) sc_law_wide.nd rfl (Or.inl rfl) (pe_op oMul (pv 4) (pe_powC (v := 1000000000000000) pe_int pe_int (powS (by decide) (by decide) (by decide) (by decide)) (by decide +kernel)))))))) (pss_one (ps_ret (pe_op oMod (pe_callTy (kInt) (by rfl) T.b_int (by decide +kernel) (pa_cons (pv 3) pa_nil)) (pv 2)))))))))), ?_⟩), b, F.kp, fun_at F⟩
  obtain ⟨st, many, rfl, ho, k⟩ := h
  have hp := max1 many
  have hr0 : ∀ i : Int, 0 ≤ i % (if many > 1 then many else 1) := fun i => Int.emod_nonneg _ (by omega)
  have hr1 : ∀ i : Int, i % (if many > 1 then many else 1) < (if many > 1 then many else 1) := fun i => Int.emod_lt_of_pos _ hp
  walk_at "nb.s"
  generalize (if many > 1 then many else 1) = lim at *
  refine i_ite (fun h2 => ?_) (fun h2 => ?_)
  · walk_at "nb.s"
    refine use_take ho (draw_small (by omega)) fun n H' d h0 h1 => k n H' d h0 ?_
    rw [if_neg_or_pos hp] at h1
    exact h1
  · walk_at "nb.s"
    refine i_rng1 (by decide) (by decide) ?_
    refine fr_of (fun i σ' H' => ∃ (a b : Int) (v : Option V), σ' = [some (.ref st), some (.int many), some (.int lim), some (.int a), some (.int b), v] ∧ Drew H st H') ⟨_, _, _, rfl, .refl ho⟩ ?_ ?_
    · rintro i σ' H' hi ⟨a, b, v, rfl, d⟩
      walk_at "nb.s"
      refine i_ite (fun h3 => ?_) (fun h3 => ?_)
      · walk_at "nb.s"
        exact k _ _ d (hr0 _) (hr1 _)
      · walk_at "nb.s"
        refine use_take d.2 (by exact draw_small (by decide)) fun n H2 d2 _ _ => ?_
        walk_at "nb.s"
        exact ⟨_, _, _, rfl, d.trans d2⟩
    · rintro σ' H' ⟨a, b, v, rfl, d⟩
      walk_at "nb.s"
      exact k _ _ d (hr0 _) (hr1 _)
theorem use_wide {st : Addr} {many : Int} {H : Hp} {Q : VK} {E : XK} (h : StoreOk H st) (q : ∀ (n : Int) H', Drew H st H' → 0 ≤ n → n < (if many > 1 then many else 1) → Q (.int n) H') : spWide [.ref st, .int many] H Q E := ⟨st, many, rfl, h, q⟩
def spPick (K : PySem.W.Frag) : Sp := fun vs H Q _ => ∃ (st p : Addr) (xs : List V), vs = [.ref st, .ref p] ∧ StoreOk H st ∧ SqL K H p xs ∧ p ≠ st ∧ 0 < xs.length ∧ xs.length ≤ 1000000 ∧ ∀ (i : Nat) (v : V) H', xs[i]? = some v → Drew H st H' → Q v H'
theorem use_pick {st p : Addr} {xs : List V} {H : Hp} {Q : VK} {E : XK} (h : StoreOk H st) (hx : SqL K H p xs) (hne : p ≠ st) (h0 : 0 < xs.length) (h1 : xs.length ≤ 1000000) (q : ∀ (i : Nat) (v : V) H', xs[i]? = some v → Drew H st H' → Q v H') : spPick K [.ref st, .ref p] H Q E :=
  ⟨st, p, xs, rfl, h, hx, hne, h0, h1, q⟩
/-- the row is new -/
theorem use_pickN {st p : Addr} {xs : List V} {H : Hp} {Q : VK} {E : XK} (h : StoreOk H st) (hp : H p = none) (h0 : 0 < xs.length ∧ xs.length ≤ 1000000) (q : ∀ (i : Nat) (v : V) H', xs[i]? = some v → Drew H st H' → Q v H') : spPick K [.ref st, .ref p] (upd H p (.lst xs)) Q E :=
  use_pick (h.upd hp) (sqL_of upd_same) (h.ne hp) h0.1 h0.2 fun i v H' hi d => q i v H' hi ((Drew.of h (.new hp)).trans d)
theorem len_law_pick {K : PySem.W.Frag} {vs : List V} {H : Hp} {Q : VK} {E : XK} (h : spPick K vs H Q E) : vs.length = 2 := by
  obtain ⟨_, _, _, rfl, _⟩ := h
  rfl
theorem ok_law_pick (T : Txt K mg) : Good P w K mg base 3 (ga K "_law_pick") ["_law_store", "_law_row"] (spPick K) := by
  obtain ⟨fd, F⟩ := T.d.def_ 9 (d := d_law_pick) rfl
  have b := F.bindsN (ps := ["_law_store", "_law_row"]) fun _ _ _ _ _ _ us hl => match us, hl with | [_, _], _ => rfl
  obtain ⟨f_law_take, G_law_take, b_law_take, k_law_take, l_law_take⟩ := ok_law_take (P := P) (w := w) (base := base) T
  refine ⟨fd, F.ok sc_law_pick (fun vs H Q E h => len_law_pick h) (fun cdv A outer s H vs Q E hr h => ⟨_, PSs.nox ((pss_one (ps_ret (pe_ix ix_list (pv 1) (pe_call G_law_take (hr.mono (by decide)) rfl T.g__law_take k_law_take b_law_take .nil passN (pa_cons (pv 0) (pa_cons (pe_callB (kLen) (by rfl) T.b_len (by decide +kernel) (pa_cons (pv 1) pa_nil)) pa_nil))) (fun _ _ => rfl))))), ?_⟩), b, F.kp, fun_at F⟩
  obtain ⟨st, p, xs, rfl, ho, hx, hne, h0, h1, k⟩ := h
  walk_at "nb.s"
  refine use_take ho (draw_small (by omega)) fun n H' d z0 z1 => ?_
  obtain ⟨m, rfl⟩ := Int.eq_ofNat_of_zero_le z0
  have hm : m < xs.length := by split at z1 <;> omega
  exact i_ixL (sqL_exX d.1 hne hx) (Evl_at (List.getElem?_eq_getElem hm)) (k m _ _ (List.getElem?_eq_getElem hm) d)
def spBetween : Sp := fun vs H Q _ => ∃ (st : Addr) (lo hi : Int), vs = [.ref st, .int lo, .int hi] ∧ StoreOk H st ∧ ∀ (n : Int) H', Drew H st H' → lo ≤ n → (n ≤ hi ∨ n = lo) → Q (.int n) H'
theorem use_between {st : Addr} {lo hi : Int} {H : Hp} {Q : VK} {E : XK} (h : StoreOk H st) (q : ∀ (n : Int) H', Drew H st H' → lo ≤ n → (n ≤ hi ∨ n = lo) → Q (.int n) H') : spBetween [.ref st, .int lo, .int hi] H Q E := ⟨st, lo, hi, rfl, h, q⟩
theorem len_law_between {vs : List V} {H : Hp} {Q : VK} {E : XK} (h : spBetween vs H Q E) : vs.length = 3 := by
  obtain ⟨_, _, _, rfl, _⟩ := h
  rfl
theorem ok_law_between (T : Txt K mg) : Good P w K mg base 4 (ga K "_law_between") ["_law_store", "_law_low", "_law_high"] spBetween := by
  obtain ⟨fd, F⟩ := T.d.def_ 10 (d := d_law_between) rfl
  have b := F.bindsN (ps := ["_law_store", "_law_low", "_law_high"]) fun _ _ _ _ _ _ us hl => match us, hl with | [_, _, _], _ => rfl
  obtain ⟨f_law_wide, G_law_wide, b_law_wide, k_law_wide, l_law_wide⟩ := ok_law_wide (P := P) (w := w) (base := base) T
  obtain ⟨f_law_take, G_law_take, b_law_take, k_law_take, l_law_take⟩ := ok_law_take (P := P) (w := w) (base := base) T
  obtain ⟨f_law_pick, G_law_pick, b_law_pick, k_law_pick, l_law_pick⟩ := ok_law_pick (P := P) (w := w) (base := base) T
  refine ⟨fd, F.ok sc_law_between (fun vs H Q E h => len_law_between h) (fun cdv A outer s H vs Q E hr h => ⟨_, PSs.nox ((pss_cons (ps_set (i := 3) sc_law_between.nd rfl (Or.inl rfl) (pe_callB (kMax2 rfl) (by rfl) T.b_max (by decide +kernel) (pa_cons pe_int (pa_cons (pe_op oAdd (pe_op oSub (pv 2) (pv 1)) pe_int) pa_nil)))) (pss_cons (ps_if (PW.pt (pw_and (pt_cmpR oGt (pv 3) pe_int (nomark _)) (pw_and1 (pt_cmpR op_eq (pe_call G_law_take (hr.mono (by decide)) rfl T.g__law_take k_law_take b_law_take .nil passN (pa_cons (pv 0) (pa_cons pe_int pa_nil))) pe_int (nomark _))))) (pss_one (ps_ret (pe_call G_law_pick (hr.mono (by decide)) rfl T.g__law_pick k_law_pick b_law_pick .nil passN (pa_cons (pv 0) (pa_cons (pe_lst (pa_cons (pv 1) (pa_cons (pv 2) (pa_cons (pe_op oAdd (pv 1) pe_int) (pa_cons (pe_op oSub (pv 2) pe_int) (pa_cons (pe_op oAdd (pv 1) (pe_op oDiv (pv 3) pe_int)) pa_nil)))))) pa_nil))))) pss_nil) (pss_one (ps_ret (pe_op oAdd (pv 1) (pe_call G_law_wide (hr.mono (by decide)) rfl T.g__law_wide k_law_wide b_law_wide .nil passN (pa_cons (pv 0) (pa_cons (pv 3) pa_nil))))))))), ?_⟩), b, F.kp, fun_at F⟩
  obtain ⟨st, lo, hi, rfl, ho, k⟩ := h
  walk_at "nb.s"
  have wide : ∀ H1, Drew H st H1 → spWide [.ref st, .int (if hi - lo + 1 > 1 then hi - lo + 1 else 1)] H1 (fun y H2 => rAddI (.int lo) y H2 Q) E0 := fun H1 d => by
    refine use_wide d.2 fun n H' d2 z0 z1 => ?_
    walk_at "nb.s"
    refine k _ _ (d.trans d2) (by omega) ?_
    rw [if_neg_or_pos (max1 _)] at z1
    split at z1 <;> first | (left; omega) | (right; omega)
  refine i_ite (fun h2 => ?_) (fun h2 => ?_)
  · have h3 : hi - lo + 1 > 2 := by
      split at h2 <;> omega
    rw [if_pos (by omega : hi - lo + 1 > 1)] at *
    walk_at "nb.s"
    refine use_take ho (draw_small (by decide)) fun n H1 d z0 z1 => ?_
    walk_at "nb.s"
    refine i_ite (fun h4 => ?_) (fun h4 => ?_)
    · walk_at "nb.s"
      intro p hp
      walk_at "nb.s"
      refine use_pickN d.2 hp (by walk_at "nb.len") fun i v H2 hi2 d2 => ?_
      match i, hi2 with
      | 0, e => cases e; exact k _ _ (d.trans d2) (by omega) (by omega)
      | 1, e => cases e; exact k _ _ (d.trans d2) (by omega) (by omega)
      | 2, e => cases e; exact k _ _ (d.trans d2) (by omega) (by omega)
      | 3, e => cases e; exact k _ _ (d.trans d2) (by omega) (by omega)
      | 4, e => cases e; exact k _ _ (d.trans d2) (by omega) (by omega)
      | j + 5, e => cases e
    · walk_at "nb.s"
      exact wide _ d
  · walk_at "nb.s"
    exact wide _ (.refl ho)
def spOther : Sp := fun vs H Q _ => ∃ (st : Addr), vs = [.ref st] ∧ StoreOk H st ∧ ∀ v H', Drew H st H' → AnyV H' v → isI v = false → v ≠ .ref st → Q v H'
theorem AnyV.exX {H H' : Hp} {st : Addr} {v : V} (e : ExX st H H') (n : v ≠ .ref st) (h : AnyV H v) : AnyV H' v := by
  cases h with
  | non => exact .non
  | bl b => exact .bl b
  | int i => exact .int i
  | str z => exact .str z
  | lst h => exact .lst (e _ _ (fun z => n (by rw [z])) h)
  | tup h => exact .tup (e _ _ (fun z => n (by rw [z])) h)
  | dK h => exact .dK (e _ _ (fun z => n (by rw [z])) h)
theorem use_other {st : Addr} {H : Hp} {Q : VK} {E : XK} (h : StoreOk H st) (q : ∀ v H', Drew H st H' → AnyV H' v → isI v = false → v ≠ .ref st → Q v H') : spOther [.ref st] H Q E := ⟨st, rfl, h, q⟩
theorem len_law_other {vs : List V} {H : Hp} {Q : VK} {E : XK} (h : spOther vs H Q E) : vs.length = 1 := by
  obtain ⟨_, rfl, _⟩ := h
  rfl
theorem ok_law_other (T : Txt K mg) : Good P w K mg base 3 (ga K "_law_other") ["_law_store"] spOther := by
  obtain ⟨fd, F⟩ := T.d.def_ 11 (d := d_law_other) rfl
  have b := F.bindsN (ps := ["_law_store"]) fun _ _ _ _ _ _ us hl => match us, hl with | [_], _ => rfl
  obtain ⟨f_law_take, G_law_take, b_law_take, k_law_take, l_law_take⟩ := ok_law_take (P := P) (w := w) (base := base) T
  refine ⟨fd, F.ok sc_law_other (fun vs H Q E h => len_law_other h) (fun cdv A outer s H vs Q E hr h => ⟨_, PSs.nox ((pss_one (ps_ret (pe_ix ix_list (pe_lst (pa_cons pe_bl (pa_cons pe_bl (pa_cons pe_non (pa_cons pe_str (pa_cons pe_str (pa_cons (pe_lst pa_nil) (pa_cons (pe_lst (pa_cons pe_int pa_nil)) (pa_cons (pe_tup pa_nil) (pa_cons (pe_tup (pa_cons pe_int pa_nil)) (pa_cons pe_str pa_nil))))))))))) (pe_call G_law_take (hr.mono (by decide)) rfl T.g__law_take k_law_take b_law_take .nil passN (pa_cons (pv 0) (pa_cons pe_int pa_nil))) (fun _ _ => rfl))))), ?_⟩), b, F.kp, fun_at F⟩
  obtain ⟨st, rfl, ho, k⟩ := h
  walk_at "nb.s"
  intro p1 n1
  walk_at "nb.s"
  intro p2 n2
  walk_at "nb.s"
  intro p3 n3
  walk_at "nb.s"
  intro p4 n4
  walk_at "nb.s"
  intro p5 n5
  walk_at "nb.s"
  have e1 := Ext.new (o := .lst []) n1
  have e2 := Ext.new (o := .lst [.int 3]) n2
  have e3 := Ext.new (o := .tup []) n3
  have e4 := Ext.new (o := .tup [.int 3]) n4
  have h1 : upd H p1 (.lst []) p1 = some (.lst []) := upd_same
  have h2 : upd (upd H p1 (.lst [])) p2 (.lst [.int 3]) p2 = some (.lst [.int 3]) := upd_same
  have h3 : upd (upd (upd H p1 (.lst [])) p2 (.lst [.int 3])) p3 (.tup []) p3 = some (.tup []) := upd_same
  have h4 : upd (upd (upd (upd H p1 (.lst [])) p2 (.lst [.int 3])) p3 (.tup [])) p4 (.tup [.int 3]) p4 = some (.tup [.int 3]) := upd_same
  have o4 := (((ho.ext e1).ext e2).ext e3).ext e4
  have e0 := ((e1.trans e2).trans e3).trans e4
  have h1' := e4 _ _ (e3 _ _ (e2 _ _ h1))
  have h2' := e4 _ _ (e3 _ _ h2)
  have h3' := e4 _ _ h3
  generalize upd (upd (upd (upd H p1 (.lst [])) p2 (.lst [.int 3])) p3 (.tup [])) p4 (.tup [.int 3]) = G at *
  have d1 : p1 ≠ st := ho.ne (n1)
  have d2 : p2 ≠ st := (ho.ext e1).ne n2
  have d3 : p3 ≠ st := ((ho.ext e1).ext e2).ne n3
  have d4 : p4 ≠ st := (((ho.ext e1).ext e2).ext e3).ne n4
  refine use_take (o4.upd n5) (draw_small (by decide)) fun n H' d z0 z1 => ?_
  have D : Drew H st H' := (Drew.of ho (e0.trans (.new n5))).trans d
  have g : ∀ v, v ≠ .ref st → AnyV G v → AnyV H' v := fun v hv a => AnyV.exX d.1 hv (a.ext (.new n5))
  obtain ⟨m, rfl⟩ := Int.eq_ofNat_of_zero_le z0
  have hm : m < 10 := by
    have e : (if (10 : Int) > 1 then (10 : Int) else 1) = 10 := by decide
    rw [e] at z1
    omega
  have d5 : p5 ≠ st := o4.ne n5
  have row := d.1 p5 _ d5 upd_same
  have go : ∀ v, ([V.bl true, .bl false, .non, .str "", .str "3", .ref p1, .ref p2, .ref p3, .ref p4, .str "a"])[m]? = some v → AnyV G v → isI v = false → v ≠ .ref st → rIxL K (.ref p5) (.int (m : Int)) H' Q := fun v e a i nv =>
    i_ixL (sqL_of row) (Evl_at e) (k v H' D (g v nv a) i nv)
  have ns : ∀ z : Str, V.str z ≠ .ref st := fun z q => nomatch q
  match m, hm with
  | 0, _ => exact go _ rfl (.bl _) rfl (fun q => nomatch q)
  | 1, _ => exact go _ rfl (.bl _) rfl (fun q => nomatch q)
  | 2, _ => exact go _ rfl .non rfl (fun q => nomatch q)
  | 3, _ => exact go _ rfl (.str _) rfl (ns _)
  | 4, _ => exact go _ rfl (.str _) rfl (ns _)
  | 5, _ => exact go _ rfl (.lst h1') rfl (fun q => d1 (V.ref.inj q))
  | 6, _ => exact go _ rfl (.lst h2') rfl (fun q => d2 (V.ref.inj q))
  | 7, _ => exact go _ rfl (.tup h3') rfl (fun q => d3 (V.ref.inj q))
  | 8, _ => exact go _ rfl (.tup h4) rfl (fun q => d4 (V.ref.inj q))
  | 9, _ => exact go _ rfl (.str _) rfl (ns _)
  | j + 10, hj => omega
def spBeyond : Sp := fun vs H Q _ => ∃ (st : Addr) (lo hi : Int), vs = [.ref st, .int lo, .int hi] ∧ StoreOk H st ∧ ∀ v H', Drew H st H' → AnyV H' v → ¬ inR v lo hi → v ≠ .ref st → Q v H'
theorem use_beyond {st : Addr} {lo hi : Int} {H : Hp} {Q : VK} {E : XK} (h : StoreOk H st) (q : ∀ v H', Drew H st H' → AnyV H' v → ¬ inR v lo hi → v ≠ .ref st → Q v H') : spBeyond [.ref st, .int lo, .int hi] H Q E := ⟨st, lo, hi, rfl, h, q⟩
theorem len_law_beyond {vs : List V} {H : Hp} {Q : VK} {E : XK} (h : spBeyond vs H Q E) : vs.length = 3 := by
  obtain ⟨_, _, _, rfl, _⟩ := h
  rfl
theorem ok_law_beyond (T : Txt K mg) : Good P w K mg base 4 (ga K "_law_beyond") ["_law_store", "_law_low", "_law_high"] spBeyond := by
  obtain ⟨fd, F⟩ := T.d.def_ 12 (d := d_law_beyond) rfl
  have b := F.bindsN (ps := ["_law_store", "_law_low", "_law_high"]) fun _ _ _ _ _ _ us hl => match us, hl with | [_, _, _], _ => rfl
  obtain ⟨f_law_wide, G_law_wide, b_law_wide, k_law_wide, l_law_wide⟩ := ok_law_wide (P := P) (w := w) (base := base) T
  obtain ⟨f_law_pick, G_law_pick, b_law_pick, k_law_pick, l_law_pick⟩ := ok_law_pick (P := P) (w := w) (base := base) T
  obtain ⟨f_law_other, G_law_other, b_law_other, k_law_other, l_law_other⟩ := ok_law_other (P := P) (w := w) (base := base) T
  obtain ⟨f_law_take, G_law_take, b_law_take, k_law_take, l_law_take⟩ := ok_law_take (P := P) (w := w) (base := base) T
  refine ⟨fd, F.ok sc_law_beyond (fun vs H Q E h => len_law_beyond h) (fun cdv A outer s H vs Q E hr h => ⟨_, PSs.nox ((pss_cons (ps_set (i := 3) sc_law_beyond.nd rfl (Or.inl rfl) (pe_call G_law_take (hr.mono (by decide)) rfl T.g__law_take k_law_take b_law_take .nil passN (pa_cons (pv 0) (pa_cons pe_int pa_nil)))) (pss_cons (ps_if (pt_cmpR op_eq (pv 3) pe_int (nomark _)) (pss_one (ps_ret (pe_call G_law_other (hr.mono (by decide)) rfl T.g__law_other k_law_other b_law_other .nil passN (pa_cons (pv 0) pa_nil)))) pss_nil) (pss_cons (ps_if (pt_cmpR op_eq (pv 3) pe_int (nomark _)) (pss_one (ps_ret (pe_call G_law_pick (hr.mono (by decide)) rfl T.g__law_pick k_law_pick b_law_pick .nil passN (pa_cons (pv 0) (pa_cons (pe_lst (pa_cons (pe_op oSub (pv 1) pe_int) (pa_cons (pe_op oAdd (pv 2) pe_int) pa_nil))) pa_nil))))) pss_nil) (pss_cons (ps_if (pt_cmpR op_eq (pv 3) pe_int (nomark _)) (pss_one (ps_ret (pe_op oSub (pe_op oSub (pv 1) pe_int) (pe_call G_law_wide (hr.mono (by decide)) rfl T.g__law_wide k_law_wide b_law_wide .nil passN (pa_cons (pv 0) (pa_cons (pe_powC (v := 1000000000000000000000000000000000000000000000000000000000000) pe_int pe_int (powS (by decide) (by decide) (by decide) (by decide)) (by decide +kernel)) pa_nil)))))) pss_nil) (pss_one (ps_ret (pe_op oAdd (pe_op oAdd (pv 2) pe_int) (pe_call G_law_wide (hr.mono (by decide)) rfl T.g__law_wide k_law_wide b_law_wide .nil passN (pa_cons (pv 0) (pa_cons (pe_powC (v := 1000000000000000000000000000000000000000000000000000000000000) pe_int pe_int (powS (by decide) (by decide) (by decide) (by decide)) (by decide +kernel)) pa_nil))))))))))), ?_⟩), b, F.kp, fun_at F⟩
  obtain ⟨st, lo, hi, rfl, ho, k⟩ := h
  have ki : ∀ (n : Int) H', Drew H st H' → (n < lo ∨ hi < n) → Q (.int n) H' := fun n H' d c => k _ _ d (.int n) (fun z => by
    have z2 := inR_int.mp z
    omega) (fun q => nomatch q)
  walk_at "nb.s"
  refine use_take ho (draw_small (by decide)) fun n H1 d z0 z1 => ?_
  walk_at "nb.s"
  refine i_ite (fun h1 => ?_) (fun h1 => ?_)
  · walk_at "nb.s"
    exact use_other d.2 fun v H2 d2 a i nv => k v H2 (d.trans d2) a (inR_not i) nv
  · walk_at "nb.s"
    refine i_ite (fun h2 => ?_) (fun h2 => ?_)
    · walk_at "nb.s"
      intro p hp
      walk_at "nb.s"
      refine use_pickN d.2 hp (by walk_at "nb.len") fun i v H2 hi2 d2 => ?_
      match i, hi2 with
      | 0, e => cases e; exact ki _ _ (d.trans d2) (by omega)
      | 1, e => cases e; exact ki _ _ (d.trans d2) (by omega)
      | j + 2, e => cases e
    · walk_at "nb.s"
      refine i_ite (fun h3 => ?_) (fun h3 => ?_)
      · walk_at "nb.s"
        refine use_wide d.2 fun m H2 d2 y0 y1 => ?_
        walk_at "nb.s"
        exact ki _ _ (d.trans d2) (by omega)
      · walk_at "nb.s"
        refine use_wide d.2 fun m H2 d2 y0 y1 => ?_
        walk_at "nb.s"
        exact ki _ _ (d.trans d2) (by omega)
/-- flat values: None, bools, ints, texts -/
inductive Flat : V → Prop where
  | non : Flat .non
  | bl (b : Bool) : Flat (.bl b)
  | int (i : Int) : Flat (.int i)
  | str (z : Str) : Flat (.str z)
theorem Flat.any {H : Hp} {v : V} (h : Flat v) : AnyV H v := by
  cases h with
  | non => exact .non
  | bl b => exact .bl b
  | int i => exact .int i
  | str z => exact .str z
/-- the same data, lists and tuples nested at most n deep -/
def Sm (H : Hp) : Nat → V → V → Prop
  | 0, x, y => x = y ∧ Flat x
  | n + 1, x, y => (x = y ∧ Flat x) ∨ ∃ (a b : Addr) (xs ys : List V), x = .ref a ∧ y = .ref b ∧ ((H a = some (.lst xs) ∧ H b = some (.lst ys)) ∨ (H a = some (.tup xs) ∧ H b = some (.tup ys))) ∧ xs.length = ys.length ∧ xs.length ≤ 1000000 ∧
      ∀ (i : Nat) (u v : V), xs[i]? = some u → ys[i]? = some v → Sm H n u v
theorem Sm.ext {H H' : Hp} (e : Ext H H') : ∀ (n : Nat) (x y : V), Sm H n x y → Sm H' n x y
  | 0, _, _, h => h
  | n + 1, x, y, h => by
    rcases h with h | ⟨a, b, xs, ys, e1, e2, h, hl, hz, hi⟩
    · exact .inl h
    · refine .inr ⟨a, b, xs, ys, e1, e2, ?_, hl, hz, fun i u v hu hv => Sm.ext e n u v (hi i u v hu hv)⟩
      rcases h with ⟨p, q⟩ | ⟨p, q⟩
      · exact .inl ⟨e _ _ p, e _ _ q⟩
      · exact .inr ⟨e _ _ p, e _ _ q⟩
theorem Sm.flat {H : Hp} {n : Nat} {x : V} (h : Flat x) : Sm H n x x := by
  cases n with
  | zero => exact ⟨rfl, h⟩
  | succ n => exact .inl ⟨rfl, h⟩
theorem Sm.lst {H : Hp} {n : Nat} {a b : Addr} {xs ys : List V} (p : H a = some (.lst xs)) (q : H b = some (.lst ys)) (hl : xs.length = ys.length) (hz : xs.length ≤ 1000000) (hi : ∀ (i : Nat) (u v : V), xs[i]? = some u → ys[i]? = some v → Sm H n u v) : Sm H (n + 1) (.ref a) (.ref b) := .inr ⟨a, b, xs, ys, rfl, rfl, .inl ⟨p, q⟩, hl, hz, hi⟩
theorem Sm.tup {H : Hp} {n : Nat} {a b : Addr} {xs ys : List V} (p : H a = some (.tup xs)) (q : H b = some (.tup ys)) (hl : xs.length = ys.length) (hz : xs.length ≤ 1000000) (hi : ∀ (i : Nat) (u v : V), xs[i]? = some u → ys[i]? = some v → Sm H n u v) : Sm H (n + 1) (.ref a) (.ref b) := .inr ⟨a, b, xs, ys, rfl, rfl, .inr ⟨p, q⟩, hl, hz, hi⟩
/-- a list of ints is the same as an equal one -/
theorem Sm.ints {H : Hp} {n : Nat} {a b : Addr} {ns : List Int} (p : H a = some (.lst (ns.map V.int))) (q : H b = some (.lst (ns.map V.int))) (hz : ns.length ≤ 1000000) : Sm H (n + 1) (.ref a) (.ref b) :=
  .lst p q rfl (by rw [List.length_map]; exact hz) fun i u v hu hv => by
    rw [hu] at hv
    cases hv
    rw [List.getElem?_map] at hu
    cases e : ns[i]? with
    | none => rw [e] at hu; cases hu
    | some z => rw [e] at hu; cases hu; exact .flat (.int z)
/-- tuples, lists of flat values -/
theorem Sm.tupF {H : Hp} {n : Nat} {a b : Addr} {xs : List V} (p : H a = some (.tup xs)) (q : H b = some (.tup xs)) (hz : xs.length ≤ 1000000) (hf : ∀ x ∈ xs, Flat x) : Sm H (n + 1) (.ref a) (.ref b) :=
  .tup p q rfl hz fun i u v hu hv => by
    rw [hu] at hv
    cases hv
    exact .flat (hf u (List.mem_of_getElem? hu))
theorem Sm.lstF {H : Hp} {n : Nat} {a b : Addr} {xs : List V} (p : H a = some (.lst xs)) (q : H b = some (.lst xs)) (hz : xs.length ≤ 1000000) (hf : ∀ x ∈ xs, Flat x) : Sm H (n + 1) (.ref a) (.ref b) :=
  .lst p q rfl hz fun i u v hu hv => by
    rw [hu] at hv
    cases hv
    exact .flat (hf u (List.mem_of_getElem? hu))
def spSame (n : Nat) : Sp := fun vs H Q _ => ∃ (x y : V), vs = [x, y] ∧ Sm H n x y ∧ ∀ H', Ext H H' → Q (.bl true) H'
theorem use_same {n : Nat} {x y : V} {H : Hp} {Q : VK} {E : XK} (h : Sm H n x y) (q : ∀ H', Ext H H' → Q (.bl true) H') : spSame n [x, y] H Q E := ⟨x, y, rfl, h, q⟩
theorem i_eqF {x : V} {H : Hp} {Q : VK} (h : Flat x) (q : Q (.bl true) H) : rEq x x H Q := by
  refine ⟨?_, by rw [decide_eq_true rfl]; exact q⟩
  cases h <;> rfl
theorem len_law_same {n : Nat} {vs : List V} {H : Hp} {Q : VK} {E : XK} (h : spSame n vs H Q E) : vs.length = 2 := by
  obtain ⟨_, _, rfl, _⟩ := h
  rfl
theorem same_body (T : Txt K mg) {k n : Nat} (hG : n = 0 ∨ ∃ m, n = m + 1 ∧ Good P w K mg base k (ga K "_law_same") ["_law_actual", "_law_expected"] (spSame m)) : Good P w K mg base (k + 1) (ga K "_law_same") ["_law_actual", "_law_expected"] (spSame n) := by
  obtain ⟨fd, F⟩ := T.d.def_ 13 (d := d_law_same) rfl
  have b := F.bindsN (ps := ["_law_actual", "_law_expected"]) fun _ _ _ _ _ _ us hl => match us, hl with | [_, _], _ => rfl
  have key : ∀ (sp0 : Sp), (n = 0 → sp0 = fun _ _ _ _ => False) → (∀ m, n = m + 1 → sp0 = spSame m) → (∃ fd0, FnOk P w K mg base (L2N.CX P w) k (ga K "_law_same") fd0 ["_law_actual", "_law_expected"] sp0 ∧ Binds K fd0 ["_law_actual", "_law_expected"] [] ∧ PySem.W.keepIn K (.ref (ga K "_law_same")) = true ∧ ∃ (oc : Value) (od : Option Addr) (osl : Array (Option Value)), K.lookup (ga K "_law_same") = some ⟨oc, od, .func fd0, osl⟩) → Good P w K mg base (k + 1) (ga K "_law_same") ["_law_actual", "_law_expected"] (spSame n) := fun sp0 s0 s1 hg => by
    obtain ⟨f_law_same, G_law_same, b_law_same, k_law_same, l_law_same⟩ := hg
    refine ⟨fd, F.ok sc_law_same (fun vs H Q E h => len_law_same h) (fun cdv A outer s H vs Q E hr h => ⟨_, PSs.nox ((pss_cons (ps_if (pt_cmpR oIsK (pv 1) pe_non (nomark _)) (pss_one (ps_ret (pe_cmpR oIsK (pv 0) pe_non (nomark _)))) pss_nil) (pss_cons (ps_if (pt_cmpR oIsK (pv 1) pe_bl (nomark _)) (pss_one (ps_ret (pe_cmpR oIsK (pv 0) pe_bl (nomark _)))) pss_nil) (pss_cons (ps_if (pt_cmpR oIsK (pv 1) pe_bl (nomark _)) (pss_one (ps_ret (pe_cmpR oIsK (pv 0) pe_bl (nomark _)))) pss_nil) (pss_cons (ps_if (pt_val (pe_callB (call_isi) (by rfl) T.b_isinstance (by decide +kernel) (pa_cons (pv 1) (pa_cons (pe_bltn (v := .ty "int") (by rfl) T.b_int (by decide +kernel) rfl) pa_nil)))) (pss_one (ps_ret (pe_and (pe_callB (call_isi) (by rfl) T.b_isinstance (by decide +kernel) (pa_cons (pv 0) (pa_cons (pe_bltn (v := .ty "int") (by rfl) T.b_int (by decide +kernel) rfl) pa_nil))) (pe_and (pe_not (pe_callB (call_isi) (by rfl) T.b_isinstance (by decide +kernel) (pa_cons (pv 0) (pa_cons (pe_bltn (v := .ty "bool") (by rfl) T.b_bool (by decide +kernel) rfl) pa_nil)))) (pe_one (pe_cmpR op_eq (pv 0) (pv 1) (nomark _))))))) pss_nil) (pss_cons (ps_if (pt_val (pe_callB (call_isi) (by rfl) T.b_isinstance (by decide +kernel) (pa_cons (pv 1) (pa_cons (pe_bltn (v := .ty "str") (by rfl) T.b_str (by decide +kernel) rfl) pa_nil)))) (pss_one (ps_ret (pe_and (pe_callB (call_isi) (by rfl) T.b_isinstance (by decide +kernel) (pa_cons (pv 0) (pa_cons (pe_bltn (v := .ty "str") (by rfl) T.b_str (by decide +kernel) rfl) pa_nil))) (pe_one (pe_cmpR op_eq (pv 0) (pv 1) (nomark _)))))) pss_nil) (pss_cons (ps_if (PW.pt (pw_and (pt_val (pe_callB (call_isi) (by rfl) T.b_isinstance (by decide +kernel) (pa_cons (pv 1) (pa_cons (pe_bltn (v := .ty "list") (by rfl) T.b_list (by decide +kernel) rfl) pa_nil)))) (pw_and1 (pt_not (pt_val (pe_callB (call_isi) (by rfl) T.b_isinstance (by decide +kernel) (pa_cons (pv 0) (pa_cons (pe_bltn (v := .ty "list") (by rfl) T.b_list (by decide +kernel) rfl) pa_nil)))))))) (pss_one (ps_ret pe_bl)) pss_nil) (pss_cons (ps_if (PW.pt (pw_and (pt_val (pe_callB (call_isi) (by rfl) T.b_isinstance (by decide +kernel) (pa_cons (pv 1) (pa_cons (pe_bltn (v := .ty "tuple") (by rfl) T.b_tuple (by decide +kernel) rfl) pa_nil)))) (pw_and1 (pt_not (pt_val (pe_callB (call_isi) (by rfl) T.b_isinstance (by decide +kernel) (pa_cons (pv 0) (pa_cons (pe_bltn (v := .ty "tuple") (by rfl) T.b_tuple (by decide +kernel) rfl) pa_nil)))))))) (pss_one (ps_ret pe_bl)) pss_nil) (pss_cons (ps_if (PW.pt (pw_or (pt_not (pt_val (pe_callB (call_isiT) (by rfl) T.b_isinstance (by decide +kernel) (pa_cons (pv 1) (pa_cons (pe_tup (pa_cons (pe_bltn (v := .ty "list") (by rfl) T.b_list (by decide +kernel) rfl) (pa_cons (pe_bltn (v := .ty "tuple") (by rfl) T.b_tuple (by decide +kernel) rfl) pa_nil))) pa_nil))))) (pw_or1 (pt_cmpR op_ne (pe_callB (kLen) (by rfl) T.b_len (by decide +kernel) (pa_cons (pv 0) pa_nil)) (pe_callB (kLen) (by rfl) T.b_len (by decide +kernel) (pa_cons (pv 1) pa_nil)) (nomark _))))) (pss_one (ps_ret pe_bl)) pss_nil) (pss_cons (ps_for PassesOwn.never rfl (pi_range1 rfl T.b_range (pa_cons (pe_callB (kLen) (by rfl) T.b_len (by decide +kernel) (pa_cons (pv 1) pa_nil)) pa_nil)) (pg_name (i := 2) sc_law_same.nd rfl (Or.inl rfl)) (pss_one (ps_if (pt_not (pt_val (pe_call G_law_same hr rfl T.g__law_same k_law_same b_law_same .nil passN (pa_cons (pe_ix ix_seq (pv 0) (pv 2) (fun _ _ => rfl)) (pa_cons (pe_ix ix_seq (pv 1) (pv 2) (fun _ _ => rfl)) pa_nil))))) (pss_one (ps_ret pe_bl)) pss_nil))) (pss_one (ps_ret pe_bl)))))))))))), ?_⟩), b, F.kp, fun_at F⟩
    obtain ⟨x, y, rfl, hs, q⟩ := h
    have flat : ∀ x, Flat x → Sm H 0 x x := fun x hx => ⟨rfl, hx⟩
    have hcase : (x = y ∧ Flat x) ∨ ∃ m, n = m + 1 ∧ ∃ (a b : Addr) (xs ys : List V), x = .ref a ∧ y = .ref b ∧ ((H a = some (.lst xs) ∧ H b = some (.lst ys)) ∨ (H a = some (.tup xs) ∧ H b = some (.tup ys))) ∧ xs.length = ys.length ∧ xs.length ≤ 1000000 ∧
        ∀ (i : Nat) (u v : V), xs[i]? = some u → ys[i]? = some v → Sm H m u v := by
      cases n with
      | zero => exact .inl hs
      | succ m =>
        rcases hs with h | h
        · exact .inl h
        · exact .inr ⟨m, rfl, h⟩
    rcases hcase with ⟨rfl, hf⟩ | ⟨m, hm, a, c, xs, ys, rfl, rfl, hac, hl, hz, hi⟩
    · cases hf with
      | non =>
        walk_at "nb.s"
        refine i_ite (fun _ => ?_) (fun z => absurd rfl z)
        walk_at "nb.s"
        exact q H (.refl H)
      | bl b =>
        walk_at "nb.s"
        refine i_ite (fun z => nomatch z) (fun _ => ?_)
        walk_at "nb.s"
        refine i_ite (fun z => ?_) (fun z => ?_)
        · cases z
          walk_at "nb.s"
          exact q H (.refl H)
        · walk_at "nb.s"
          refine i_ite (fun z2 => ?_) (fun z2 => ?_)
          · cases z2
            walk_at "nb.s"
            exact q H (.refl H)
          · cases b
            · exact absurd rfl z2
            · exact absurd rfl z
      | int i =>
        walk_at "nb.s"
        refine i_ite (fun z => nomatch z) (fun _ => ?_)
        walk_at "nb.s"
        refine i_ite (fun z => nomatch z) (fun _ => ?_)
        walk_at "nb.s"
        refine i_ite (fun z => nomatch z) (fun _ => ?_)
        walk_at "nb.s"
        have e : decide (i = i) = true := decide_eq_true rfl
        rw [e]
        exact q H (.refl H)
      | str z =>
        walk_at "nb.s"
        refine i_ite (fun z => nomatch z) (fun _ => ?_)
        walk_at "nb.s"
        refine i_ite (fun z => nomatch z) (fun _ => ?_)
        walk_at "nb.s"
        refine i_ite (fun z => nomatch z) (fun _ => ?_)
        walk_at "nb.s"
        have e : decide (z = z) = true := decide_eq_true rfl
        rw [e]
        exact q H (.refl H)
    · have sp0e := s1 m hm
      subst sp0e
      walk_at "nb.s"
      refine i_ite (fun z => nomatch z) (fun _ => ?_)
      walk_at "nb.s"
      refine i_ite (fun z => nomatch z) (fun _ => ?_)
      walk_at "nb.s"
      refine i_ite (fun z => nomatch z) (fun _ => ?_)
      walk_at "nb.s"
      rcases hac with ⟨h1, h2⟩ | ⟨h1, h2⟩
      · walk_at "nb.s"
        intro p hp
        walk_at "nb.s"
        refine isi_lt upd_same (.base (.lst (upd_old hp h2))) (.inl rfl) ?_
        walk_at "nb.s"
        refine i_iteN (fun z => absurd (by rw [hl]) z) (fun _ => ?_)
        walk_at "nb.s"
        refine i_rng1 (by omega) (by omega) ?_
        refine fr_of (fun i σ' H' => ∃ v : Option V, σ' = [some (.ref a), some (.ref c), v] ∧ Ext H H') ⟨_, rfl, .new hp⟩ ?_ ?_
        · rintro i σ' H' hi2 ⟨v, rfl, e⟩
          have hi3 : i < ys.length := by omega
          have hi4 : i < xs.length := by omega
          have z0 : (0 : Int) + (i : Int) = (i : Int) := Int.zero_add _
          walk_at "nb.s"
          rw [z0]
          refine .inl (i_ixL (sqL_of (e _ _ h1)) (Evl_at (List.getElem?_eq_getElem hi4)) ?_)
          walk_at "nb.s"
          refine .inl (i_ixL (sqL_of (e _ _ h2)) (Evl_at (List.getElem?_eq_getElem hi3)) ?_)
          walk_at "nb.s"
          refine use_same (Sm.ext e _ _ _ (hi i _ _ (List.getElem?_eq_getElem hi4) (List.getElem?_eq_getElem hi3))) fun H2 e2 => ?_
          walk_at "nb.s"
          exact ⟨_, rfl, e.trans e2⟩
        · rintro σ' H' ⟨v, rfl, e⟩
          walk_at "nb.s"
          exact q H' e
      · walk_at "nb.s"
        intro p hp
        walk_at "nb.s"
        refine isi_lt upd_same (.base (.tup (upd_old hp h2))) (.inr rfl) ?_
        walk_at "nb.s"
        refine i_iteN (fun z => absurd (by rw [hl]) z) (fun _ => ?_)
        walk_at "nb.s"
        refine i_rng1 (by omega) (by omega) ?_
        refine fr_of (fun i σ' H' => ∃ v : Option V, σ' = [some (.ref a), some (.ref c), v] ∧ Ext H H') ⟨_, rfl, .new hp⟩ ?_ ?_
        · rintro i σ' H' hi2 ⟨v, rfl, e⟩
          have hi3 : i < ys.length := by omega
          have hi4 : i < xs.length := by omega
          have z0 : (0 : Int) + (i : Int) = (i : Int) := Int.zero_add _
          walk_at "nb.s"
          rw [z0]
          refine .inr (.inl (i_ixT (sqT_of (e _ _ h1)) (Evl_at (List.getElem?_eq_getElem hi4)) ?_))
          walk_at "nb.s"
          refine .inr (.inl (i_ixT (sqT_of (e _ _ h2)) (Evl_at (List.getElem?_eq_getElem hi3)) ?_))
          walk_at "nb.s"
          refine use_same (Sm.ext e _ _ _ (hi i _ _ (List.getElem?_eq_getElem hi4) (List.getElem?_eq_getElem hi3))) fun H2 e2 => ?_
          walk_at "nb.s"
          exact ⟨_, rfl, e.trans e2⟩
        · rintro σ' H' ⟨v, rfl, e⟩
          walk_at "nb.s"
          exact q H' e
  rcases hG with rfl | ⟨m, rfl, hg⟩
  · exact key (fun _ _ _ _ => False) (fun _ => rfl) (fun m e => nomatch e) ⟨fd, ⟨fun _ _ _ _ h => h.elim, fun _ _ _ _ _ _ _ _ _ _ _ _ _ h => h.elim⟩, b, F.kp, fun_at F⟩
  · exact key (spSame m) (fun z => nomatch z) (fun m' e => by cases e; rfl) hg
theorem ok_law_same (T : Txt K mg) : ∀ n : Nat, Good P w K mg base (n + 1) (ga K "_law_same") ["_law_actual", "_law_expected"] (spSame n)
  | 0 => same_body (k := 0) T (.inl rfl)
  | n + 1 => same_body T (.inr ⟨n, rfl, ok_law_same T n⟩)
def spIs_whole : Sp := fun vs H Q _ => ∃ v, vs = [v] ∧ AnyV H v ∧ ∀ H', Ext H H' → Q (.bl (isI v)) H'
theorem use_whole {v : V} {H : Hp} {Q : VK} {E : XK} (h : AnyV H v) (q : ∀ H', Ext H H' → Q (.bl (isI v)) H') : spIs_whole [v] H Q E := ⟨v, rfl, h, q⟩
theorem isI_int {v : V} (h : isI v = true) : ∃ i, v = .int i := by
  cases v with
  | int i => exact ⟨i, rfl⟩
  | _ => cases h
def Rz (K : PySem.W.Frag) (nm : Str) (H : Hp) (E : XK) : Prop := ∀ d H', Ext H H' → H d = none → H' d = some (.xd [("name", .str nm)]) → E (.ref (ga K "OutOfRange")) (some d) H'
theorem Rz.ext {K : PySem.W.Frag} {nm : Str} {H H1 : Hp} {E : XK} (e : Ext H H1) (h : Rz K nm H E) : Rz K nm H1 E := fun d H' e1 n x => h d H' (e.trans e1) (e.free n) x
/-- need_integer of the lanes: value, low, high, name -/
def spNeed_integer (K : PySem.W.Frag) : Sp := fun vs H Q E => ∃ (nm : Str) (v : V) (lo hi : Int), vs = [v, .int lo, .int hi, .str nm] ∧ AnyV H v ∧ (inR v lo hi → ∀ H', Ext H H' → Q .non H') ∧ (¬ inR v lo hi → Rz K nm H E)
theorem use_need {K : PySem.W.Frag} {nm : Str} {v : V} {lo hi : Int} {H : Hp} {Q : VK} {E : XK} (h : AnyV H v) (q : inR v lo hi → ∀ H', Ext H H' → Q .non H') (r : ¬ inR v lo hi → Rz K nm H E) : spNeed_integer K [v, .int lo, .int hi, .str nm] H Q E := ⟨nm, v, lo, hi, rfl, h, q, r⟩
theorem len_is_integer {vs : List V} {H : Hp} {Q : VK} {E : XK} (h : spIs_whole vs H Q E) : vs.length = 1 := by
  obtain ⟨_, rfl, _⟩ := h
  rfl
theorem ok_is_integer (T : Txt K mg) : Good P w K mg base 1 (ga K "is_integer") ["value"] spIs_whole := by
  obtain ⟨fd, F⟩ := T.d.def_ 1 (d := d_is_integer) rfl
  have b := F.bindsN (ps := ["value"]) fun _ _ _ _ _ _ us hl => match us, hl with | [_], _ => rfl
  refine ⟨fd, F.ok sc_is_integer (fun vs H Q E h => len_is_integer h) (fun cdv A outer s H vs Q E hr h => ⟨_, PSs.nox ((pss_one (ps_ret (pe_and (pe_callB (call_isi) (by rfl) T.b_isinstance (by decide +kernel) (pa_cons (pv 0) (pa_cons (pe_bltn (v := .ty "int") (by rfl) T.b_int (by decide +kernel) rfl) pa_nil))) (pe_one (pe_not (pe_callB (call_isi) (by rfl) T.b_isinstance (by decide +kernel) (pa_cons (pv 0) (pa_cons (pe_bltn (v := .ty "bool") (by rfl) T.b_bool (by decide +kernel) rfl) pa_nil))))))))), ?_⟩), b, F.kp, fun_at F⟩
  obtain ⟨v, rfl, hv, k⟩ := h
  have kk := k H (.refl H)
  cases hv with
  | non => walk_at "nb.s"; exact kk
  | bl b => walk_at "nb.s"; exact kk
  | int i => walk_at "nb.s"; exact kk
  | str z => walk_at "nb.s"; exact kk
  | lst h => walk_at "nb.s"; exact kk
  | tup h => walk_at "nb.s"; exact kk
  | dK h =>
    walk_at "nb.s"
    refine isi_int (.dK h) ?_
    walk_at "nb.s"
    exact i_F kk
theorem len_need_integer {K : PySem.W.Frag} {vs : List V} {H : Hp} {Q : VK} {E : XK} (h : spNeed_integer K vs H Q E) : vs.length = 4 := by
  obtain ⟨_, _, _, _, rfl, _⟩ := h
  rfl
theorem ok_need_integer (T : Txt K mg) : Good P w K mg base 3 (ga K "need_integer") ["value", "low", "high", "name"] (spNeed_integer K) := by
  obtain ⟨fd, F⟩ := T.d.def_ 2 (d := d_need_integer) rfl
  have b := F.bindsN (ps := ["value", "low", "high", "name"]) fun _ _ _ _ _ _ us hl => match us, hl with | [_, _, _, _], _ => rfl
  obtain ⟨f_is_integer, G_is_integer, b_is_integer, k_is_integer, l_is_integer⟩ := ok_is_integer (P := P) (w := w) (base := base) T
  obtain ⟨f_OutOfRange, I_OutOfRange, J_OutOfRange, _, _⟩ := ok_OutOfRange___init__ (P := P) (w := w) (base := base) T
  refine ⟨fd, F.ok sc_need_integer (fun vs H Q E h => len_need_integer h) (fun cdv A outer s H vs Q E hr h => ⟨_, (pss_one (ps_if (PW.pt (pw_or (pt_not (pt_val (pe_call G_is_integer (hr.mono (by decide)) rfl T.g_is_integer k_is_integer b_is_integer .nil passN (pa_cons (pv 0) pa_nil)))) (pw_or (pt_cmpR oLt (pv 0) (pv 1) (nomark _)) (pw_or1 (pt_cmpR oGt (pv 0) (pv 2) (nomark _)))))) (pss_one (L2N.ps_raise rfl (L2N.takes_of rfl rfl rfl rfl) (mkErr T.e_OutOfRange.o T.e_OutOfRange.i T.e_OutOfRange.t I_OutOfRange (hr.mono (by decide)) J_OutOfRange passN (by exact rfl) T.g_OutOfRange (by exact (pa_cons (pv 3) pa_nil))))) pss_nil)), ?_⟩), b, F.kp, fun_at F⟩
  obtain ⟨nm, v, lo, hi, rfl, hv, k, r⟩ := h
  have raise : ¬ inR v lo hi → ∀ H1, Ext H H1 → Rz K nm H1 E := fun hn H1 e => (r hn).ext e
  walk_at "nb.s"
  refine use_whole hv fun H1 e1 => ?_
  walk_at "nb.s"
  refine i_iteNB (fun hI => ?_) (fun hI => ?_)
  · walk_at "nb.s"
    exact mk1 fun d H2 e n x => raise (inR_not hI) H1 e1 d H2 e n x
  · obtain ⟨i, rfl⟩ := isI_int hI
    walk_at "nb.s"
    refine i_ite (fun h1 => ?_) (fun h1 => ?_)
    · walk_at "nb.s"
      exact mk1 fun d H2 e n x => raise (fun z => by have := inR_int.mp z; omega) H1 e1 d H2 e n x
    · walk_at "nb.s"
      refine i_ite (fun h2 => ?_) (fun h2 => ?_)
      · walk_at "nb.s"
        exact mk1 fun d H2 e n x => raise (fun z => by have := inR_int.mp z; omega) H1 e1 d H2 e n x
      · walk_at "nb.s"
        exact k (inR_int.mpr (by omega)) H1 e1
/-- a lane turned by c bits, 0 to 64 -/
def turnN (n c : Nat) : Nat := 2 ^ c * (n % 2 ^ (64 - c)) + n / 2 ^ (64 - c)
/-- the sum that the law makes, behind i bits -/
def partN (n c : Nat) : Nat → Nat
  | 0 => 0
  | i + 1 => partN n c i + (if n / 2 ^ i % 2 = 1 then 2 ^ ((i + c) % 64) else 0)
theorem p64 {c : Nat} (h : c ≤ 64) : 2 ^ (64 - c) * 2 ^ c = 2 ^ 64 := by
  rw [← Nat.pow_add]
  congr 1
  omega
theorem hi_lt {n c : Nat} (hn : n < 2 ^ 64) (h : c ≤ 64) : n / 2 ^ (64 - c) < 2 ^ c := by
  rw [Nat.div_lt_iff_lt_mul (Nat.two_pow_pos _), Nat.mul_comm, p64 h]
  exact hn
theorem bitv (b : Nat) (x : Nat) (h : b % 2 = b) : (if b = 1 then x else 0) = x * b := by
  have : b = 0 ∨ b = 1 := by omega
  rcases this with h | h <;> subst h <;> simp
theorem part_low {n c : Nat} (hc : c ≤ 63) : ∀ i : Nat, i ≤ 64 - c → partN n c i = 2 ^ c * (n % 2 ^ i)
  | 0, _ => by simp [partN, Nat.mod_one]
  | i + 1, hi => by
    show partN n c i + _ = _
    have e : (i + c) % 64 = c + i := by omega
    rw [part_low hc i (by omega), Nat.mod_pow_succ, bitv _ _ (Nat.mod_mod ..), e, Nat.pow_add, Nat.mul_add, Nat.mul_assoc]
theorem part_high {n c : Nat} (hc : c ≤ 63) : ∀ k : Nat, 64 - c + k ≤ 64 → partN n c (64 - c + k) = 2 ^ c * (n % 2 ^ (64 - c)) + n % 2 ^ (64 - c + k) / 2 ^ (64 - c)
  | 0, _ => by
    rw [Nat.add_zero, part_low hc _ (Nat.le_refl _), Nat.div_eq_of_lt (Nat.mod_lt _ (Nat.two_pow_pos _)), Nat.add_zero]
  | k + 1, hk => by
    show partN n c (64 - c + k) + (if n / 2 ^ (64 - c + k) % 2 = 1 then 2 ^ ((64 - c + k + c) % 64) else 0) = _
    have e : (64 - c + k + c) % 64 = k := by omega
    rw [part_high hc k (by omega), ← Nat.add_assoc, Nat.mod_pow_succ, bitv _ _ (Nat.mod_mod ..), e, Nat.add_assoc]
    congr 1
    have e2 : 2 ^ (64 - c + k) * (n / 2 ^ (64 - c + k) % 2) = 2 ^ (64 - c) * (2 ^ k * (n / 2 ^ (64 - c + k) % 2)) := by rw [Nat.pow_add, Nat.mul_assoc]
    rw [e2, Nat.add_mul_div_left _ _ (Nat.two_pow_pos _)]
theorem part_is {n c : Nat} (hn : n < 2 ^ 64) (hc : c ≤ 63) : partN n c 64 = turnN n c := by
  have h := part_high (n := n) hc c (by omega)
  have e : 64 - c + c = 64 := by omega
  rw [e, Nat.mod_eq_of_lt hn] at h
  exact h
theorem turn_lt {n c : Nat} (hn : n < 2 ^ 64) (hc : c ≤ 64) : turnN n c < 2 ^ 64 := by
  unfold turnN
  have h1 := hi_lt hn hc
  have h2 : n % 2 ^ (64 - c) + 1 ≤ 2 ^ (64 - c) := Nat.mod_lt _ (Nat.two_pow_pos _)
  have h3 := Nat.mul_le_mul_left (2 ^ c) h2
  rw [Nat.mul_comm (2 ^ c) (2 ^ (64 - c)), p64 hc, Nat.mul_add, Nat.mul_one] at h3
  omega
theorem turn_bit {n c : Nat} (hn : n < 2 ^ 64) (hc : c ≤ 63) (j : Nat) (hj : j < 64) : (turnN n c).testBit j = n.testBit ((j + 64 - c) % 64) := by
  unfold turnN
  rw [Nat.testBit_two_pow_mul_add _ (hi_lt hn (by omega))]
  split
  · have e : (j + 64 - c) % 64 = j + (64 - c) := by omega
    rw [Nat.testBit_div_two_pow, e]
  · have e : (j + 64 - c) % 64 = j - c := by omega
    rw [Nat.testBit_mod_two_pow, e, decide_eq_true (by omega), Bool.true_and]
theorem turn_turn {n a b : Nat} (hn : n < 2 ^ 64) (ha : a ≤ 63) (hb : b ≤ 63) : turnN (turnN n a) b = turnN n ((a + b) % 64) := by
  have h1 := turn_lt hn (by omega : a ≤ 64)
  refine Nat.eq_of_testBit_eq fun j => ?_
  by_cases hj : j < 64
  · rw [turn_bit h1 hb j hj, turn_bit hn ha _ (by omega), turn_bit hn (by omega) j hj]
    congr 1
    omega
  · have le : 2 ^ 64 ≤ 2 ^ j := Nat.pow_le_pow_right (by decide) (by omega)
    rw [Nat.testBit_lt_two_pow (Nat.lt_of_lt_of_le (turn_lt h1 (by omega)) le), Nat.testBit_lt_two_pow (Nat.lt_of_lt_of_le (turn_lt hn (by omega)) le)]
theorem turn_zero {n : Nat} (hn : n < 2 ^ 64) : turnN n 0 = n := by
  unfold turnN
  rw [Nat.pow_zero, Nat.one_mul, Nat.sub_zero, Nat.mod_eq_of_lt hn, Nat.div_eq_of_lt hn, Nat.add_zero]
/-- what rotated reckons -/
theorem turn_code {n c : Nat} (hn : n < 2 ^ 64) (hc : c ≤ 63) : Builtin.bitAnd (Builtin.bitOr ((n : Int) * 2 ^ c) ((n : Int) / 2 ^ (64 - c))) 18446744073709551615 = ((turnN n c : Nat) : Int) := by
  have h1 : ((n / 2 ^ (64 - c) : Nat) : Int) = (n : Int) / 2 ^ (64 - c) := by
    rw [Int.natCast_ediv, Int.natCast_pow]
    rfl
  have h2 := hi_lt hn (by omega : c ≤ 64)
  have h3 : (n : Int) / 2 ^ (64 - c) < 2 ^ c := by
    rw [← h1]
    have := Int.ofNat_lt.mpr h2
    rw [Int.natCast_pow] at this
    exact this
  rw [or_low (by omega) (by rw [← h1]; exact Int.natCast_nonneg _) h3]
  have e : (18446744073709551615 : Int) = 2 ^ 64 - 1 := by decide
  rw [e, PySem.W.kbt_mask]
  have h5 : n * 2 ^ c = 2 ^ 64 * (n / 2 ^ (64 - c)) + 2 ^ c * (n % 2 ^ (64 - c)) := by
    have h6 : (2 ^ (64 - c) * (n / 2 ^ (64 - c)) + n % 2 ^ (64 - c)) * 2 ^ c = 2 ^ 64 * (n / 2 ^ (64 - c)) + 2 ^ c * (n % 2 ^ (64 - c)) := by
      rw [Nat.add_mul, Nat.mul_right_comm, p64 (by omega), Nat.mul_comm (n % 2 ^ (64 - c))]
    rw [Nat.div_add_mod] at h6
    exact h6
  have h7 : n * 2 ^ c + n / 2 ^ (64 - c) = turnN n c + 2 ^ 64 * (n / 2 ^ (64 - c)) := by
    unfold turnN
    omega
  have h8 : (n : Int) * 2 ^ c + (n : Int) / 2 ^ (64 - c) = ((n * 2 ^ c + n / 2 ^ (64 - c) : Nat) : Int) := by
    rw [← h1, Int.natCast_add, Int.natCast_mul, Int.natCast_pow]
    rfl
  have h9 : (2 : Int) ^ 64 = ((2 ^ 64 : Nat) : Int) := by decide
  rw [h8, h7, h9, ← Int.natCast_emod, Nat.add_mul_mod_self_left, Nat.mod_eq_of_lt (turn_lt hn (by omega))]
def spRotated : Sp := fun vs H Q _ => ∃ (n c : Nat), vs = [.int (n : Int), .int (c : Int)] ∧ n < 2 ^ 64 ∧ c ≤ 63 ∧ Q (.int ((turnN n c : Nat) : Int)) H
theorem use_rotated {n c : Nat} {i : Int} {H : Hp} {Q : VK} {E : XK} (hi : i = (c : Int)) (h1 : n < 2 ^ 64) (h2 : c ≤ 63) (k : Q (.int ((turnN n c : Nat) : Int)) H) : spRotated [.int (n : Int), .int i] H Q E := ⟨n, c, by rw [hi], h1, h2, k⟩
theorem len_rotated {vs : List V} {H : Hp} {Q : VK} {E : XK} (h : spRotated vs H Q E) : vs.length = 2 := by
  obtain ⟨_, _, rfl, _⟩ := h
  rfl
theorem ok_rotated (T : Txt K mg) : Good P w K mg base 1 (ga K "rotated") ["lane", "count"] spRotated := by
  obtain ⟨fd, F⟩ := T.d.def_ 3 (d := d_rotated) rfl
  have b := F.bindsN (ps := ["lane", "count"]) fun _ _ _ _ _ _ us hl => match us, hl with | [_, _], _ => rfl
  refine ⟨fd, F.ok sc_rotated (fun vs H Q E h => len_rotated h) (fun cdv A outer s H vs Q E hr h => ⟨_, PSs.nox ((pss_one (ps_ret (pe_op oAnd (pe_op oOr (pe_op oShl (pv 0) (pv 1)) (pe_op oShr (pv 0) (pe_op oSub pe_int (pv 1)))) (pe_globI T.c_LARGEST))))), ?_⟩), b, F.kp, fun_at F⟩
  obtain ⟨n, c, rfl, h1, h2, k⟩ := h
  have e1 : ((c : Int)).toNat = c := Int.toNat_natCast c
  have e2 : (64 - (c : Int)).toNat = 64 - c := by omega
  rw [← turn_code h1 h2] at k
  walk_at "nb.s"
  rw [e1, e2]
  exact k
def laneMax : Int := 18446744073709551615
def spRotate (K : PySem.W.Frag) : Sp := fun vs H Q E => ∃ (v c : V), vs = [v, c] ∧ AnyV H v ∧ AnyV H c ∧ (¬ inR v 0 18446744073709551615 → Rz K "lane" H E) ∧ (inR v 0 18446744073709551615 → ¬ inR c 0 1000 → Rz K "count" H E) ∧
  (∀ n m : Nat, v = .int (n : Int) → c = .int (m : Int) → n < 2 ^ 64 → m ≤ 1000 → ∀ H', Ext H H' → Q (.int ((turnN n (m % 64) : Nat) : Int)) H')
theorem use_rotate {K : PySem.W.Frag} {v c : V} {H : Hp} {Q : VK} {E : XK} (h1 : AnyV H v) (h2 : AnyV H c) (r1 : ¬ inR v 0 18446744073709551615 → Rz K "lane" H E) (r2 : inR v 0 18446744073709551615 → ¬ inR c 0 1000 → Rz K "count" H E)
    (k : ∀ n m : Nat, v = .int (n : Int) → c = .int (m : Int) → n < 2 ^ 64 → m ≤ 1000 → ∀ H', Ext H H' → Q (.int ((turnN n (m % 64) : Nat) : Int)) H') : spRotate K [v, c] H Q E := ⟨v, c, rfl, h1, h2, r1, r2, k⟩
theorem use_rotateOk {K : PySem.W.Frag} {n m : Nat} {H : Hp} {Q : VK} {E : XK} (h1 : n < 2 ^ 64) (h2 : m ≤ 1000) (k : ∀ H', Ext H H' → Q (.int ((turnN n (m % 64) : Nat) : Int)) H') : spRotate K [.int (n : Int), .int (m : Int)] H Q E :=
  use_rotate (.int _) (.int _) (fun z => absurd (inR_int.mpr ⟨by omega, by omega⟩) z) (fun _ z => absurd (inR_int.mpr ⟨by omega, by omega⟩) z) fun n2 m2 e1 e2 _ _ H' e => by
    have e3 : n = n2 := Int.ofNat.inj (V.int.inj e1)
    have e4 : m = m2 := Int.ofNat.inj (V.int.inj e2)
    rw [← e3, ← e4]
    exact k H' e
theorem len_rotate {K : PySem.W.Frag} {vs : List V} {H : Hp} {Q : VK} {E : XK} (h : spRotate K vs H Q E) : vs.length = 2 := by
  obtain ⟨_, _, rfl, _⟩ := h
  rfl
theorem ok_rotate (T : Txt K mg) : Good P w K mg base 4 (ga K "rotate") ["lane", "count"] (spRotate K) := by
  obtain ⟨fd, F⟩ := T.d.def_ 4 (d := d_rotate) rfl
  have b := F.bindsN (ps := ["lane", "count"]) fun _ _ _ _ _ _ us hl => match us, hl with | [_, _], _ => rfl
  obtain ⟨f_rotated, G_rotated, b_rotated, k_rotated, l_rotated⟩ := ok_rotated (P := P) (w := w) (base := base) T
  obtain ⟨f_need_integer, G_need_integer, b_need_integer, k_need_integer, l_need_integer⟩ := ok_need_integer (P := P) (w := w) (base := base) T
  refine ⟨fd, F.ok sc_rotate (fun vs H Q E h => len_rotate h) (fun cdv A outer s H vs Q E hr h => ⟨_, (pss_cons (ps_expr (pe_callS G_need_integer (hr.mono (by decide)) rfl T.g_need_integer k_need_integer b_need_integer (fun σ => L2N.passAt (L2N.takes_of rfl rfl rfl rfl) σ) (pa_cons (pv 0) (pa_cons pe_int (pa_cons (pe_globI T.c_LARGEST) (pa_cons pe_str pa_nil)))))) (pss_cons (ps_expr (pe_callS G_need_integer (hr.mono (by decide)) rfl T.g_need_integer k_need_integer b_need_integer (fun σ => L2N.passAt (L2N.takes_of rfl rfl rfl rfl) σ) (pa_cons (pv 1) (pa_cons pe_int (pa_cons pe_int (pa_cons pe_str pa_nil)))))) (pss_one (ps_ret (pe_call G_rotated (hr.mono (by decide)) rfl T.g_rotated k_rotated b_rotated .nil passN (pa_cons (pv 0) (pa_cons (pe_op oMod (pv 1) pe_int) pa_nil))))))), ?_⟩), b, F.kp, fun_at F⟩
  obtain ⟨v, c, rfl, h1, h2, r1, r2, k⟩ := h
  walk_at "nb.s"
  refine use_need h1 (fun hr H1 e1 => ?_) (fun z => r1 z)
  walk_at "nb.s"
  refine use_need (h2.ext e1) (fun hc H2 e2 => ?_) (fun z => (r2 hr z).ext e1)
  obtain ⟨i, rfl, i0, i1⟩ := hr
  obtain ⟨j, rfl, j0, j1⟩ := hc
  obtain ⟨n, rfl⟩ := Int.eq_ofNat_of_zero_le i0
  obtain ⟨m, rfl⟩ := Int.eq_ofNat_of_zero_le j0
  walk_at "nb.s"
  exact use_rotated (c := m % 64) (by omega) (by omega) (by omega) (k n m rfl rfl (by omega) (by omega) H2 (e1.trans e2))
def spLane : Sp := fun vs H Q _ => ∃ (st : Addr), vs = [.ref st] ∧ StoreOk H st ∧ ∀ (n : Nat) H', Drew H st H' → n < 2 ^ 64 → Q (.int (n : Int)) H'
theorem use_lane {st : Addr} {H : Hp} {Q : VK} {E : XK} (h : StoreOk H st) (k : ∀ (n : Nat) H', Drew H st H' → n < 2 ^ 64 → Q (.int (n : Int)) H') : spLane [.ref st] H Q E := ⟨st, rfl, h, k⟩
theorem pow_63 {w : Int} (h0 : 0 ≤ w) (h1 : w < 64) : 1 ≤ (2 : Int) ^ w.toNat ∧ (2 : Int) ^ w.toNat ≤ 9223372036854775808 := by
  obtain ⟨n, rfl⟩ := Int.eq_ofNat_of_zero_le h0
  rw [Int.toNat_natCast]
  have h2 : (2 : Nat) ^ n ≤ 2 ^ 63 := Nat.pow_le_pow_right (by decide) (by omega)
  have h3 : 1 ≤ (2 : Nat) ^ n := Nat.two_pow_pos n
  have e : ((2 ^ n : Nat) : Int) = (2 : Int) ^ n := by rw [Int.natCast_pow]; rfl
  rw [← e]
  omega
theorem len_law_lane {vs : List V} {H : Hp} {Q : VK} {E : XK} (h : spLane vs H Q E) : vs.length = 1 := by
  obtain ⟨_, rfl, _⟩ := h
  rfl
theorem ok_law_lane (T : Txt K mg) : Good P w K mg base 4 (ga K "_law_lane") ["_law_store"] spLane := by
  obtain ⟨fd, F⟩ := T.d.def_ 16 (d := d_law_lane) rfl
  have b := F.bindsN (ps := ["_law_store"]) fun _ _ _ _ _ _ us hl => match us, hl with | [_], _ => rfl
  obtain ⟨f_law_take, G_law_take, b_law_take, k_law_take, l_law_take⟩ := ok_law_take (P := P) (w := w) (base := base) T
  obtain ⟨f_law_pick, G_law_pick, b_law_pick, k_law_pick, l_law_pick⟩ := ok_law_pick (P := P) (w := w) (base := base) T
  refine ⟨fd, F.ok sc_law_lane (fun vs H Q E h => len_law_lane h) (fun cdv A outer s H vs Q E hr h => ⟨_, PSs.nox ((pss_cons (ps_set (i := 1) sc_law_lane.nd rfl (Or.inl rfl) (pe_call G_law_take (hr.mono (by decide)) rfl T.g__law_take k_law_take b_law_take .nil passN (pa_cons (pv 0) (pa_cons pe_int pa_nil)))) (pss_cons (ps_if (pt_cmpR op_eq (pv 1) pe_int (nomark _)) (pss_one (ps_ret (pe_call G_law_pick (hr.mono (by decide)) rfl T.g__law_pick k_law_pick b_law_pick .nil passN (pa_cons (pv 0) (pa_cons (pe_lst (pa_cons pe_int (pa_cons (pe_subC (v := 18446744073709551615) (pe_powC (v := 18446744073709551616) pe_int pe_int (powS (by decide) (by decide) (by decide) (by decide)) (by decide +kernel)) pe_int (by decide +kernel)) (pa_cons pe_int (pa_cons (pe_powC (v := 9223372036854775808) pe_int pe_int (powS (by decide) (by decide) (by decide) (by decide)) (by decide +kernel)) (pa_cons (pe_powC (v := 4294967296) pe_int pe_int (powS (by decide) (by decide) (by decide) (by decide)) (by decide +kernel)) pa_nil)))))) pa_nil))))) pss_nil) (pss_cons (ps_if (pt_cmpR op_eq (pv 1) pe_int (nomark _)) (pss_one (ps_ret (pe_op oShl pe_int (pe_call G_law_take (hr.mono (by decide)) rfl T.g__law_take k_law_take b_law_take .nil passN (pa_cons (pv 0) (pa_cons pe_int pa_nil)))))) pss_nil) (pss_cons (ps_if (pt_cmpR op_eq (pv 1) pe_int (nomark _)) (pss_one (ps_ret (pe_op oSub (pe_subC (v := 18446744073709551615) (pe_powC (v := 18446744073709551616) pe_int pe_int (powS (by decide) (by decide) (by decide) (by decide)) (by decide +kernel)) pe_int (by decide +kernel)) (pe_op oShl pe_int (pe_call G_law_take (hr.mono (by decide)) rfl T.g__law_take k_law_take b_law_take .nil passN (pa_cons (pv 0) (pa_cons pe_int pa_nil))))))) pss_nil) (pss_one (ps_ret (pe_op oAdd (pe_op oMul (pe_call G_law_take (hr.mono (by decide)) rfl T.g__law_take k_law_take b_law_take .nil passN (pa_cons (pv 0) (pa_cons (pe_powC (v := 4294967296) pe_int pe_int (powS (by decide) (by decide) (by decide) (by decide)) (by decide +kernel)) pa_nil))) (pe_powC (v := 4294967296) pe_int pe_int (powS (by decide) (by decide) (by decide) (by decide)) (by decide +kernel))) (pe_call G_law_take (hr.mono (by decide)) rfl T.g__law_take k_law_take b_law_take .nil passN (pa_cons (pv 0) (pa_cons (pe_powC (v := 4294967296) pe_int pe_int (powS (by decide) (by decide) (by decide) (by decide)) (by decide +kernel)) pa_nil))))))))))), ?_⟩), b, F.kp, fun_at F⟩
  obtain ⟨st, rfl, ho, k⟩ := h
  have kk : ∀ (i : Int) H', Drew H st H' → 0 ≤ i → i < 18446744073709551616 → Q (.int i) H' := fun i H' d h0 h1 => by
    obtain ⟨n, rfl⟩ := Int.eq_ofNat_of_zero_le h0
    exact k n H' d (by omega)
  walk_at "nb.s"
  refine use_take ho (draw_small (by decide)) fun n H1 d z0 z1 => ?_
  walk_at "nb.s"
  refine i_ite (fun h1 => ?_) (fun h1 => ?_)
  · walk_at "nb.s"
    intro p hp
    walk_at "nb.s"
    refine use_pickN d.2 hp (by walk_at "nb.len") fun i v H3 hi d3 => ?_
    have D := d.trans d3
    match i, hi with
    | 0, e => cases e; exact kk _ _ D (by decide) (by decide)
    | 1, e => cases e; exact kk _ _ D (by decide) (by decide)
    | 2, e => cases e; exact kk _ _ D (by decide) (by decide)
    | 3, e => cases e; exact kk _ _ D (by decide) (by decide)
    | 4, e => cases e; exact kk _ _ D (by decide) (by decide)
    | j + 5, e => cases e
  · walk_at "nb.s"
    refine i_ite (fun h2 => ?_) (fun h2 => ?_)
    · walk_at "nb.s"
      refine use_take d.2 (draw_small (by decide)) fun m H2 d2 y0 y1 => ?_
      have y2 : m < 64 := y1
      obtain ⟨p1, p2⟩ := pow_63 y0 y2
      walk_at "nb.s"
      rw [Int.one_mul]
      exact kk _ _ (d.trans d2) (by omega) (by omega)
    · walk_at "nb.s"
      refine i_ite (fun h3 => ?_) (fun h3 => ?_)
      · walk_at "nb.s"
        refine use_take d.2 (draw_small (by decide)) fun m H2 d2 y0 y1 => ?_
        have y2 : m < 64 := y1
        obtain ⟨p1, p2⟩ := pow_63 y0 y2
        walk_at "nb.s"
        rw [Int.one_mul]
        exact kk _ _ (d.trans d2) (by omega) (by omega)
      · walk_at "nb.s"
        refine use_take d.2 (draw_small (by decide)) fun m H2 d2 y0 y1 => ?_
        have y2 : m < 4294967296 := y1
        walk_at "nb.s"
        refine use_take d2.2 (draw_small (by decide)) fun m3 H3 d3 x0 x1 => ?_
        have x2 : m3 < 4294967296 := x1
        walk_at "nb.s"
        exact kk _ _ ((d.trans d2).trans d3) (by omega) (by omega)
def spRot : Sp := fun vs H Q _ => ∃ (n m : Nat), vs = [.int (n : Int), .int (m : Int)] ∧ n < 2 ^ 64 ∧ m ≤ 100000 ∧ Q (.int ((turnN n (m % 64) : Nat) : Int)) H
theorem use_rot {n m : Nat} {i : Int} {H : Hp} {Q : VK} {E : XK} (hi : i = (m : Int)) (h1 : n < 2 ^ 64) (h2 : m ≤ 100000) (k : Q (.int ((turnN n (m % 64) : Nat) : Int)) H) : spRot [.int (n : Int), .int i] H Q E := ⟨n, m, by rw [hi], h1, h2, k⟩
theorem len_law_rot {vs : List V} {H : Hp} {Q : VK} {E : XK} (h : spRot vs H Q E) : vs.length = 2 := by
  obtain ⟨_, _, rfl, _⟩ := h
  rfl
theorem ok_law_rot (T : Txt K mg) : Good P w K mg base 1 (ga K "_law_rot") ["_law_lane_here", "_law_count"] spRot := by
  obtain ⟨fd, F⟩ := T.d.def_ 17 (d := d_law_rot) rfl
  have b := F.bindsN (ps := ["_law_lane_here", "_law_count"]) fun _ _ _ _ _ _ us hl => match us, hl with | [_, _], _ => rfl
  refine ⟨fd, F.ok sc_law_rot (fun vs H Q E h => len_law_rot h) (fun cdv A outer s H vs Q E hr h => ⟨_, PSs.nox ((pss_cons (ps_set (i := 2) sc_law_rot.nd rfl (Or.inl rfl) pe_int) (pss_cons (ps_for PassesOwn.never rfl (pi_range1 rfl T.b_range (pa_cons pe_int pa_nil)) (pg_name (i := 3) sc_law_rot.nd rfl (Or.inl rfl)) (pss_one (ps_if (pt_cmpR op_eq (pe_op oAnd (pe_op oShr (pv 0) (pv 3)) pe_int) pe_int (nomark _)) (pss_one (ps_set (i := 2) sc_law_rot.nd rfl (Or.inl rfl) (pe_op oAdd (pv 2) (pe_op oShl pe_int (pe_op oMod (pe_callTy (kInt) (by rfl) T.b_int (by decide +kernel) (pa_cons (pe_op oAdd (pv 3) (pv 1)) pa_nil)) pe_int))))) pss_nil))) (pss_one (ps_ret (pv 2)))))), ?_⟩), b, F.kp, fun_at F⟩
  obtain ⟨n, m, rfl, h1, h2, k⟩ := h
  rw [← part_is h1 (by omega)] at k
  walk_at "nb.s"
  refine i_rng1 (by decide) (by decide) ?_
  refine fr_of (fun i σ' H' => ∃ v, σ' = [some (.int (n : Int)), some (.int (m : Int)), some (.int ((partN n (m % 64) i : Nat) : Int)), v] ∧ H' = H) ⟨_, rfl, rfl⟩ ?_ ?_
  · rintro i σ' H' hi ⟨v, rfl, rfl⟩
    have hi2 : i < 64 := hi
    have e0 : (0 + (i : Int)).toNat = i := by omega
    have eb : Builtin.bitAnd ((n : Int) / 2 ^ (0 + (i : Int)).toNat) 1 = ((n / 2 ^ i % 2 : Nat) : Int) := by
      rw [e0, bitAnd_m1, Int.natCast_emod, Int.natCast_ediv, Int.natCast_pow]
      rfl
    have e3 : ((0 + (i : Int) + (m : Int)) % 64).toNat = (i + m % 64) % 64 := by omega
    walk_at "nb.s"
    rw [eb]
    refine i_ite (fun g => ?_) (fun g => ?_)
    · have ep : ((partN n (m % 64) (i + 1) : Nat) : Int) = ((partN n (m % 64) i : Nat) : Int) + 1 * 2 ^ ((0 + (i : Int) + (m : Int)) % 64).toNat := by
        show ((partN n (m % 64) i + (if n / 2 ^ i % 2 = 1 then 2 ^ ((i + m % 64) % 64) else 0) : Nat) : Int) = _
        rw [if_pos (by omega), Int.natCast_add, Int.natCast_pow, Int.one_mul, e3]
        rfl
      walk_at "nb.s"
      exact ⟨_, by rw [ep]; rfl, rfl⟩
    · have ep : ((partN n (m % 64) (i + 1) : Nat) : Int) = ((partN n (m % 64) i : Nat) : Int) := by
        show ((partN n (m % 64) i + (if n / 2 ^ i % 2 = 1 then 2 ^ ((i + m % 64) % 64) else 0) : Nat) : Int) = _
        rw [if_neg (by omega), Nat.add_zero]
      walk_at "nb.s"
      exact ⟨_, by rw [ep]; rfl, rfl⟩
  · rintro σ' H' ⟨v, rfl, rfl⟩
    walk_at "nb.s"
    exact k
/-- the flags of _law_kin, by the class's name -/
def kinB (x D : Str) : Bool := decide (D = x) || decide (D = "NoiseboundError")
def kinN : List Str := ["OutOfRange", "BadItem", "BadLength", "BadText", "BadPadding", "WrongPhase", "NotInvertible", "BadRing", "BadParameters", "UnknownName", "DifferentRings", "BadKey", "BadLetter", "BadKeyText", "BadRecord", "BadCommand", "NoEntry", "NothingLeft"]
def kinF (x : Str) (i : Nat) : Option V := match kinN[i]? with
  | some D => if kinB x D = true then some (.str D) else none
  | none => none
def kinL (x : Str) (n : Nat) : List V := (kinN.take n).map fun D => .bl (kinB x D)
def kinW (n : Nat) : List V := (kinN.take n).map V.str
/-- told: the names of the kinds of the error of the class x -/
def spKin (K : PySem.W.Frag) (x : Str) (a : Addr) (c : Value) (d : Option Addr) : Sp := fun vs H Q _ => ∃ (dd : Addr) (ys : List (Str × V)), vs = [.ref a] ∧ c = .ref (ga K x) ∧ d = some dd ∧ H dd = some (.xd ys) ∧
  ∀ t H', Ext H H' → H t = none → H' t = some (.lst ((List.range 18).filterMap (kinF x))) → Q (.ref t) H'
theorem ok_law_kin (T : Txt K mg) {x : Str} {fs : List Str} (E : ErrT K errNames "NoiseboundError" x fs) : GoodP P w K mg base 1 (ga K "_law_kin") ["_law_error"] (spKin K x) := by
  obtain ⟨fd, F⟩ := T.d.def_ 14 (d := d_law_kin) rfl
  have b := F.bindsN (ps := ["_law_error"]) fun _ _ _ _ _ _ us hl => match us, hl with | [_], _ => rfl
  refine ⟨fd, fnP_of F sc_law_kin (fun a c d vs H Q E h => ?_) (fun cdv A outer s H vs Q E2 p c d hot hz hr h => ?_), b, F.kp, fun_at F⟩
  · obtain ⟨dd, ys, rfl, _⟩ := h
    rfl
  · obtain ⟨dd, ys, rfl, rfl, rfl, hd, k⟩ := h
    have hp : (p.1, p.2) ∈ [p] := by
      cases p
      exact List.mem_cons_self ..
    have hf : ∃ vs, p.2.data = .fields vs := by
      obtain ⟨_, vs, e, _⟩ := hot
      exact ⟨vs, e⟩
    refine ⟨_, PSs.nox ((pss_cons (ps_set (i := 1) sc_law_kin.nd rfl (Or.inr rfl) (pe_lst (pa_cons (pe_callB (call_isP E.e hp hz hf) (by rfl) T.b_isinstance (by decide +kernel) (pa_cons (pv 0) (pa_cons (pe_glob (v := .ref (ga K "OutOfRange")) rfl T.g_OutOfRange rfl) pa_nil))) (pa_cons (pe_callB (call_isP E.e hp hz hf) (by rfl) T.b_isinstance (by decide +kernel) (pa_cons (pv 0) (pa_cons (pe_glob (v := .ref (ga K "BadItem")) rfl T.g_BadItem rfl) pa_nil))) (pa_cons (pe_callB (call_isP E.e hp hz hf) (by rfl) T.b_isinstance (by decide +kernel) (pa_cons (pv 0) (pa_cons (pe_glob (v := .ref (ga K "BadLength")) rfl T.g_BadLength rfl) pa_nil))) pa_nil))))) (pss_cons (ps_set (i := 1) sc_law_kin.nd rfl (Or.inr rfl) (pe_op op_cat (pv 1) (pe_lst (pa_cons (pe_callB (call_isP E.e hp hz hf) (by rfl) T.b_isinstance (by decide +kernel) (pa_cons (pv 0) (pa_cons (pe_glob (v := .ref (ga K "BadText")) rfl T.g_BadText rfl) pa_nil))) (pa_cons (pe_callB (call_isP E.e hp hz hf) (by rfl) T.b_isinstance (by decide +kernel) (pa_cons (pv 0) (pa_cons (pe_glob (v := .ref (ga K "BadPadding")) rfl T.g_BadPadding rfl) pa_nil))) (pa_cons (pe_callB (call_isP E.e hp hz hf) (by rfl) T.b_isinstance (by decide +kernel) (pa_cons (pv 0) (pa_cons (pe_glob (v := .ref (ga K "WrongPhase")) rfl T.g_WrongPhase rfl) pa_nil))) pa_nil)))))) (pss_cons (ps_set (i := 1) sc_law_kin.nd rfl (Or.inr rfl) (pe_op op_cat (pv 1) (pe_lst (pa_cons (pe_callB (call_isP E.e hp hz hf) (by rfl) T.b_isinstance (by decide +kernel) (pa_cons (pv 0) (pa_cons (pe_glob (v := .ref (ga K "NotInvertible")) rfl T.g_NotInvertible rfl) pa_nil))) (pa_cons (pe_callB (call_isP E.e hp hz hf) (by rfl) T.b_isinstance (by decide +kernel) (pa_cons (pv 0) (pa_cons (pe_glob (v := .ref (ga K "BadRing")) rfl T.g_BadRing rfl) pa_nil))) (pa_cons (pe_callB (call_isP E.e hp hz hf) (by rfl) T.b_isinstance (by decide +kernel) (pa_cons (pv 0) (pa_cons (pe_glob (v := .ref (ga K "BadParameters")) rfl T.g_BadParameters rfl) pa_nil))) pa_nil)))))) (pss_cons (ps_set (i := 1) sc_law_kin.nd rfl (Or.inr rfl) (pe_op op_cat (pv 1) (pe_lst (pa_cons (pe_callB (call_isP E.e hp hz hf) (by rfl) T.b_isinstance (by decide +kernel) (pa_cons (pv 0) (pa_cons (pe_glob (v := .ref (ga K "UnknownName")) rfl T.g_UnknownName rfl) pa_nil))) (pa_cons (pe_callB (call_isP E.e hp hz hf) (by rfl) T.b_isinstance (by decide +kernel) (pa_cons (pv 0) (pa_cons (pe_glob (v := .ref (ga K "DifferentRings")) rfl T.g_DifferentRings rfl) pa_nil))) (pa_cons (pe_callB (call_isP E.e hp hz hf) (by rfl) T.b_isinstance (by decide +kernel) (pa_cons (pv 0) (pa_cons (pe_glob (v := .ref (ga K "BadKey")) rfl T.g_BadKey rfl) pa_nil))) pa_nil)))))) (pss_cons (ps_set (i := 1) sc_law_kin.nd rfl (Or.inr rfl) (pe_op op_cat (pv 1) (pe_lst (pa_cons (pe_callB (call_isP E.e hp hz hf) (by rfl) T.b_isinstance (by decide +kernel) (pa_cons (pv 0) (pa_cons (pe_glob (v := .ref (ga K "BadLetter")) rfl T.g_BadLetter rfl) pa_nil))) (pa_cons (pe_callB (call_isP E.e hp hz hf) (by rfl) T.b_isinstance (by decide +kernel) (pa_cons (pv 0) (pa_cons (pe_glob (v := .ref (ga K "BadKeyText")) rfl T.g_BadKeyText rfl) pa_nil))) (pa_cons (pe_callB (call_isP E.e hp hz hf) (by rfl) T.b_isinstance (by decide +kernel) (pa_cons (pv 0) (pa_cons (pe_glob (v := .ref (ga K "BadRecord")) rfl T.g_BadRecord rfl) pa_nil))) pa_nil)))))) (pss_cons (ps_set (i := 1) sc_law_kin.nd rfl (Or.inr rfl) (pe_op op_cat (pv 1) (pe_lst (pa_cons (pe_callB (call_isP E.e hp hz hf) (by rfl) T.b_isinstance (by decide +kernel) (pa_cons (pv 0) (pa_cons (pe_glob (v := .ref (ga K "BadCommand")) rfl T.g_BadCommand rfl) pa_nil))) (pa_cons (pe_callB (call_isP E.e hp hz hf) (by rfl) T.b_isinstance (by decide +kernel) (pa_cons (pv 0) (pa_cons (pe_glob (v := .ref (ga K "NoEntry")) rfl T.g_NoEntry rfl) pa_nil))) (pa_cons (pe_callB (call_isP E.e hp hz hf) (by rfl) T.b_isinstance (by decide +kernel) (pa_cons (pv 0) (pa_cons (pe_glob (v := .ref (ga K "NothingLeft")) rfl T.g_NothingLeft rfl) pa_nil))) pa_nil)))))) (pss_cons (ps_set (i := 2) sc_law_kin.nd rfl (Or.inr rfl) (pe_lst (pa_cons pe_str (pa_cons pe_str (pa_cons pe_str (pa_cons pe_str (pa_cons pe_str (pa_cons pe_str (pa_cons pe_str (pa_cons pe_str pa_nil)))))))))) (pss_cons (ps_set (i := 2) sc_law_kin.nd rfl (Or.inr rfl) (pe_op op_cat (pv 2) (pe_lst (pa_cons pe_str (pa_cons pe_str (pa_cons pe_str (pa_cons pe_str (pa_cons pe_str (pa_cons pe_str pa_nil))))))))) (pss_cons (ps_set (i := 2) sc_law_kin.nd rfl (Or.inr rfl) (pe_op op_cat (pv 2) (pe_lst (pa_cons pe_str (pa_cons pe_str (pa_cons pe_str (pa_cons pe_str pa_nil))))))) (pss_cons (ps_if (PW.pt (pw_or (pt_not (pt_val (pe_callB (call_isP E.e hp hz hf) (by rfl) T.b_isinstance (by decide +kernel) (pa_cons (pv 0) (pa_cons (pe_glob (v := .ref (ga K "NoiseboundError")) rfl T.g_NoiseboundError rfl) pa_nil))))) (pw_or1 (pt_not (pt_val (pe_callB (call_isP E.e hp hz hf) (by rfl) T.b_isinstance (by decide +kernel) (pa_cons (pv 0) (pa_cons (pe_bltn (v := .ty "ValueError") (by rfl) T.b_ValueError (by decide +kernel) rfl) pa_nil)))))))) (pss_one ps_never) pss_nil) (pss_one (ps_ret (pe_lcH (own := [("_law_at", 3)]) (g := gName 3) (tt := _) ⟨p, hot, List.mem_cons_self ..⟩ sc_law_kin.nd rfl T.b_range (pa_cons pe_int pa_nil) (blkOk_by (own := [("_law_at", 3)]) (N := ["_law_error", "_law_flags", "_law_words", "_law_at"]) (sc := defScope s_law_kin) (by decide +kernel)) (fun _ _ _ _ _ => pg_name (i := 3) sc_law_kin.nd rfl (Or.inl rfl)) (fun _ _ _ _ _ => pts_one (pt_val (pe_ix (show IxR _ (rIxL K) from ix_list) (pv 1) (pv 3) (fun _ _ => rfl)))) (fun _ _ _ _ _ => (pe_ix (show IxR _ (rIxL K) from ix_list) (pv 2) (pv 3) (fun _ _ => rfl))))))))))))))))), ?_⟩
    walk_at "nb.s"
    have e0 : Ext H H := .refl H
    refine i_isP E (D := "OutOfRange") (b := kinB x "OutOfRange") (by decide) rfl hd ?_
    walk_at "nb.s"
    refine i_isP E (D := "BadItem") (b := kinB x "BadItem") (by decide) rfl hd ?_
    walk_at "nb.s"
    refine i_isP E (D := "BadLength") (b := kinB x "BadLength") (by decide) rfl hd ?_
    walk_at "nb.s"
    intro l0 n0
    walk_at "nb.s"
    have f : upd H l0 (.lst [.bl (kinB x "OutOfRange"), .bl (kinB x "BadItem"), .bl (kinB x "BadLength")]) l0 = some (.lst (kinL x 3)) := upd_same
    have x1 := Ext.new (o := .lst [.bl (kinB x "OutOfRange"), .bl (kinB x "BadItem"), .bl (kinB x "BadLength")]) n0
    have hd := x1 _ _ hd
    have e0 := e0.trans x1
    generalize upd H l0 (.lst [.bl (kinB x "OutOfRange"), .bl (kinB x "BadItem"), .bl (kinB x "BadLength")]) = G1 at *
    refine i_isP E (D := "BadText") (b := kinB x "BadText") (by decide) rfl hd ?_
    walk_at "nb.s"
    refine i_isP E (D := "BadPadding") (b := kinB x "BadPadding") (by decide) rfl hd ?_
    walk_at "nb.s"
    refine i_isP E (D := "WrongPhase") (b := kinB x "WrongPhase") (by decide) rfl hd ?_
    walk_at "nb.s"
    intro l1 n1
    walk_at "nb.s"
    have fg : upd G1 l1 (.lst [.bl (kinB x "BadText"), .bl (kinB x "BadPadding"), .bl (kinB x "WrongPhase")]) l1 = some (.lst [.bl (kinB x "BadText"), .bl (kinB x "BadPadding"), .bl (kinB x "WrongPhase")]) := upd_same
    have x2 := Ext.new (o := .lst [.bl (kinB x "BadText"), .bl (kinB x "BadPadding"), .bl (kinB x "WrongPhase")]) n1
    have hd := x2 _ _ hd
    have f := x2 _ _ f
    have e0 := e0.trans x2
    generalize upd G1 l1 (.lst [.bl (kinB x "BadText"), .bl (kinB x "BadPadding"), .bl (kinB x "WrongPhase")]) = G2 at *
    refine i_cat f fg (by show 3 + 3 ≤ 16777216; decide) fun c1 m1 => ?_
    walk_at "nb.s"
    have f : upd G2 c1 (.lst (kinL x 3 ++ [.bl (kinB x "BadText"), .bl (kinB x "BadPadding"), .bl (kinB x "WrongPhase")])) c1 = some (.lst (kinL x 6)) := upd_same
    have x3 := Ext.new (o := .lst (kinL x 3 ++ [.bl (kinB x "BadText"), .bl (kinB x "BadPadding"), .bl (kinB x "WrongPhase")])) m1
    have hd := x3 _ _ hd
    have e0 := e0.trans x3
    generalize upd G2 c1 (.lst (kinL x 3 ++ [.bl (kinB x "BadText"), .bl (kinB x "BadPadding"), .bl (kinB x "WrongPhase")])) = G3 at *
    refine i_isP E (D := "NotInvertible") (b := kinB x "NotInvertible") (by decide) rfl hd ?_
    walk_at "nb.s"
    refine i_isP E (D := "BadRing") (b := kinB x "BadRing") (by decide) rfl hd ?_
    walk_at "nb.s"
    refine i_isP E (D := "BadParameters") (b := kinB x "BadParameters") (by decide) rfl hd ?_
    walk_at "nb.s"
    intro l2 n2
    walk_at "nb.s"
    have fg : upd G3 l2 (.lst [.bl (kinB x "NotInvertible"), .bl (kinB x "BadRing"), .bl (kinB x "BadParameters")]) l2 = some (.lst [.bl (kinB x "NotInvertible"), .bl (kinB x "BadRing"), .bl (kinB x "BadParameters")]) := upd_same
    have x4 := Ext.new (o := .lst [.bl (kinB x "NotInvertible"), .bl (kinB x "BadRing"), .bl (kinB x "BadParameters")]) n2
    have hd := x4 _ _ hd
    have f := x4 _ _ f
    have e0 := e0.trans x4
    generalize upd G3 l2 (.lst [.bl (kinB x "NotInvertible"), .bl (kinB x "BadRing"), .bl (kinB x "BadParameters")]) = G4 at *
    refine i_cat f fg (by show 6 + 3 ≤ 16777216; decide) fun c2 m2 => ?_
    walk_at "nb.s"
    have f : upd G4 c2 (.lst (kinL x 6 ++ [.bl (kinB x "NotInvertible"), .bl (kinB x "BadRing"), .bl (kinB x "BadParameters")])) c2 = some (.lst (kinL x 9)) := upd_same
    have x5 := Ext.new (o := .lst (kinL x 6 ++ [.bl (kinB x "NotInvertible"), .bl (kinB x "BadRing"), .bl (kinB x "BadParameters")])) m2
    have hd := x5 _ _ hd
    have e0 := e0.trans x5
    generalize upd G4 c2 (.lst (kinL x 6 ++ [.bl (kinB x "NotInvertible"), .bl (kinB x "BadRing"), .bl (kinB x "BadParameters")])) = G5 at *
    refine i_isP E (D := "UnknownName") (b := kinB x "UnknownName") (by decide) rfl hd ?_
    walk_at "nb.s"
    refine i_isP E (D := "DifferentRings") (b := kinB x "DifferentRings") (by decide) rfl hd ?_
    walk_at "nb.s"
    refine i_isP E (D := "BadKey") (b := kinB x "BadKey") (by decide) rfl hd ?_
    walk_at "nb.s"
    intro l3 n3
    walk_at "nb.s"
    have fg : upd G5 l3 (.lst [.bl (kinB x "UnknownName"), .bl (kinB x "DifferentRings"), .bl (kinB x "BadKey")]) l3 = some (.lst [.bl (kinB x "UnknownName"), .bl (kinB x "DifferentRings"), .bl (kinB x "BadKey")]) := upd_same
    have x6 := Ext.new (o := .lst [.bl (kinB x "UnknownName"), .bl (kinB x "DifferentRings"), .bl (kinB x "BadKey")]) n3
    have hd := x6 _ _ hd
    have f := x6 _ _ f
    have e0 := e0.trans x6
    generalize upd G5 l3 (.lst [.bl (kinB x "UnknownName"), .bl (kinB x "DifferentRings"), .bl (kinB x "BadKey")]) = G6 at *
    refine i_cat f fg (by show 9 + 3 ≤ 16777216; decide) fun c3 m3 => ?_
    walk_at "nb.s"
    have f : upd G6 c3 (.lst (kinL x 9 ++ [.bl (kinB x "UnknownName"), .bl (kinB x "DifferentRings"), .bl (kinB x "BadKey")])) c3 = some (.lst (kinL x 12)) := upd_same
    have x7 := Ext.new (o := .lst (kinL x 9 ++ [.bl (kinB x "UnknownName"), .bl (kinB x "DifferentRings"), .bl (kinB x "BadKey")])) m3
    have hd := x7 _ _ hd
    have e0 := e0.trans x7
    generalize upd G6 c3 (.lst (kinL x 9 ++ [.bl (kinB x "UnknownName"), .bl (kinB x "DifferentRings"), .bl (kinB x "BadKey")])) = G7 at *
    refine i_isP E (D := "BadLetter") (b := kinB x "BadLetter") (by decide) rfl hd ?_
    walk_at "nb.s"
    refine i_isP E (D := "BadKeyText") (b := kinB x "BadKeyText") (by decide) rfl hd ?_
    walk_at "nb.s"
    refine i_isP E (D := "BadRecord") (b := kinB x "BadRecord") (by decide) rfl hd ?_
    walk_at "nb.s"
    intro l4 n4
    walk_at "nb.s"
    have fg : upd G7 l4 (.lst [.bl (kinB x "BadLetter"), .bl (kinB x "BadKeyText"), .bl (kinB x "BadRecord")]) l4 = some (.lst [.bl (kinB x "BadLetter"), .bl (kinB x "BadKeyText"), .bl (kinB x "BadRecord")]) := upd_same
    have x8 := Ext.new (o := .lst [.bl (kinB x "BadLetter"), .bl (kinB x "BadKeyText"), .bl (kinB x "BadRecord")]) n4
    have hd := x8 _ _ hd
    have f := x8 _ _ f
    have e0 := e0.trans x8
    generalize upd G7 l4 (.lst [.bl (kinB x "BadLetter"), .bl (kinB x "BadKeyText"), .bl (kinB x "BadRecord")]) = G8 at *
    refine i_cat f fg (by show 12 + 3 ≤ 16777216; decide) fun c4 m4 => ?_
    walk_at "nb.s"
    have f : upd G8 c4 (.lst (kinL x 12 ++ [.bl (kinB x "BadLetter"), .bl (kinB x "BadKeyText"), .bl (kinB x "BadRecord")])) c4 = some (.lst (kinL x 15)) := upd_same
    have x9 := Ext.new (o := .lst (kinL x 12 ++ [.bl (kinB x "BadLetter"), .bl (kinB x "BadKeyText"), .bl (kinB x "BadRecord")])) m4
    have hd := x9 _ _ hd
    have e0 := e0.trans x9
    generalize upd G8 c4 (.lst (kinL x 12 ++ [.bl (kinB x "BadLetter"), .bl (kinB x "BadKeyText"), .bl (kinB x "BadRecord")])) = G9 at *
    refine i_isP E (D := "BadCommand") (b := kinB x "BadCommand") (by decide) rfl hd ?_
    walk_at "nb.s"
    refine i_isP E (D := "NoEntry") (b := kinB x "NoEntry") (by decide) rfl hd ?_
    walk_at "nb.s"
    refine i_isP E (D := "NothingLeft") (b := kinB x "NothingLeft") (by decide) rfl hd ?_
    walk_at "nb.s"
    intro l5 n5
    walk_at "nb.s"
    have fg : upd G9 l5 (.lst [.bl (kinB x "BadCommand"), .bl (kinB x "NoEntry"), .bl (kinB x "NothingLeft")]) l5 = some (.lst [.bl (kinB x "BadCommand"), .bl (kinB x "NoEntry"), .bl (kinB x "NothingLeft")]) := upd_same
    have x10 := Ext.new (o := .lst [.bl (kinB x "BadCommand"), .bl (kinB x "NoEntry"), .bl (kinB x "NothingLeft")]) n5
    have hd := x10 _ _ hd
    have f := x10 _ _ f
    have e0 := e0.trans x10
    generalize upd G9 l5 (.lst [.bl (kinB x "BadCommand"), .bl (kinB x "NoEntry"), .bl (kinB x "NothingLeft")]) = G10 at *
    refine i_cat f fg (by show 15 + 3 ≤ 16777216; decide) fun c5 m5 => ?_
    walk_at "nb.s"
    have f : upd G10 c5 (.lst (kinL x 15 ++ [.bl (kinB x "BadCommand"), .bl (kinB x "NoEntry"), .bl (kinB x "NothingLeft")])) c5 = some (.lst (kinL x 18)) := upd_same
    have x11 := Ext.new (o := .lst (kinL x 15 ++ [.bl (kinB x "BadCommand"), .bl (kinB x "NoEntry"), .bl (kinB x "NothingLeft")])) m5
    have hd := x11 _ _ hd
    have e0 := e0.trans x11
    generalize upd G10 c5 (.lst (kinL x 15 ++ [.bl (kinB x "BadCommand"), .bl (kinB x "NoEntry"), .bl (kinB x "NothingLeft")])) = G11 at *
    intro u0 v0
    walk_at "nb.s"
    have wd : upd G11 u0 (.lst [.str "OutOfRange", .str "BadItem", .str "BadLength", .str "BadText", .str "BadPadding", .str "WrongPhase", .str "NotInvertible", .str "BadRing"]) u0 = some (.lst (kinW 8)) := upd_same
    have x12 := Ext.new (o := .lst [.str "OutOfRange", .str "BadItem", .str "BadLength", .str "BadText", .str "BadPadding", .str "WrongPhase", .str "NotInvertible", .str "BadRing"]) v0
    have hd := x12 _ _ hd
    have f := x12 _ _ f
    have e0 := e0.trans x12
    generalize upd G11 u0 (.lst [.str "OutOfRange", .str "BadItem", .str "BadLength", .str "BadText", .str "BadPadding", .str "WrongPhase", .str "NotInvertible", .str "BadRing"]) = G12 at *
    intro u1 v1
    walk_at "nb.s"
    have wdg : upd G12 u1 (.lst [.str "BadParameters", .str "UnknownName", .str "DifferentRings", .str "BadKey", .str "BadLetter", .str "BadKeyText"]) u1 = some (.lst [.str "BadParameters", .str "UnknownName", .str "DifferentRings", .str "BadKey", .str "BadLetter", .str "BadKeyText"]) := upd_same
    have x13 := Ext.new (o := .lst [.str "BadParameters", .str "UnknownName", .str "DifferentRings", .str "BadKey", .str "BadLetter", .str "BadKeyText"]) v1
    have hd := x13 _ _ hd
    have f := x13 _ _ f
    have wd := x13 _ _ wd
    have e0 := e0.trans x13
    generalize upd G12 u1 (.lst [.str "BadParameters", .str "UnknownName", .str "DifferentRings", .str "BadKey", .str "BadLetter", .str "BadKeyText"]) = G13 at *
    refine i_cat wd wdg (by show 8 + 6 ≤ 16777216; decide) fun d1 y1 => ?_
    walk_at "nb.s"
    have wd : upd G13 d1 (.lst (kinW 8 ++ [.str "BadParameters", .str "UnknownName", .str "DifferentRings", .str "BadKey", .str "BadLetter", .str "BadKeyText"])) d1 = some (.lst (kinW 14)) := upd_same
    have x14 := Ext.new (o := .lst (kinW 8 ++ [.str "BadParameters", .str "UnknownName", .str "DifferentRings", .str "BadKey", .str "BadLetter", .str "BadKeyText"])) y1
    have hd := x14 _ _ hd
    have f := x14 _ _ f
    have e0 := e0.trans x14
    generalize upd G13 d1 (.lst (kinW 8 ++ [.str "BadParameters", .str "UnknownName", .str "DifferentRings", .str "BadKey", .str "BadLetter", .str "BadKeyText"])) = G14 at *
    intro u2 v2
    walk_at "nb.s"
    have wdg : upd G14 u2 (.lst [.str "BadRecord", .str "BadCommand", .str "NoEntry", .str "NothingLeft"]) u2 = some (.lst [.str "BadRecord", .str "BadCommand", .str "NoEntry", .str "NothingLeft"]) := upd_same
    have x15 := Ext.new (o := .lst [.str "BadRecord", .str "BadCommand", .str "NoEntry", .str "NothingLeft"]) v2
    have hd := x15 _ _ hd
    have f := x15 _ _ f
    have wd := x15 _ _ wd
    have e0 := e0.trans x15
    generalize upd G14 u2 (.lst [.str "BadRecord", .str "BadCommand", .str "NoEntry", .str "NothingLeft"]) = G15 at *
    refine i_cat wd wdg (by show 14 + 4 ≤ 16777216; decide) fun d2 y2 => ?_
    walk_at "nb.s"
    have wd : upd G15 d2 (.lst (kinW 14 ++ [.str "BadRecord", .str "BadCommand", .str "NoEntry", .str "NothingLeft"])) d2 = some (.lst (kinW 18)) := upd_same
    have x16 := Ext.new (o := .lst (kinW 14 ++ [.str "BadRecord", .str "BadCommand", .str "NoEntry", .str "NothingLeft"])) y2
    have hd := x16 _ _ hd
    have f := x16 _ _ f
    have e0 := e0.trans x16
    generalize upd G15 d2 (.lst (kinW 14 ++ [.str "BadRecord", .str "BadCommand", .str "NoEntry", .str "NothingLeft"])) = G16 at *
    refine i_isP E (D := "NoiseboundError") (b := true) (by decide) (by simp) hd ?_
    walk_at "nb.s"
    refine i_isPV E hd ?_
    walk_at "nb.s"
    refine i_rng1 (by decide) (by decide) ?_
    refine crf_of (fun G => Ext G16 G) (kinF x) (by decide) (keeps_ext _) (fun y => rfl) (fun i H2 Q2 hi e q2 => ?_) (fun D H2 nD e hD => ?_)
    · have hi2 : i < kinN.length := hi
      obtain ⟨D, hD⟩ : ∃ D, kinN[i]? = some D := ⟨_, List.getElem?_eq_getElem hi2⟩
      have a1 : atI (kinL x 18) ((i : Nat) : Int) = some (.bl (kinB x D)) := Evl_at (by
        show (kinN.map fun D => V.bl (kinB x D))[i]? = _
        rw [List.getElem?_map, hD]
        rfl)
      have a2 : atI (kinW 18) ((i : Nat) : Int) = some (.str D) := Evl_at (by
        show (kinN.map V.str)[i]? = _
        rw [List.getElem?_map, hD]
        rfl)
      have z := q2 H2 e (.inl (.refl _))
      have zt : kinB x D = true → kinF x i = some (.str D) := fun hb => by
        unfold kinF
        rw [hD]
        exact if_pos hb
      have zf : kinB x D = false → kinF x i = none := fun hb => by
        unfold kinF
        rw [hD]
        exact if_neg (by rw [hb]; exact Bool.false_ne_true)
      rw [Int.zero_add]
      walk_at "nb.s"
      refine i_ixL (sqL_of (e _ _ f)) a1 ?_
      walk_at "nb.s"
      cases hb : kinB x D with
      | true =>
        rw [zt hb] at z
        walk_at "nb.s"
        exact i_ixL (sqL_of (e _ _ wd)) a2 z
      | false =>
        rw [zf hb] at z
        walk_at "nb.s"
        exact z
    · exact k D H2 (e0.trans e) (e0.free nD) hD
/-- told of an error OutOfRange(..), held at a -/
def spTell (K : PySem.W.Frag) (a : Addr) (c : Value) (d : Option Addr) : Sp := fun vs H Q _ => ∃ (dd : Addr) (z0 : Str), vs = [.ref a] ∧ c = .ref (ga K "OutOfRange") ∧ d = some dd ∧ H dd = some (.xd [("name", .str z0)]) ∧
  ∀ t H', Ext H H' → H t = none → H' t = some (.tup [.str "refused", .str "OutOfRange", .str z0]) → Q (.ref t) H'
theorem kin_OutOfRange : (List.range 18).filterMap (kinF "OutOfRange") = [.str "OutOfRange"] := by rfl
theorem ok_law_refusal (T : Txt K mg) : GoodP P w K mg base 2 (ga K "_law_refusal") ["_law_error"] (spTell K) := by
  obtain ⟨fd, F⟩ := T.d.def_ 15 (d := d_law_refusal) rfl
  have b := F.bindsN (ps := ["_law_error"]) fun _ _ _ _ _ _ us hl => match us, hl with | [_], _ => rfl
  obtain ⟨f_law_kin, G_law_kin, b_law_kin, k_law_kin, l_law_kin⟩ := ok_law_kin (P := P) (w := w) (base := base) T T.e_OutOfRange
  refine ⟨fd, fnP_of F sc_law_refusal (fun a c d vs H Q E h => ?_) (fun cdv A outer s H vs Q E p c d hot hz hr h => ?_), b, F.kp, fun_at F⟩
  · obtain ⟨dd, z0, rfl, _⟩ := h
    rfl
  · obtain ⟨dd, z0, rfl, rfl, rfl, hd, k⟩ := h
    have hp : (p.1, p.2) ∈ [p] := by
      cases p
      exact List.mem_cons_self ..
    have hf : ∃ vs, p.2.data = .fields vs := by
      obtain ⟨_, vs, e, _⟩ := hot
      exact ⟨vs, e⟩
    refine ⟨_, PSs.nox ((pss_cons (ps_set (i := 1) sc_law_refusal.nd rfl (Or.inl rfl) (pe_callP (p := p) G_law_kin (hr.mono (by decide)) hot hz (List.mem_cons_self ..) rfl T.g__law_kin k_law_kin b_law_kin (pa_cons (pv 0) pa_nil))) (pss_cons (ps_if (pt_cmpR op_ne (pe_callB (kLen) (by rfl) T.b_len (by decide +kernel) (pa_cons (pv 1) pa_nil)) pe_int (nomark _)) (pss_one ps_never) pss_nil) (pss_cons (ps_if (pt_val (pe_callB (call_isP T.e_OutOfRange.e hp hz hf) (by rfl) T.b_isinstance (by decide +kernel) (pa_cons (pv 0) (pa_cons (pe_glob (v := .ref (ga K "OutOfRange")) rfl T.g_OutOfRange rfl) pa_nil)))) (pss_one (ps_ret (pe_tup (pa_cons pe_str (pa_cons (pe_ix ix_list (pv 1) pe_int (fun _ _ => rfl)) (pa_cons (pe_errFld T.e_OutOfRange.e.f (T.e_OutOfRange.n _ (by decide)) hp hz hf (pv 0)) pa_nil)))))) pss_nil) (pss_cons (ps_if (pt_val (pe_callB (call_isP T.e_OutOfRange.e hp hz hf) (by rfl) T.b_isinstance (by decide +kernel) (pa_cons (pv 0) (pa_cons (pe_glob (v := .ref (ga K "BadItem")) rfl T.g_BadItem rfl) pa_nil)))) (pss_one ps_never) pss_nil) (pss_cons (ps_if (pt_val (pe_callB (call_isP T.e_OutOfRange.e hp hz hf) (by rfl) T.b_isinstance (by decide +kernel) (pa_cons (pv 0) (pa_cons (pe_glob (v := .ref (ga K "BadLength")) rfl T.g_BadLength rfl) pa_nil)))) (pss_one ps_never) pss_nil) (pss_cons (ps_if (pt_val (pe_callB (call_isP T.e_OutOfRange.e hp hz hf) (by rfl) T.b_isinstance (by decide +kernel) (pa_cons (pv 0) (pa_cons (pe_glob (v := .ref (ga K "BadText")) rfl T.g_BadText rfl) pa_nil)))) (pss_one ps_never) pss_nil) (pss_cons (ps_if (pt_val (pe_callB (call_isP T.e_OutOfRange.e hp hz hf) (by rfl) T.b_isinstance (by decide +kernel) (pa_cons (pv 0) (pa_cons (pe_glob (v := .ref (ga K "NotInvertible")) rfl T.g_NotInvertible rfl) pa_nil)))) (pss_one ps_never) pss_nil) (pss_cons (ps_if (pt_val (pe_callB (call_isP T.e_OutOfRange.e hp hz hf) (by rfl) T.b_isinstance (by decide +kernel) (pa_cons (pv 0) (pa_cons (pe_glob (v := .ref (ga K "BadRing")) rfl T.g_BadRing rfl) pa_nil)))) (pss_one ps_never) pss_nil) (pss_cons (ps_if (pt_val (pe_callB (call_isP T.e_OutOfRange.e hp hz hf) (by rfl) T.b_isinstance (by decide +kernel) (pa_cons (pv 0) (pa_cons (pe_glob (v := .ref (ga K "BadParameters")) rfl T.g_BadParameters rfl) pa_nil)))) (pss_one ps_never) pss_nil) (pss_cons (ps_if (PW.pt (pw_or (pt_val (pe_callB (call_isP T.e_OutOfRange.e hp hz hf) (by rfl) T.b_isinstance (by decide +kernel) (pa_cons (pv 0) (pa_cons (pe_glob (v := .ref (ga K "UnknownName")) rfl T.g_UnknownName rfl) pa_nil)))) (pw_or1 (pt_val (pe_callB (call_isP T.e_OutOfRange.e hp hz hf) (by rfl) T.b_isinstance (by decide +kernel) (pa_cons (pv 0) (pa_cons (pe_glob (v := .ref (ga K "NoEntry")) rfl T.g_NoEntry rfl) pa_nil))))))) (pss_one (ps_ret (pe_tup (pa_cons pe_str (pa_cons (pe_ix ix_list (pv 1) pe_int (fun _ _ => rfl)) (pa_cons (pe_errFld T.e_OutOfRange.e.f (T.e_OutOfRange.n _ (by decide)) hp hz hf (pv 0)) pa_nil)))))) pss_nil) (pss_cons (ps_if (PW.pt (pw_or (pt_val (pe_callB (call_isP T.e_OutOfRange.e hp hz hf) (by rfl) T.b_isinstance (by decide +kernel) (pa_cons (pv 0) (pa_cons (pe_glob (v := .ref (ga K "BadKey")) rfl T.g_BadKey rfl) pa_nil)))) (pw_or1 (pt_val (pe_callB (call_isP T.e_OutOfRange.e hp hz hf) (by rfl) T.b_isinstance (by decide +kernel) (pa_cons (pv 0) (pa_cons (pe_glob (v := .ref (ga K "BadLetter")) rfl T.g_BadLetter rfl) pa_nil))))))) (pss_one ps_never) pss_nil) (pss_cons (ps_if (pt_val (pe_callB (call_isP T.e_OutOfRange.e hp hz hf) (by rfl) T.b_isinstance (by decide +kernel) (pa_cons (pv 0) (pa_cons (pe_glob (v := .ref (ga K "BadKeyText")) rfl T.g_BadKeyText rfl) pa_nil)))) (pss_one ps_never) pss_nil) (pss_cons (ps_if (pt_val (pe_callB (call_isP T.e_OutOfRange.e hp hz hf) (by rfl) T.b_isinstance (by decide +kernel) (pa_cons (pv 0) (pa_cons (pe_glob (v := .ref (ga K "BadRecord")) rfl T.g_BadRecord rfl) pa_nil)))) (pss_one ps_never) pss_nil) (pss_cons (ps_if (pt_val (pe_callB (call_isP T.e_OutOfRange.e hp hz hf) (by rfl) T.b_isinstance (by decide +kernel) (pa_cons (pv 0) (pa_cons (pe_glob (v := .ref (ga K "BadCommand")) rfl T.g_BadCommand rfl) pa_nil)))) (pss_one ps_never) pss_nil) (pss_cons (ps_if (pt_val (pe_callB (call_isP T.e_OutOfRange.e hp hz hf) (by rfl) T.b_isinstance (by decide +kernel) (pa_cons (pv 0) (pa_cons (pe_glob (v := .ref (ga K "NothingLeft")) rfl T.g_NothingLeft rfl) pa_nil)))) (pss_one ps_never) pss_nil) (pss_one ps_never))))))))))))))))), ?_⟩
    walk_at "nb.s"
    refine ⟨dd, _, rfl, rfl, rfl, hd, fun t H1 e1 nt ht => ?_⟩
    rw [kin_OutOfRange] at ht
    have hd1 := e1 _ _ hd
    walk_at "nb.s"
    refine i_iteN (fun z => absurd (by decide) z) (fun _ => ?_)
    walk_at "nb.s"
    refine i_isP T.e_OutOfRange (D := "OutOfRange") (b := true) (by decide) (by decide +kernel) hd1 ?_
    walk_at "nb.s"
    refine ⟨rfl, [("name", .str z0)], .str z0, hd1, rfl, ?_⟩
    walk_at "nb.s"
    intro u nu
    exact k u _ (e1.trans (.new nu)) (e1.free nu) upd_same
def BadL (v c : V) (nm : Str) : Prop := (¬ inR v 0 18446744073709551615 ∧ nm = "lane") ∨ (inR v 0 18446744073709551615 ∧ ¬ inR c 0 1000 ∧ nm = "count")
def spTold : Sp := fun vs H Q _ => ∃ (v c : V), vs = [v, c] ∧ AnyV H v ∧ AnyV H c ∧ (∀ n m : Nat, v = .int (n : Int) → c = .int (m : Int) → n < 2 ^ 64 → m ≤ 1000 → ∀ t H', Ext H H' → H t = none → H' t = some (.tup [.str "told", .int ((turnN n (m % 64) : Nat) : Int)]) → Q (.ref t) H') ∧
  (∀ nm, BadL v c nm → ∀ t H', Ext H H' → H t = none → H' t = some (.tup [.str "refused", .str "OutOfRange", .str nm]) → Q (.ref t) H')
theorem use_toldOk {n m : Nat} {H : Hp} {Q : VK} {E : XK} (h1 : n < 2 ^ 64) (h2 : m ≤ 1000) (k : ∀ t H', Ext H H' → H t = none → H' t = some (.tup [.str "told", .int ((turnN n (m % 64) : Nat) : Int)]) → Q (.ref t) H') : spTold [.int (n : Int), .int (m : Int)] H Q E :=
  ⟨_, _, rfl, .int _, .int _, fun n2 m2 e1 e2 _ _ t H' e nt ht => by
    have e3 : n = n2 := Int.ofNat.inj (V.int.inj e1)
    have e4 : m = m2 := Int.ofNat.inj (V.int.inj e2)
    rw [← e3, ← e4] at ht
    exact k t H' e nt ht, fun nm b => by
    rcases b with ⟨z, _⟩ | ⟨_, z, _⟩
    · exact absurd (inR_int.mpr ⟨by omega, by omega⟩) z
    · exact absurd (inR_int.mpr ⟨by omega, by omega⟩) z⟩
theorem use_toldBad {v c : V} {nm : Str} {H : Hp} {Q : VK} {E : XK} (h1 : AnyV H v) (h2 : AnyV H c) (b : BadL v c nm) (k : ∀ t H', Ext H H' → H t = none → H' t = some (.tup [.str "refused", .str "OutOfRange", .str nm]) → Q (.ref t) H') : spTold [v, c] H Q E :=
  ⟨v, c, rfl, h1, h2, fun n m e1 e2 g1 g2 => by
    subst e1 e2
    rcases b with ⟨z, _⟩ | ⟨_, z, _⟩
    · exact absurd (inR_int.mpr ⟨by omega, by omega⟩) z
    · exact absurd (inR_int.mpr ⟨by omega, by omega⟩) z, fun nm2 b2 t H' e nt ht => by
    have en : nm2 = nm := by
      rcases b with ⟨z, e1⟩ | ⟨y, z, e1⟩ <;> rcases b2 with ⟨z2, e2⟩ | ⟨y2, z2, e2⟩
      · rw [e1, e2]
      · exact absurd y2 z
      · exact absurd y z2
      · rw [e1, e2]
    rw [en] at ht
    exact k t H' e nt ht⟩
theorem len_law_told {vs : List V} {H : Hp} {Q : VK} {E : XK} (h : spTold vs H Q E) : vs.length = 2 := by
  obtain ⟨_, _, rfl, _⟩ := h
  rfl
theorem ok_law_told (T : Txt K mg) : Good P w K mg base 5 (ga K "_law_told") ["_law_lane_here", "_law_many"] spTold := by
  obtain ⟨fd, F⟩ := T.d.def_ 18 (d := d_law_told) rfl
  have b := F.bindsN (ps := ["_law_lane_here", "_law_many"]) fun _ _ _ _ _ _ us hl => match us, hl with | [_, _], _ => rfl
  obtain ⟨f_rotate, G_rotate, b_rotate, k_rotate, l_rotate⟩ := ok_rotate (P := P) (w := w) (base := base) T
  obtain ⟨f_law_refusal, G_law_refusal, b_law_refusal, k_law_refusal, l_law_refusal⟩ := ok_law_refusal (P := P) (w := w) (base := base) T
  refine ⟨fd, F.ok sc_law_told (fun vs H Q E h => len_law_told h) (fun cdv A outer s H vs Q E hr h => ⟨_, PSs.nox ((pss_one (L2N.ps_try_as (i := 2) (c := .ref (ga K "NoiseboundError")) (Wout := fun _ _ _ _ => False) rfl rfl sc_law_told.nd rfl rfl ⟨rfl, by decide, Or.inl T.g_NoiseboundError⟩ takesN (fun W pn xe tk po => (pss_one (ps_ret (pe_tup (pa_cons pe_str (pa_cons (pe_callS G_rotate (hr.mono (by decide)) rfl T.g_rotate k_rotate b_rotate (fun σ => L2N.passAt tk σ) (pa_cons (pv 0) (pa_cons (pv 1) pa_nil))) pa_nil)))))) (fun a oe cls d pn hz hf => (pss_one (ps_ret (pe_callPa G_law_refusal (roomX hr) (hot_suite hz hf) hz.zc (List.mem_cons_self ..) rfl T.g__law_refusal k_law_refusal b_law_refusal (pa_cons (pv 2) pa_nil)))))))), ?_⟩), b, F.kp, fun_at F⟩
  obtain ⟨v, c, rfl, h1, h2, ok, bad⟩ := h
  walk_at "nb.s"
  refine use_rotate h1 h2 (fun z d H' e n x => ?_) (fun y z d H' e n x => ?_) (fun n m e1 e2 g1 g2 H' e => ?_)
  · refine was_of T.e_OutOfRange fun a na => ?_
    walk_at "nb.s"
    exact ⟨d, _, rfl, rfl, rfl, x, fun t H2 e2 nt ht => bad _ (.inl ⟨z, rfl⟩) t _ (e.trans e2) (e.free nt) ht⟩
  · refine was_of T.e_OutOfRange fun a na => ?_
    walk_at "nb.s"
    exact ⟨d, _, rfl, rfl, rfl, x, fun t H2 e2 nt ht => bad _ (.inr ⟨y, z, rfl⟩) t _ (e.trans e2) (e.free nt) ht⟩
  · walk_at "nb.s"
    intro t nt
    exact ok n m e1 e2 g1 g2 t _ (e.trans (.new nt)) (e.free nt) upd_same
def spLongest : Sp := fun vs H Q _ => vs = [] ∧ ∀ N : Int, 10 ^ 59 ≤ N → Q (.int N) H
theorem len_law_longest {vs : List V} {H : Hp} {Q : VK} {E : XK} (h : spLongest vs H Q E) : vs.length = 0 := by
  obtain ⟨rfl, _⟩ := h
  rfl
theorem ok_law_longest (T : Txt K mg) : Good P w K mg base 1 (ga K "_law_longest") [] spLongest := by
  obtain ⟨fd, F⟩ := T.d.def_ 19 (d := d_law_longest) rfl
  have b := F.bindsN (ps := []) fun _ _ _ _ _ _ us hl => match us, hl with | [], _ => rfl
  refine ⟨fd, F.ok sc_law_longest (fun vs H Q E h => len_law_longest h) (fun cdv A outer s H vs Q E hr h => ⟨_, PSs.nox ((pss_cons (ps_set (i := 0) sc_law_longest.nd rfl (Or.inl rfl) (pe_powC (v := 100000000000000000000000000000000000000000000000000000000000) pe_int pe_int (powS (by decide) (by decide) (by decide) (by decide)) (by decide +kernel))) (pss_cons (ps_for PassesOwn.never rfl (pi_range1 rfl T.b_range (pa_cons pe_int pa_nil)) (pg_name (i := 1) sc_law_longest.nd rfl (Or.inl rfl)) (pss_one (ps_set (i := 0) sc_law_longest.nd rfl (Or.inl rfl) (pe_op oMul (pv 0) (pe_powC (v := 1000000000000000000000000000000000000000000000000000000000000) pe_int pe_int (powS (by decide) (by decide) (by decide) (by decide)) (by decide +kernel)))))) (pss_one (ps_ret (pv 0)))))), ?_⟩), b, F.kp, fun_at F⟩
  obtain ⟨rfl, k⟩ := h
  walk_at "nb.s"
  refine i_rng1 (by decide) (by decide) ?_
  refine fr_of (fun i σ' H' => ∃ (x : Int) (v : Option V), σ' = [some (.int x), v] ∧ H' = H ∧ 10 ^ 59 ≤ x ∧ x.natAbs < 2 ^ (200 + 200 * i)) ⟨_, _, rfl, rfl, by decide +kernel, by decide +kernel⟩ ?_ ?_
  · rintro i σ' H' hi ⟨x, v, rfl, rfl, x0, x1⟩
    have hi2 : i < 14 := hi
    have t1 : (10 ^ 60 : Int).natAbs < 2 ^ 200 := by decide +kernel
    have t2 : (1 : Int) ≤ 10 ^ 60 := by decide +kernel
    walk_at "nb.s"
    refine i_mul (mulWide x1 t1 (by omega)) ?_
    have x2 : x * 1 ≤ x * 10 ^ 60 := Int.mul_le_mul_of_nonneg_left t2 (Int.le_trans (by decide +kernel) x0)
    rw [Int.mul_one] at x2
    walk_at "nb.s"
    refine ⟨_, _, rfl, rfl, Int.le_trans x0 x2, ?_⟩
    rw [Int.natAbs_mul]
    have e : 2 ^ (200 + 200 * (i + 1)) = 2 ^ (200 + 200 * i) * 2 ^ 200 := by
      rw [← Nat.pow_add]
      congr 1
    rw [e]
    exact Nat.mul_lt_mul'' x1 t1
  · rintro σ' H' ⟨x, v, rfl, rfl, x0, x1⟩
    walk_at "nb.s"
    exact k x x0
theorem len_law {K : PySem.W.Frag} {vs : List V} {H : Hp} {Q : VK} {E : XK} (h : spLaw K vs H Q E) : vs.length = 1 := by
  obtain ⟨_, _, rfl, _⟩ := h
  rfl
/-- the row of a list of lanes -/
def laneL (ns : List Nat) : List V := ns.map fun n : Nat => V.int (n : Int)
theorem lane_at {ns : List Nat} {i : Nat} {v : V} (e : (laneL ns)[i]? = some v) : ∃ n, v = V.int ((n : Nat) : Int) ∧ ns[i]? = some n := by
  unfold laneL at e
  rw [List.getElem?_map] at e
  cases q : ns[i]? with
  | none => rw [q] at e; cases e
  | some z => rw [q] at e; cases e; exact ⟨z, rfl, rfl⟩
theorem sm_told {H : Hp} {t u : Addr} {z : Str} {i : Int} (h1 : H t = some (.tup [.str z, .int i])) (h2 : H u = some (.tup [.str z, .int i])) : Sm H 1 (.ref t) (.ref u) :=
  Sm.tup h1 h2 rfl (by show 2 ≤ 1000000; decide) fun i a b ha hb => by
    rw [ha] at hb
    cases hb
    match i, ha with
    | 0, z => cases z; exact Sm.flat (.str _)
    | 1, z => cases z; exact Sm.flat (.int _)
    | j + 2, z => cases z
theorem sm_ref {H : Hp} {t u : Addr} {x y z : Str} (h1 : H t = some (.tup [.str x, .str y, .str z])) (h2 : H u = some (.tup [.str x, .str y, .str z])) : Sm H 1 (.ref t) (.ref u) :=
  Sm.tup h1 h2 rfl (by show 3 ≤ 1000000; decide) fun i a b ha hb => by
    rw [ha] at hb
    cases hb
    match i, ha with
    | 0, z => cases z; exact Sm.flat (.str _)
    | 1, z => cases z; exact Sm.flat (.str _)
    | 2, z => cases z; exact Sm.flat (.str _)
    | j + 3, z => cases z
theorem ok_law (T : Txt K mg) : Good P w K mg base 6 (ga K "law") ["_law_script"] (spLaw K) := by
  obtain ⟨fd, F⟩ := T.d.def_ 20 (d := d_law) rfl
  have b := F.bindsN (ps := ["_law_script"]) fun _ _ _ _ _ _ us hl => match us, hl with | [_], _ => rfl
  obtain ⟨f_law_same, G_law_same, b_law_same, k_law_same, l_law_same⟩ := ok_law_same (P := P) (w := w) (base := base) T 1
  obtain ⟨f_law_rot, G_law_rot, b_law_rot, k_law_rot, l_law_rot⟩ := ok_law_rot (P := P) (w := w) (base := base) T
  obtain ⟨f_law_told, G_law_told, b_law_told, k_law_told, l_law_told⟩ := ok_law_told (P := P) (w := w) (base := base) T
  obtain ⟨f_law_beyond, G_law_beyond, b_law_beyond, k_law_beyond, l_law_beyond⟩ := ok_law_beyond (P := P) (w := w) (base := base) T
  obtain ⟨f_law_longest, G_law_longest, b_law_longest, k_law_longest, l_law_longest⟩ := ok_law_longest (P := P) (w := w) (base := base) T
  obtain ⟨f_rotate, G_rotate, b_rotate, k_rotate, l_rotate⟩ := ok_rotate (P := P) (w := w) (base := base) T
  obtain ⟨f_law_between, G_law_between, b_law_between, k_law_between, l_law_between⟩ := ok_law_between (P := P) (w := w) (base := base) T
  obtain ⟨f_law_lane, G_law_lane, b_law_lane, k_law_lane, l_law_lane⟩ := ok_law_lane (P := P) (w := w) (base := base) T
  obtain ⟨f_law_begin, G_law_begin, b_law_begin, k_law_begin, l_law_begin⟩ := ok_law_begin (P := P) (w := w) (base := base) T
  have kb0 : KBn K f_rotate ["lane", "count"] 0 ["count", "lane"] (pick [1, 0]) (pick [1, 0]) := by
    obtain ⟨fd1, F1⟩ := T.d.def_ 4 (d := d_rotate) rfl
    have e := fun_one l_rotate (fun_at F1)
    subst e
    exact kwBinds F1 0 ["count", "lane"] [1, 0] fun _ _ _ _ _ _ us ws h1 h2 => match us, ws, h1, h2 with | [], [_, _], _, _ => rfl
  refine ⟨fd, F.ok sc_law (fun vs H Q E h => len_law h) (fun cdv A outer s H vs Q E hr h => ⟨_, PSs.nox ((pss_cons (ps_set (i := 1) sc_law.nd rfl (Or.inl rfl) (pe_call G_law_begin (hr.mono (by decide)) rfl T.g__law_begin k_law_begin b_law_begin .nil passN (pa_cons (pv 0) pa_nil))) (pss_cons (ps_set (i := 2) sc_law.nd rfl (Or.inl rfl) (pe_subC (v := 18446744073709551615) (pe_powC (v := 18446744073709551616) pe_int pe_int (powS (by decide) (by decide) (by decide) (by decide)) (by decide +kernel)) pe_int (by decide +kernel))) (pss_cons (ps_set (i := 3) sc_law.nd rfl (Or.inl rfl) (pe_lst (pa_cons (pe_call G_law_lane (hr.mono (by decide)) rfl T.g__law_lane k_law_lane b_law_lane .nil passN (pa_cons (pv 1) pa_nil)) (pa_cons (pe_call G_law_lane (hr.mono (by decide)) rfl T.g__law_lane k_law_lane b_law_lane .nil passN (pa_cons (pv 1) pa_nil)) pa_nil)))) (pss_cons (ps_set (i := 4) sc_law.nd rfl (Or.inl rfl) (pe_lst (pa_cons (pe_call G_law_between (hr.mono (by decide)) rfl T.g__law_between k_law_between b_law_between .nil passN (pa_cons (pv 1) (pa_cons pe_int (pa_cons pe_int pa_nil)))) (pa_cons (pe_call G_law_between (hr.mono (by decide)) rfl T.g__law_between k_law_between b_law_between .nil passN (pa_cons (pv 1) (pa_cons pe_int (pa_cons pe_int pa_nil)))) (pa_cons pe_int (pa_cons pe_int (pa_cons pe_int (pa_cons pe_int (pa_cons pe_int (pa_cons pe_int pa_nil)))))))))) (pss_cons (ps_for PassesOwn.never rfl (pi_list (pv 3)) (pg_name (i := 5) sc_law.nd rfl (Or.inl rfl)) (pss_one (ps_for PassesOwn.never rfl (pi_list (pv 4)) (pg_name (i := 9) sc_law.nd rfl (Or.inl rfl)) (pss_cons (ps_set (i := 10) sc_law.nd rfl (Or.inl rfl) (pe_call G_law_rot (hr.mono (by decide)) rfl T.g__law_rot k_law_rot b_law_rot .nil passN (pa_cons (pv 5) (pa_cons (pv 9) pa_nil)))) (pss_cons (ps_if (pt_not (pt_val (pe_call G_law_same (hr.mono (by decide)) rfl T.g__law_same k_law_same b_law_same .nil passN (pa_cons (pe_call G_law_told (hr.mono (by decide)) rfl T.g__law_told k_law_told b_law_told .nil passN (pa_cons (pv 5) (pa_cons (pv 9) pa_nil))) (pa_cons (pe_tup (pa_cons pe_str (pa_cons (pv 10) pa_nil))) pa_nil))))) (pss_one (ps_ret pe_bl)) pss_nil) (pss_cons (ps_set (i := 11) sc_law.nd rfl (Or.inl rfl) (pe_op oSub pe_int (pe_op oAnd (pv 9) pe_int))) (pss_cons (ps_if (PW.pt (pw_or (pt_not (pt_val (pe_call G_law_same (hr.mono (by decide)) rfl T.g__law_same k_law_same b_law_same .nil passN (pa_cons (pe_call G_rotate (hr.mono (by decide)) rfl T.g_rotate k_rotate b_rotate .nil passN (pa_cons (pv 10) (pa_cons (pv 11) pa_nil))) (pa_cons (pv 5) pa_nil))))) (pw_or1 (pt_not (pt_val (pe_call G_law_same (hr.mono (by decide)) rfl T.g__law_same k_law_same b_law_same .nil passN (pa_cons (pe_callN0 (E := fun _ => E0) G_rotate (hr.mono (by decide)) rfl T.g_rotate k_rotate kb0 (fun σ => passAtN) (pk_cons (pv 11) (pk_cons (pv 10) pk_nil))) (pa_cons (pv 5) pa_nil)))))))) (pss_one (ps_ret pe_bl)) pss_nil) (pss_one (ps_if (pt_cmpR oLe (pe_op oAdd (pv 9) (pe_ix ix_list (pv 4) pe_int (fun _ _ => rfl))) pe_int (nomark _)) (pss_one (ps_if (pt_not (pt_val (pe_call G_law_same (hr.mono (by decide)) rfl T.g__law_same k_law_same b_law_same .nil passN (pa_cons (pe_call G_rotate (hr.mono (by decide)) rfl T.g_rotate k_rotate b_rotate .nil passN (pa_cons (pv 10) (pa_cons (pe_ix ix_list (pv 4) pe_int (fun _ _ => rfl)) pa_nil))) (pa_cons (pe_call G_law_rot (hr.mono (by decide)) rfl T.g__law_rot k_law_rot b_law_rot .nil passN (pa_cons (pv 5) (pa_cons (pe_op oAdd (pv 9) (pe_ix ix_list (pv 4) pe_int (fun _ _ => rfl))) pa_nil))) pa_nil))))) (pss_one (ps_ret pe_bl)) pss_nil)) pss_nil))))))))) (pss_cons (ps_set (i := 6) sc_law.nd rfl (Or.inl rfl) (pe_lst (pa_cons (pe_call0 G_law_longest (hr.mono (by decide)) rfl T.g__law_longest k_law_longest b_law_longest .nil passN) (pa_cons (pe_op oSub pe_int (pe_call0 G_law_longest (hr.mono (by decide)) rfl T.g__law_longest k_law_longest b_law_longest .nil passN)) (pa_cons pe_dnewK pa_nil))))) (pss_cons (ps_set (i := 7) sc_law.nd rfl (Or.inl rfl) (pe_op op_cat (pe_lst (pa_cons (pe_call G_law_beyond (hr.mono (by decide)) rfl T.g__law_beyond k_law_beyond b_law_beyond .nil passN (pa_cons (pv 1) (pa_cons pe_int (pa_cons (pv 2) pa_nil)))) (pa_cons (pe_call G_law_beyond (hr.mono (by decide)) rfl T.g__law_beyond k_law_beyond b_law_beyond .nil passN (pa_cons (pv 1) (pa_cons pe_int (pa_cons (pv 2) pa_nil)))) (pa_cons (pe_negC (v := -1) pe_int (by decide +kernel)) (pa_cons (pe_op oAdd (pv 2) pe_int) pa_nil))))) (pv 6))) (pss_cons (ps_set (i := 8) sc_law.nd rfl (Or.inl rfl) (pe_op op_cat (pe_lst (pa_cons (pe_call G_law_beyond (hr.mono (by decide)) rfl T.g__law_beyond k_law_beyond b_law_beyond .nil passN (pa_cons (pv 1) (pa_cons pe_int (pa_cons pe_int pa_nil)))) (pa_cons (pe_call G_law_beyond (hr.mono (by decide)) rfl T.g__law_beyond k_law_beyond b_law_beyond .nil passN (pa_cons (pv 1) (pa_cons pe_int (pa_cons pe_int pa_nil)))) (pa_cons (pe_negC (v := -1) pe_int (by decide +kernel)) (pa_cons pe_int pa_nil))))) (pv 6))) (pss_cons (ps_for PassesOwn.never rfl (pi_list (pv 7)) (pg_name (i := 5) sc_law.nd rfl (Or.inl rfl)) (pss_one (ps_for PassesOwn.never rfl (pi_list (pe_lst (pa_cons (pe_ix ix_list (pv 4) pe_int (fun _ _ => rfl)) (pa_cons (pe_ix ix_list (pv 8) pe_int (fun _ _ => rfl)) (pa_cons (pe_ix ix_list (pv 8) pe_int (fun _ _ => rfl)) pa_nil))))) (pg_name (i := 9) sc_law.nd rfl (Or.inl rfl)) (pss_one (ps_if (pt_not (pt_val (pe_call G_law_same (hr.mono (by decide)) rfl T.g__law_same k_law_same b_law_same .nil passN (pa_cons (pe_call G_law_told (hr.mono (by decide)) rfl T.g__law_told k_law_told b_law_told .nil passN (pa_cons (pv 5) (pa_cons (pv 9) pa_nil))) (pa_cons (pe_tup (pa_cons pe_str (pa_cons pe_str (pa_cons pe_str pa_nil)))) pa_nil))))) (pss_one (ps_ret pe_bl)) pss_nil))))) (pss_cons (ps_for PassesOwn.never rfl (pi_list (pv 3)) (pg_name (i := 5) sc_law.nd rfl (Or.inl rfl)) (pss_one (ps_for PassesOwn.never rfl (pi_list (pv 8)) (pg_name (i := 9) sc_law.nd rfl (Or.inl rfl)) (pss_one (ps_if (pt_not (pt_val (pe_call G_law_same (hr.mono (by decide)) rfl T.g__law_same k_law_same b_law_same .nil passN (pa_cons (pe_call G_law_told (hr.mono (by decide)) rfl T.g__law_told k_law_told b_law_told .nil passN (pa_cons (pv 5) (pa_cons (pv 9) pa_nil))) (pa_cons (pe_tup (pa_cons pe_str (pa_cons pe_str (pa_cons pe_str pa_nil)))) pa_nil))))) (pss_one (ps_ret pe_bl)) pss_nil))))) (pss_one (ps_ret (pe_call G_law_same (hr.mono (by decide)) rfl T.g__law_same k_law_same b_law_same .nil passN (pa_cons (pe_call G_law_told (hr.mono (by decide)) rfl T.g__law_told k_law_told b_law_told .nil passN (pa_cons (pe_ix ix_list (pv 3) pe_int (fun _ _ => rfl)) (pa_cons (pe_ix ix_list (pv 4) pe_int (fun _ _ => rfl)) pa_nil))) (pa_cons (pe_tup (pa_cons pe_str (pa_cons (pe_call G_law_rot (hr.mono (by decide)) rfl T.g__law_rot k_law_rot b_law_rot .nil passN (pa_cons (pe_ix ix_list (pv 3) pe_int (fun _ _ => rfl)) (pa_cons (pe_ix ix_list (pv 4) pe_int (fun _ _ => rfl)) pa_nil))) pa_nil))) pa_nil)))))))))))))))), ?_⟩), b, F.kp, fun_at F⟩
  obtain ⟨a, ns, rfl, hS, hl, hb, k⟩ := h
  walk_at "nb.s"
  refine ⟨a, ns, rfl, hS, fun st H1 e1 nst ho => ?_⟩
  walk_at "nb.s"
  refine use_lane ho fun n1 H2 d2 g1 => ?_
  walk_at "nb.s"
  refine use_lane d2.2 fun n2 H3 d3 g2 => ?_
  walk_at "nb.s"
  intro l1 v1
  walk_at "nb.s"
  have L1 : upd H3 l1 (.lst [.int (n1 : Int), .int (n2 : Int)]) l1 = some (.lst (laneL [n1, n2])) := upd_same
  have D3 := (d2.trans d3).new (o := .lst [.int (n1 : Int), .int (n2 : Int)]) v1
  have x1 := (d2.trans d3).ne v1
  generalize upd H3 l1 (.lst [.int (n1 : Int), .int (n2 : Int)]) = H4 at *
  refine use_between D3.2 fun c1 H5 d5 y0 y1 => ?_
  walk_at "nb.s"
  refine use_between d5.2 fun c2 H6 d6 y2 y3 => ?_
  have L2 := d6.1 _ _ x1 (d5.1 _ _ x1 L1)
  obtain ⟨m1, rfl⟩ := Int.eq_ofNat_of_zero_le y0
  obtain ⟨m2, rfl⟩ := Int.eq_ofNat_of_zero_le y2
  walk_at "nb.s"
  intro l2 v2
  walk_at "nb.s"
  have C1 : upd H6 l2 (.lst [.int (m1 : Int), .int (m2 : Int), .int 0, .int 1, .int 63, .int 64, .int 65, .int 1000]) l2 = some (.lst (laneL [m1, m2, 0, 1, 63, 64, 65, 1000])) := upd_same
  have L3 := upd_old (o := .lst [.int (m1 : Int), .int (m2 : Int), .int 0, .int 1, .int 63, .int 64, .int 65, .int 1000]) v2 L2
  have o6 := d6.2.upd (o := .lst [.int (m1 : Int), .int (m2 : Int), .int 0, .int 1, .int 63, .int 64, .int 65, .int 1000]) v2
  have x2 := d6.2.ne v2
  generalize upd H6 l2 (.lst [.int (m1 : Int), .int (m2 : Int), .int 0, .int 1, .int 63, .int 64, .int 65, .int 1000]) = H7 at *
  have b1 : ∀ n ∈ [n1, n2], n < 2 ^ 64 := fun n hn => by
    simp only [List.mem_cons, List.not_mem_nil, or_false] at hn
    rcases hn with rfl | rfl
    · exact g1
    · exact g2
  have b2 : ∀ n ∈ [m1, m2, 0, 1, 63, 64, 65, 1000], n ≤ 1000 := fun n hn => by
    simp only [List.mem_cons, List.not_mem_nil, or_false] at hn
    omega
  refine i_listOf (P := True) (sqL_of L3) ?_
  refine fl_of (xs := laneL [n1, n2]) (fun i σ' H' => ∃ u1 u2 u3 u4, σ' = [some (.ref a), some (.ref st), some (.int 18446744073709551615), some (.ref l1), some (.ref l2), u1, none, none, none, u2, u3, u4] ∧ Ext H7 H') ⟨_, _, _, _, rfl, .refl _⟩ ?_ ?_ ?_
  · rintro i σ' H' hi ⟨u1, u2, u3, u4, rfl, e⟩
    exact sqL_of (e _ _ L3)
  · rintro i x σ' H' hx ⟨u1, u2, u3, u4, rfl, e⟩
    obtain ⟨n, rfl, hn⟩ := lane_at hx
    have gn := b1 n (List.mem_of_getElem? hn)
    walk_at "nb.s"
    refine i_listOf (P := True) (sqL_of (e _ _ C1)) ?_
    refine fl_of (xs := laneL [m1, m2, 0, 1, 63, 64, 65, 1000]) (fun i σ' H' => ∃ u2 u3 u4, σ' = [some (.ref a), some (.ref st), some (.int 18446744073709551615), some (.ref l1), some (.ref l2), some (.int (n : Int)), none, none, none, u2, u3, u4] ∧ Ext H7 H') ⟨_, _, _, rfl, e⟩ ?_ ?_ ?_
    · rintro i σ' H' hi ⟨u2, u3, u4, rfl, e⟩
      exact sqL_of (e _ _ C1)
    · rintro i x σ' H' hx ⟨u2, u3, u4, rfl, e⟩
      obtain ⟨m, rfl, hm⟩ := lane_at hx
      have gm := b2 m (List.mem_of_getElem? hm)
      have C2 := sqL_of (K := K) (e _ _ C1)
      have C3 := e _ _ C1
      have em : turnN (turnN n (m % 64)) (m1 % 64) = turnN n ((m + m1) % 64) := by
        rw [turn_turn gn (by omega) (by omega)]
        congr 1
        omega
      have en : turnN (turnN n (m % 64)) ((64 - m % 64) % 64) = n := by
        rw [turn_turn gn (by omega) (by omega)]
        have z : (m % 64 + (64 - m % 64) % 64) % 64 = 0 := by omega
        rw [z, turn_zero gn]
      have gt := turn_lt gn (by omega : m % 64 ≤ 64)
      have gm1 : m1 ≤ 1000 := by omega
      have ec : 64 - Builtin.bitAnd (m : Int) 63 = ((64 - m % 64 : Nat) : Int) := by
        have z : (63 : Int) = 2 ^ 6 - 1 := by decide
        have z2 : (2 : Int) ^ 6 = 64 := by decide
        rw [z, PySem.W.kbt_mask, z2]
        omega
      walk_at "nb.s"
      refine use_rot rfl gn (by omega) ?_
      walk_at "nb.s"
      refine use_toldOk gn gm fun t H8 e8 nt ht => ?_
      walk_at "nb.s"
      intro u nu
      walk_at "nb.s"
      refine use_same (sm_told (upd_old nu ht) upd_same) fun H9 e9 => ?_
      have E9 := ((e.trans e8).trans (.new nu)).trans e9
      walk_at "nb.s"
      rw [ec]
      walk_at "nb.s"
      refine use_rotateOk gt (by omega) fun H10 e10 => ?_
      rw [en]
      walk_at "nb.s"
      refine use_same (Sm.flat (.int _)) fun H11 e11 => ?_
      walk_at "nb.s"
      refine ⟨rfl, use_rotateOk gt (by omega) fun H12 e12 => ?_⟩
      rw [en]
      walk_at "nb.s"
      refine use_same (Sm.flat (.int _)) fun H13 e13 => ?_
      have E13 := (((E9.trans e10).trans e11).trans e12).trans e13
      have C4 : SqL K H13 l2 (.int (m1 : Int) :: laneL [m2, 0, 1, 63, 64, 65, 1000]) := sqL_of (E13 _ _ C1)
      walk_at "nb.s"
      refine i_ite (fun g => ?_) (fun g => ?_)
      · walk_at "nb.s"
        refine use_rotateOk gt gm1 fun H14 e14 => ?_
        have C5 : SqL K H14 l2 (.int (m1 : Int) :: laneL [m2, 0, 1, 63, 64, 65, 1000]) := sqL_of (e14 _ _ (E13 _ _ C1))
        rw [em]
        walk_at "nb.s"
        refine use_rot (m := m + m1) (by omega) gn (by omega) ?_
        walk_at "nb.s"
        refine use_same (Sm.flat (.int _)) fun H15 e15 => ?_
        walk_at "nb.s"
        exact ⟨_, _, _, rfl, (E13.trans e14).trans e15⟩
      · walk_at "nb.s"
        exact ⟨_, _, _, rfl, E13⟩
    · rintro σ' H' ⟨u2, u3, u4, rfl, e⟩
      walk_at "nb.s"
      exact ⟨_, _, _, _, rfl, e⟩
  · rintro σ' H' ⟨u1, u2, u3, u4, rfl, e⟩
    have o8 := o6.ext e
    walk_at "nb.s"
    refine ⟨rfl, fun N1 z1 => ?_⟩
    walk_at "nb.s"
    refine ⟨rfl, fun N2 z2 => ?_⟩
    walk_at "nb.s"
    intro dd nd
    walk_at "nb.s"
    intro l3 v3
    have x3 := (o8.upd (o := .dK []) nd).ne v3
    have y3d := o8.ne nd
    have e8 := (Ext.new (o := .dK []) nd).trans (Ext.new (o := .lst [.int N1, .int (0 - N2), .ref dd]) v3)
    have E8 := e.trans e8
    have o9 := o8.ext e8
    have hg : upd (upd H' dd (.dK [])) l3 (.lst [.int N1, .int (0 - N2), .ref dd]) l3 = some (.lst [.int N1, .int (0 - N2), .ref dd]) := upd_same
    have hdd : upd (upd H' dd (.dK [])) l3 (.lst [.int N1, .int (0 - N2), .ref dd]) dd = some (.dK []) := upd_old v3 upd_same
    generalize upd (upd H' dd (.dK [])) l3 (.lst [.int N1, .int (0 - N2), .ref dd]) = G at *
    walk_at "nb.s"
    refine use_beyond o9 fun s1 K1 dk1 as1 is1 ns1 => ?_
    walk_at "nb.s"
    refine use_beyond dk1.2 fun s2 K2 dk2 as2 is2 ns2 => ?_
    walk_at "nb.s"
    intro l4 v4
    walk_at "nb.s"
    have D2 := dk1.trans dk2
    refine i_cat upd_same (upd_old v4 (D2.1 _ _ x3 hg)) (by show 4 + 3 ≤ 16777216; decide) fun l5 v5 => ?_
    walk_at "nb.s"
    have x5 := (dk2.2.upd (o := .lst [s1, s2, .int (-1), .int (18446744073709551615 + 1)]) v4).ne v5
    have e5 := (Ext.new (o := .lst [s1, s2, .int (-1), .int (18446744073709551615 + 1)]) v4).trans (Ext.new (o := .lst ([s1, s2, .int (-1), .int (18446744073709551615 + 1)] ++ [.int N1, .int (0 - N2), .ref dd])) v5)
    have o10 := dk2.2.ext e5
    have hs : upd (upd K2 l4 (.lst [s1, s2, .int (-1), .int (18446744073709551615 + 1)])) l5 (.lst ([s1, s2, .int (-1), .int (18446744073709551615 + 1)] ++ [.int N1, .int (0 - N2), .ref dd])) l5 = some (.lst [s1, s2, .int (-1), .int (18446744073709551615 + 1), .int N1, .int (0 - N2), .ref dd]) := upd_same
    have D5 := D2.then e5
    generalize upd (upd K2 l4 (.lst [s1, s2, .int (-1), .int (18446744073709551615 + 1)])) l5 (.lst ([s1, s2, .int (-1), .int (18446744073709551615 + 1)] ++ [.int N1, .int (0 - N2), .ref dd])) = G5 at *
    refine use_beyond o10 fun f1 K3 dk3 af1 if1 nf1 => ?_
    walk_at "nb.s"
    refine use_beyond dk3.2 fun f2 K4 dk4 af2 if2 nf2 => ?_
    walk_at "nb.s"
    intro l6 v6
    walk_at "nb.s"
    have D6 := (D5.trans dk3).trans dk4
    refine i_cat upd_same (upd_old v6 (D6.1 _ _ x3 hg)) (by show 4 + 3 ≤ 16777216; decide) fun l7 v7 => ?_
    walk_at "nb.s"
    have e7 := (Ext.new (o := .lst [f1, f2, .int (-1), .int 1001]) v6).trans (Ext.new (o := .lst ([f1, f2, .int (-1), .int 1001] ++ [.int N1, .int (0 - N2), .ref dd])) v7)
    have hf : upd (upd K4 l6 (.lst [f1, f2, .int (-1), .int 1001])) l7 (.lst ([f1, f2, .int (-1), .int 1001] ++ [.int N1, .int (0 - N2), .ref dd])) l7 = some (.lst [f1, f2, .int (-1), .int 1001, .int N1, .int (0 - N2), .ref dd]) := upd_same
    have D7 := D6.then e7
    generalize upd (upd K4 l6 (.lst [f1, f2, .int (-1), .int 1001])) l7 (.lst ([f1, f2, .int (-1), .int 1001] ++ [.int N1, .int (0 - N2), .ref dd])) = F at *
    have hsF := e7 _ _ (dk4.1 _ _ x5 (dk3.1 _ _ x5 hs))
    have CF := D7.1 _ _ x2 (E8 _ _ C1)
    have LF := D7.1 _ _ x1 (E8 _ _ L3)
    have ddF := D7.1 _ _ y3d hdd
    have as1F := (AnyV.exX dk4.1 ns1 (AnyV.exX dk3.1 ns1 ((AnyV.exX dk2.1 ns1 as1).ext e5))).ext e7
    have as2F := (AnyV.exX dk4.1 ns2 (AnyV.exX dk3.1 ns2 (as2.ext e5))).ext e7
    have af1F := (AnyV.exX dk4.1 nf1 af1).ext e7
    have af2F := af2.ext e7
    have q1 : 18446744073709551616 ≤ N1 := Int.le_trans (by decide +kernel) z1
    have q2 : 18446744073709551616 ≤ N2 := Int.le_trans (by decide +kernel) z2
    have bad : ∀ v ∈ [s1, s2, .int (-1), .int (18446744073709551615 + 1), .int N1, .int (0 - N2), .ref dd], AnyV F v ∧ ¬ inR v 0 18446744073709551615 := fun v hv => by
      simp only [List.mem_cons, List.not_mem_nil, or_false] at hv
      rcases hv with h | h | h | h | h | h | h <;> rw [h]
      · exact ⟨as1F, is1⟩
      · exact ⟨as2F, is2⟩
      · exact ⟨.int _, fun z => by have := inR_int.mp z; omega⟩
      · exact ⟨.int _, fun z => by have := inR_int.mp z; omega⟩
      · exact ⟨.int _, fun z => by have := inR_int.mp z; omega⟩
      · exact ⟨.int _, fun z => by have := inR_int.mp z; omega⟩
      · exact ⟨.dK ddF, fun z => by obtain ⟨_, z, _⟩ := z; cases z⟩
    have far : ∀ v ∈ [f1, f2, .int (-1), .int 1001, .int N1, .int (0 - N2), .ref dd], AnyV F v ∧ ¬ inR v 0 1000 := fun v hv => by
      simp only [List.mem_cons, List.not_mem_nil, or_false] at hv
      rcases hv with h | h | h | h | h | h | h <;> rw [h]
      · exact ⟨af1F, if1⟩
      · exact ⟨af2F, if2⟩
      · exact ⟨.int _, fun z => by have := inR_int.mp z; omega⟩
      · exact ⟨.int _, fun z => by have := inR_int.mp z; omega⟩
      · exact ⟨.int _, fun z => by have := inR_int.mp z; omega⟩
      · exact ⟨.int _, fun z => by have := inR_int.mp z; omega⟩
      · exact ⟨.dK ddF, fun z => by obtain ⟨_, z, _⟩ := z; cases z⟩
    refine i_listOf (P := True) (sqL_of hsF) ?_
    refine fl_of (xs := [s1, s2, .int (-1), .int (18446744073709551615 + 1), .int N1, .int (0 - N2), .ref dd]) (fun i σ' H' => ∃ u1 u2 u3 u4, σ' = [some (.ref a), some (.ref st), some (.int 18446744073709551615), some (.ref l1), some (.ref l2), u1, some (.ref l3), some (.ref l5), some (.ref l7), u2, u3, u4] ∧ Ext F H') ⟨_, _, _, _, rfl, .refl _⟩ ?_ ?_ ?_
    · rintro i σ' H' hi ⟨u1, u2, u3, u4, rfl, e⟩
      exact sqL_of (e _ _ hsF)
    · rintro i x σ' H' hx ⟨u1, u2, u3, u4, rfl, e⟩
      obtain ⟨ab, ib⟩ := bad x (List.mem_of_getElem? hx)
      have CC : SqL K H' l2 (.int (m1 : Int) :: laneL [m2, 0, 1, 63, 64, 65, 1000]) := sqL_of (e _ _ CF)
      have FF : SqL K H' l7 (f1 :: f2 :: [.int (-1), .int 1001, .int N1, .int (0 - N2), .ref dd]) := sqL_of (e _ _ hf)
      walk_at "nb.s"
      intro l8 v8
      walk_at "nb.s"
      have h8 : upd H' l8 (.lst [.int (m1 : Int), f1, f2]) l8 = some (.lst [.int (m1 : Int), f1, f2]) := upd_same
      have E8 := e.trans (Ext.new (o := .lst [.int (m1 : Int), f1, f2]) v8)
      generalize upd H' l8 (.lst [.int (m1 : Int), f1, f2]) = F8 at *
      refine i_listOf (P := True) (sqL_of h8) ?_
      refine fl_of (xs := [.int (m1 : Int), f1, f2]) (fun i σ' H' => ∃ u2 u3 u4, σ' = [some (.ref a), some (.ref st), some (.int 18446744073709551615), some (.ref l1), some (.ref l2), some x, some (.ref l3), some (.ref l5), some (.ref l7), u2, u3, u4] ∧ Ext F8 H') ⟨_, _, _, rfl, .refl _⟩ ?_ ?_ ?_
      · rintro i σ' H' hi ⟨u2, u3, u4, rfl, e⟩
        exact sqL_of (e _ _ h8)
      · rintro i y σ' H' hy ⟨u2, u3, u4, rfl, e⟩
        have ay : AnyV F y := by
          have hm := List.mem_of_getElem? hy
          simp only [List.mem_cons, List.not_mem_nil, or_false] at hm
          rcases hm with h | h | h <;> rw [h]
          · exact .int _
          · exact af1F
          · exact af2F
        walk_at "nb.s"
        refine use_toldBad (ab.ext (E8.trans e)) (ay.ext (E8.trans e)) (.inl ⟨ib, rfl⟩) fun t H9 e9 nt ht => ?_
        walk_at "nb.s"
        intro u nu
        walk_at "nb.s"
        refine use_same (sm_ref (upd_old nu ht) upd_same) fun H10 e10 => ?_
        walk_at "nb.s"
        exact ⟨_, _, _, rfl, ((e.trans e9).trans (.new nu)).trans e10⟩
      · rintro σ' H' ⟨u2, u3, u4, rfl, e⟩
        walk_at "nb.s"
        exact ⟨_, _, _, _, rfl, E8.trans e⟩
    · rintro σ' H' ⟨u1, u2, u3, u4, rfl, e⟩
      walk_at "nb.s"
      refine i_listOf (P := True) (sqL_of (e _ _ LF)) ?_
      refine fl_of (xs := laneL [n1, n2]) (fun i σ' H' => ∃ u1 u2 u3 u4, σ' = [some (.ref a), some (.ref st), some (.int 18446744073709551615), some (.ref l1), some (.ref l2), u1, some (.ref l3), some (.ref l5), some (.ref l7), u2, u3, u4] ∧ Ext F H') ⟨_, _, _, _, rfl, e⟩ ?_ ?_ ?_
      · rintro i σ' H' hi ⟨u1, u2, u3, u4, rfl, e⟩
        exact sqL_of (e _ _ LF)
      · rintro i x σ' H' hx ⟨u1, u2, u3, u4, rfl, e⟩
        obtain ⟨n, rfl, hn⟩ := lane_at hx
        have gn := b1 n (List.mem_of_getElem? hn)
        walk_at "nb.s"
        refine i_listOf (P := True) (sqL_of (e _ _ hf)) ?_
        refine fl_of (xs := [f1, f2, .int (-1), .int 1001, .int N1, .int (0 - N2), .ref dd]) (fun i σ' H' => ∃ u2 u3 u4, σ' = [some (.ref a), some (.ref st), some (.int 18446744073709551615), some (.ref l1), some (.ref l2), some (.int (n : Int)), some (.ref l3), some (.ref l5), some (.ref l7), u2, u3, u4] ∧ Ext F H') ⟨_, _, _, rfl, e⟩ ?_ ?_ ?_
        · rintro i σ' H' hi ⟨u2, u3, u4, rfl, e⟩
          exact sqL_of (e _ _ hf)
        · rintro i y σ' H' hy ⟨u2, u3, u4, rfl, e⟩
          obtain ⟨ay, iy⟩ := far y (List.mem_of_getElem? hy)
          walk_at "nb.s"
          refine use_toldBad (.int _) (ay.ext e) (.inr ⟨inR_int.mpr ⟨by omega, by omega⟩, iy, rfl⟩) fun t H9 e9 nt ht => ?_
          walk_at "nb.s"
          intro u nu
          walk_at "nb.s"
          refine use_same (sm_ref (upd_old nu ht) upd_same) fun H10 e10 => ?_
          walk_at "nb.s"
          exact ⟨_, _, _, rfl, ((e.trans e9).trans (.new nu)).trans e10⟩
        · rintro σ' H' ⟨u2, u3, u4, rfl, e⟩
          walk_at "nb.s"
          exact ⟨_, _, _, _, rfl, e⟩
      · rintro σ' H' ⟨u1, u2, u3, u4, rfl, e⟩
        have gm2 : m2 ≤ 1000 := by omega
        have LL : SqL K H' l1 (.int (n1 : Int) :: laneL [n2]) := sqL_of (e _ _ LF)
        have CC : SqL K H' l2 (.int (m1 : Int) :: .int (m2 : Int) :: laneL [0, 1, 63, 64, 65, 1000]) := sqL_of (e _ _ CF)
        walk_at "nb.s"
        refine use_toldOk g1 gm2 fun t H9 e9 nt ht => ?_
        have LL2 : SqL K H9 l1 (.int (n1 : Int) :: laneL [n2]) := sqL_of ((e.trans e9) _ _ LF)
        have CC2 : SqL K H9 l2 (.int (m1 : Int) :: .int (m2 : Int) :: laneL [0, 1, 63, 64, 65, 1000]) := sqL_of ((e.trans e9) _ _ CF)
        walk_at "nb.s"
        refine use_rot rfl g1 (by omega) ?_
        walk_at "nb.s"
        intro u nu
        walk_at "nb.s"
        exact use_same (sm_told (upd_old nu ht) upd_same) fun H10 e10 => k H10
end
end NB
set_option maxHeartbeats 0
namespace NB
open PySem PySem.Spec PyProof.Rows L2
open He (ga ma)
abbrev R : PySem.W.OpenRow := PySem.W.OpenLaw.row PySem.Challenge.rw_noisebound_k07_rotating_a_lane
abbrev hk : PySem.W.Hook := He.hookX 4 fa fn [] [] exB
def ob (s : PySem.W.SharedT) : He.AlX := He.obsX 4 fa fn [] [] exB (HandSHeadRun.getT s)
theorem ob_eq (s : PySem.W.SharedT) : ob s = hk.obs s.abs := He.obsX_eq (HandSHeadRun.getT_eq s)
def loose0 : List PySem.Str := ["NoiseboundError", "OutOfRange", "BadItem", "BadLength", "BadText", "BadPadding", "WrongPhase", "NotInvertible", "BadRing", "BadParameters", "UnknownName", "DifferentRings", "BadKey", "BadLetter", "BadKeyText", "BadRecord", "BadCommand", "NoEntry", "NothingLeft", "LARGEST"]
def loose1 : List PySem.Str := ["is_integer", "need_integer", "rotated", "rotate", "_law_begin", "_law_mixed", "_law_take", "_law_wide", "_law_pick", "_law_between", "_law_other", "_law_beyond", "_law_same", "_law_kin", "_law_refusal", "_law_lane", "_law_rot", "_law_told", "_law_longest"]
theorem run (w : World) : HandSHeadRun.RunEq R (PySem.W.view R.prog [42]) hk ob 20000 (loose0 ++ (loose1)) w := by
  intro os
  kernel_rfl
theorem bits {P : Program} {w : World} {K : PySem.W.Frag} {h : Heap} {mg : Str → Option Value} {f : Addr} (X : K.In h) (G : h.Ns mainGlobals mg) (hfa : mg ("law" : Str) = some (.ref f)) (c : He.SaysX fa fn [] [] exB w h K) :
    ∃ fd : FuncData, (∀ (s : Shared) (v : Value), BindsTo s fd ⟨[v], []⟩ [("_law_script", v)]) ∧ ∀ base : Heap, K.In base → base.Ns mainGlobals mg → FnOk P w K mg base (L2N.CX P w) 6 f fd ["_law_script"] (spLaw K) := by
  have T : Txt K mg := txt_of X G c.t.d c.more
  have e := hfa.symm.trans T.g_law
  cases e
  obtain ⟨fd, F⟩ := T.d.def_ 20 (d := d_law) rfl
  have b := FunD.bindsA (ps := ["_law_script"]) F fun _ _ _ _ _ _ us hl => match us, hl with | [_], _ => rfl
  refine ⟨fd, fun s v => b s [v] rfl, fun base _ _ => ?_⟩
  obtain ⟨fd1, G1, _, _, l1⟩ := ok_law (P := P) (w := w) (base := base) T
  have e := fun_one l1 (fun_at F)
  subst e
  exact G1
end NB
open PySem PySem.W PySem.Calls PyProof.Rows
theorem PySem.Challenge.cw_noisebound_k07_rotating_a_lane_holds : PySem.Challenge.rw_noisebound_k07_rotating_a_lane.Holds := by
  w_on; o_law
  refine HandSHeadRun.head_any (r := OpenLaw.row PySem.Challenge.rw_noisebound_k07_rotating_a_lane) (q := view (OpenLaw.row PySem.Challenge.rw_noisebound_k07_rotating_a_lane).prog [42]) (H := NB.hk) (ob := NB.ob) (M := 20000) (loose := (NB.loose0 ++ (NB.loose1))) (d := HandSHeadRun.topDef (OpenLaw.row PySem.Challenge.rw_noisebound_k07_rotating_a_lane).prog 42) (kwd := []) NB.ob_eq
    (by kernel_rfl) (fun s => by kernel_rfl) NB.run (by kernel_rfl) (by kernel_rfl) (by kernel_rfl) (by rfl) (by first | assumption | decide +kernel) (by decide +kernel) ⟨rfl, rfl, rfl, rfl, rfl, by decide +kernel⟩ ?hw ?hc
  case hw => w_witness2
  case hc =>
    refine NB.walk_end (l := PySem.Challenge.rw_noisebound_k07_rotating_a_lane) (n := 63) (k := 6) (x := "_law_script") rfl (by decide) (by kernel_rfl) ⟨rfl, by decide, by decide⟩ ?F
    intro w mg fa h Y G hmg0
    obtain ⟨K, KX, c⟩ := Y
    have hmg : mg ("law" : PySem.Str) = some (.ref fa) := by
      have e : (HandSHeadRun.topDef (OpenLaw.row PySem.Challenge.rw_noisebound_k07_rotating_a_lane).prog 42).name = ("law" : PySem.Str) := by kernel_rfl
      rw [← e]
      exact hmg0
    obtain ⟨fd, hb, hF⟩ := NB.bits (P := (PySem.Challenge.rw_noisebound_k07_rotating_a_lane).prog) (w := w) KX G hmg c
    exact ⟨K, fd, NB.spLaw K, KX, hb, fun H a ns hl hbits _ hS => ⟨a, ns, rfl, hS, hl, hbits, fun _ => rfl⟩, hF⟩

