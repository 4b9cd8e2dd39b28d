import PyProof.Rows.All
import Wide.All
import OpenK.AllK
import Wide.FinOn
import HandS.ForMost
import HandS.ForExc
import HandS.Flow
import HandS.Defaults
import HandS.More
import HandS.Zip
import HandS.RevRange
import HandS.IsInst
import HandS.Deep
import HandS.TupAny
import HandS.Strs
import HandS.SetKeys
import HandS.SortKw
import HandS.Small
import HandS.CallRecv
import HandS.ExcInit
import HandS.ExcField
import HandS.SetTxt0
import HandS.SetFor
import HandS.Head0
import HandS.Head1
import HandS.Head2
import HandS.HeadEnd
import HandS.HeadHook1
import HandS.HeadHook2
import HandS.Walk
import KE.DataMinMax
import HandS.HeadHook3
import PySem.Challenge.RW_kindfill_k31_whole_every_program_made
set_option Elab.async false
set_option linter.all false
set_option maxRecDepth 100000
set_option maxHeartbeats 4000000
/-! A light room: one level a call (the layer's Room counts three, and this law's calls stand up to some 310 deep under a claim's margin of 300). -/
namespace KF
open PySem PySem.Spec L2

structure LR (k : Nat) (A : Around) : Prop where
  hd : A.handled = none
  dp : A.depth + k + 60 < recursionLimit
  un : A.units + 3 * k + 500 < cLine
theorem LR.mono {j k : Nat} {A : Around} (r : LR k A) (h : j ≤ k) : LR j A := ⟨r.hd, by have := r.dp; omega, by have := r.un; omega⟩
theorem LR.deeper {k : Nat} {A : Around} (r : LR (k + 1) A) (env : Env) : LR k (A.deeper env) where
  hd := r.hd
  dp := by have := r.dp; show A.depth + 1 + k + 60 < _; omega
  un := by have := r.un; show A.units + 3 + 3 * k + 500 < _; omega
theorem LR.make {k : Nat} {A : Around} (r : LR (k + 1) A) (C : Addr) (us : List Value) (kw : List (Str × Value)) : LR k (A.under (.builtin "type.__call__" ⟨.ref C :: us, kw⟩)) where
  hd := r.hd
  dp := by have := r.dp; rw [make_depth]; omega
  un := by have := r.un; rw [make_units]; omega
theorem LR.room {k : Nat} {A : Around} (r : LR k A) : Room 10 A := ⟨r.hd, by have := r.dp; omega, by have := r.un; omega⟩
theorem LR.u {k : Nat} {A : Around} (r : LR k A) : A.units + 400 < cLine := by have := r.un; omega
theorem LR.u1 {k : Nat} {A : Around} (r : LR k A) : A.units + 1 < cLine := by have := r.un; omega
theorem LR.u64 {k : Nat} {A : Around} (r : LR k A) : A.units + 64 < cLine := by have := r.un; omega

/-- a def's promise under a light room -/
structure FnL (P : Program) (w : World) (K : PySem.W.Frag) (mg : Str → Option Value) (base : Heap) (CX : CXT) (k : Nat) (f : Addr) (fd : FuncData) (ps : List Str) (sp : Sp) : Prop where
  len : ∀ vs H Q E, sp vs H Q E → vs.length = ps.length
  run : ∀ (A : Around) (outer : List Env) (s : Shared) (H : Hp) (args : Args) (us : List Value) (vs : List V) (Q : VK) (E : XK), LR k A → Env0 P w K mg base A outer s H → BindsTo s fd args (ps.zip us) → Vals vs us → sp vs H Q E →
    codeAny (model P w) A (.call (.ref f) args) (CR CX outer P w H s Q E) s
theorem FnL.mono {P : Program} {w : World} {K : PySem.W.Frag} {mg : Str → Option Value} {base : Heap} {CX : CXT} {j k : Nat} {f : Addr} {fd : FuncData} {ps : List Str} {sp : Sp} (F : FnL P w K mg base CX j f fd ps sp) (h : j ≤ k) :
    FnL P w K mg base CX k f fd ps sp := ⟨F.len, fun A outer s H args us vs Q E hr => F.run A outer s H args us vs Q E (hr.mono h)⟩
theorem FnL.imp {P : Program} {w : World} {K : PySem.W.Frag} {mg : Str → Option Value} {base : Heap} {CX : CXT} {k : Nat} {f : Addr} {fd : FuncData} {ps : List Str} {sp sp' : Sp} (F : FnL P w K mg base CX k f fd ps sp)
    (h : ∀ vs H Q E, sp' vs H Q E → sp vs H Q E) : FnL P w K mg base CX k f fd ps sp' :=
  ⟨fun vs H Q E q => F.len vs H Q E (h _ _ _ _ q), fun A outer s H args us vs Q E hr he hb hv hs => F.run A outer s H args us vs Q E hr he hb hv (h _ _ _ _ hs)⟩
theorem FnL.ok {P : Program} {w : World} {K : PySem.W.Frag} {mg : Str → Option Value} {base : Heap} {CX : CXT} {j k : Nat} {f : Addr} {fd : FuncData} {ps : List Str} {sp : Sp} (F : FnL P w K mg base CX j f fd ps sp)
    (h : ∀ A, Room k A → LR j A) : FnOk P w K mg base CX k f fd ps sp := ⟨F.len, fun A outer s H args us vs Q E hr => F.run A outer s H args us vs Q E (h A hr)⟩

section
variable {X : Cx} {CX : CXT} {k : Nat} {f C : Addr} {fd : FuncData} {ps : List Str} {sp : Sp} {dvs : List V} {ds : List Value} {E : XK} {x m : Str} {p pos apos : Pos} {e o : Expr} {es : List Expr} {ta : TE} {t : TA}

theorem runL {pins : List (Addr × Obj)} {σ : St} {H : Hp} {s : Shared} {Q : VK} {us : List Value} {vs : List V} (F : FnL X.prog X.w X.K X.mg X.base CX k f fd ps sp) (hr : LR k X.A) (hb : Binds X.K fd ps ds) (hd : Vals dvs ds) (hx : PassesAt CX X σ E)
    (I : Inv X pins σ H s) (r : Vals vs us) (h : sp (vs ++ dvs) H Q E) : wpAny (model X.prog X.w) X.A (call (.ref f) us) (EP X pins σ Q) X.xe s := by
  have all : Vals (vs ++ dvs) (us ++ ds) := r.append hd
  have many : (us ++ ds).length = ps.length := all.length.symm.trans (F.len _ _ _ _ h)
  have went := F.run X.A X.stack s H ⟨us, []⟩ (us ++ ds) (vs ++ dvs) Q E hr I.env0 (hb s us I.kIn many) all h
  refine wpAny_call (codeAny_mono went fun r s' got => ?_)
  match r, got with
  | .error e, got => exact hx pins H s e s' I got
  | .ok (.ret u), got => exact I.after got

theorem passAll {σ : St} (h : Passes CX X E) : PassesAt CX X σ E := fun pins H s e s' I c => h pins σ H s e s' I c

/-- a def of the text, ready to be called by its name -/
structure Df (P : Program) (w : World) (K : PySem.W.Frag) (mg : Str → Option Value) (base : Heap) (CX : CXT) (k : Nat) (x : Str) (ps : List Str) (dvs : List V) (sp : Sp) : Prop where
  ex : ∃ (fd : FuncData) (ds : List Value), FnL P w K mg base CX k (He.ga K x) fd ps sp ∧ Binds K fd ps ds ∧ Vals dvs ds
  mg : mg x = some (.ref (He.ga K x))
  kp : PySem.W.keepIn K (.ref (He.ga K x)) = true

/-- f(e, ..) -/
theorem cal (D : Df X.prog X.w X.K X.mg X.base CX k x ps dvs sp) (hr : LR k X.A) (hx : Passes CX X E) (ha : PA X (e :: es) t) (hg : Gl X x := by rfl)
    (hdb : (x == ("__debug__" : Str)) = false := by decide) (he : starEach (e :: es) X.env = (false, eval e X.env) :: starEach es X.env := by rfl) (hpl : (backTo pos (starEach es X.env)).any (·.1) = false := by rfl) :
    PE X (.Call (.Name x p) (e :: es) [] pos) (tCall sp dvs E t) := by
  obtain ⟨fd, ds, F, hb, hd⟩ := D.ex
  refine ⟨fun pins s σ H Q I h => wpAny_Call_Name_kw (ld_glob I hg D.mg ?_ hdb)⟩
  refine PySem.W.callWith_K (h₀ := X.base) I.ok.mod.kin D.kp (thn (ha.run pos pins s σ H _ I h) fun us s1 got => ?_) he hpl
  obtain ⟨vs, H1, I1, r, q⟩ := got
  exact ⟨I1.kIn, runL F hr hb hd (passAll hx) I1 r q⟩
/-- f() -/
theorem cal0 (D : Df X.prog X.w X.K X.mg X.base CX k x ps dvs sp) (hr : LR k X.A) (hx : Passes CX X E) (hg : Gl X x := by rfl)
    (hdb : (x == ("__debug__" : Str)) = false := by decide) : PE X (.Call (.Name x p) [] [] pos) (tCall sp dvs E tNil) := by
  obtain ⟨fd, ds, F, hb, hd⟩ := D.ex
  refine ⟨fun pins s σ H Q I h => wpAny_Call_Name_kw (ld_glob I hg D.mg ?_ hdb)⟩
  exact PySem.W.callWith_K0 I.kIn D.kp (runL (us := []) (vs := []) F hr hb hd (passAll hx) I .nil h)
/-- f(e, ..), what is raised is wished for at the caller's slots -/
theorem calS {E : St → XK} (D : Df X.prog X.w X.K X.mg X.base CX k x ps [] sp) (hr : LR k X.A) (hx : ∀ σ, PassesAt CX X σ (E σ)) (ha : PA X (e :: es) t) (hg : Gl X x := by rfl)
    (hdb : (x == ("__debug__" : Str)) = false := by decide) (he : starEach (e :: es) X.env = (false, eval e X.env) :: starEach es X.env := by rfl) (hpl : (backTo pos (starEach es X.env)).any (·.1) = false := by rfl) :
    PE X (.Call (.Name x p) (e :: es) [] pos) (tCallS sp E t) := by
  obtain ⟨fd, ds, F, hb, hd⟩ := D.ex
  refine ⟨fun pins s σ H Q I h => wpAny_Call_Name_kw (ld_glob I hg D.mg ?_ hdb)⟩
  refine PySem.W.callWith_K (h₀ := X.base) I.ok.mod.kin D.kp (thn (ha.run pos pins s σ H _ I h) fun us s1 got => ?_) he hpl
  obtain ⟨vs, H1, I1, r, q⟩ := got
  refine ⟨I1.kIn, runL F hr hb hd (hx σ) I1 r ?_⟩
  rw [List.append_nil]
  exact q

/-- a method of the text -/
structure Dm (P : Program) (w : World) (K : PySem.W.Frag) (mg : Str → Option Value) (base : Heap) (CX : CXT) (k : Nat) (c m : Str) (ps : List Str) (sp : Sp) : Prop where
  ex : ∃ fd : FuncData, FnL P w K mg base CX k (He.ma K (He.ga K c) m) fd ps sp ∧ Binds K fd ps []
  cl : Cls K (He.ga K c)
  me : Meth K (He.ga K c) m (He.ma K (He.ga K c) m)

variable {c : Str}
/-- o.m(e, ..) -/
theorem mcal {pl : Sem Bool} (D : Dm X.prog X.w X.K X.mg X.base CX k c m ps sp) (hr : LR k X.A) (hx : Passes CX X E) (he : PE X o ta) (ha : PA X (e :: es) t)
    (hst : starEach (e :: es) X.env = (false, eval e X.env) :: starEach es X.env := by rfl) (hpl : (backTo pos (starEach es X.env)).any (·.1) = false := by rfl)
    (ht : eval (.Call (.Attribute o m apos) (e :: es) [] pos) X.env = (do
      let ov ← eval o X.env
      standAt apos.atName
      let (f, first) ← holding [ov] (getMethod ov m pl)
      callWith pos f first (backTo pos (starEach (e :: es) X.env)) (backToKw pos (keywordEach [] X.env))) := by rfl) :
    PE X (.Call (.Attribute o m apos) (e :: es) [] pos) (tMeth (He.ga X.K c) m sp [] E ta t) := by
  obtain ⟨fd, F, hb⟩ := D.ex
  refine ⟨fun pins s σ H Q I h => PySem.W.methodCall_KW (pl := pl) (thn (he.run pins s σ H _ I h) fun u s1 got => ?_) ht⟩
  obtain ⟨x, H1, I1, rx, a, dx, fs, rfl, ea, l, q⟩ := got
  obtain rfl : u = Value.ref a := rx
  refine getmeth_ok I1 ea D.cl D.me l ?_
  refine PySem.W.callWith_K (first := [.ref a]) (h₀ := X.base) I.ok.mod.kin D.me.kp (thn (ha.run pos pins s1 σ H1 _ I1 q) fun us s2 got2 => ?_) hst hpl
  obtain ⟨vs, H2, I2, r, q2⟩ := got2
  exact ⟨I2.kIn, runL (us := .ref a :: us) (vs := .ref a :: vs) F hr hb .nil (passAll hx) I2 (.cons rfl r) q2⟩
/-- o.m() -/
theorem mcal0 {pl : Sem Bool} (D : Dm X.prog X.w X.K X.mg X.base CX k c m ps sp) (hr : LR k X.A) (hx : Passes CX X E) (he : PE X o ta)
    (ht : eval (.Call (.Attribute o m apos) [] [] pos) X.env = (do
      let ov ← eval o X.env
      standAt apos.atName
      let (f, first) ← holding [ov] (getMethod ov m pl)
      callWith pos f first (backTo pos (starEach [] X.env)) (backToKw pos (keywordEach [] X.env))) := by rfl) :
    PE X (.Call (.Attribute o m apos) [] [] pos) (tMeth (He.ga X.K c) m sp [] E ta tNil) := by
  obtain ⟨fd, F, hb⟩ := D.ex
  refine ⟨fun pins s σ H Q I h => PySem.W.methodCall_KW (pl := pl) (thn (he.run pins s σ H _ I h) fun u s1 got => ?_) ht⟩
  obtain ⟨x, H1, I1, rx, a, dx, fs, rfl, ea, l, q⟩ := got
  obtain rfl : u = Value.ref a := rx
  refine getmeth_ok I1 ea D.cl D.me l ?_
  exact PySem.W.callWith_K0 (first := [.ref a]) I1.kIn D.me.kp (runL (us := [.ref a]) (vs := [.ref a]) F hr hb .nil (passAll hx) I1 (.cons rfl .nil) q)

/-- a class of the text that is made by its __init__ -/
structure Dc (P : Program) (w : World) (K : PySem.W.Frag) (mg : Str → Option Value) (base : Heap) (CX : CXT) (k : Nat) (c : Str) (ps : List Str) (sp : Sp) : Prop where
  ex : ∃ fd : FuncData, FnL P w K mg base CX k (He.ma K (He.ga K c) "__init__") fd ps sp ∧ Binds K fd ps []
  mkr : Mk K (He.ga K c) (He.ma K (He.ga K c) "__init__")
  mg : mg c = some (.ref (He.ga K c))

theorem runMakeL {pins : List (Addr × Obj)} {σ : St} {H : Hp} {s : Shared} {Q : VK} {us : List Value} {vs : List V} (M : Mk X.K C f) (F : FnL X.prog X.w X.K X.mg X.base CX k f fd ps sp) (hr : LR (k + 1) X.A) (hb : Binds X.K fd ps [])
    (hx : Passes CX X E) (I : Inv X pins σ H s) (r : Vals vs us)
    (h : ∀ x dx, H x = none → H dx = none → dx ≠ x → sp (.ref x :: vs) (upd (upd H dx (.own x)) x (.ins C dx [])) (fun v H2 => v = .non ∧ Q (.ref x) H2) E) :
    wpAny (model X.prog X.w) X.A (call (.ref C) us) (EP X pins σ Q) X.xe s := by
  let a : Addr := s.heap.objs.size + 1
  have hq := h a s.heap.objs.size (I.hok.fresh (Nat.le_succ _)) (I.hok.fresh (Nat.le_refl _)) (Nat.ne_of_lt (Nat.lt_succ_self _))
  have J := Inv.made (C := C) I
  have all : Vals (V.ref a :: vs) (Value.ref a :: us) := .cons rfl r
  have many : ((Value.ref a :: us) ++ []).length = ps.length := by
    rw [List.append_nil]
    exact all.length.symm.trans (F.len _ _ _ _ hq)
  have bd := hb _ (Value.ref a :: us) J.kIn many
  rw [List.append_nil] at bd
  have went := F.run _ X.stack _ _ ⟨Value.ref a :: us, []⟩ (Value.ref a :: us) _ _ E (hr.make C us []) (J.env0.make C us []) bd all hq
  refine wpAny_call (make_map (f := f) I.kIn M.makes M.init (beq_iff_eq.mp M.fn) (codeAny_mono went fun r s' got => ?_))
  match r, got with
  | .error e, got => exact hx pins σ _ _ e s' J got
  | .ok (.ret u), got =>
    obtain ⟨v, H', J', rv, ev, q3⟩ := J.after got
    subst ev
    exact ⟨rv, ⟨V.ref a, H', J', rfl, q3⟩⟩
/-- C(e, ..) -/
theorem mkl (D : Dc X.prog X.w X.K X.mg X.base CX k x ps sp) (hr : LR (k + 1) X.A) (hx : Passes CX X E) (ha : PA X (e :: es) t) (hg : Gl X x := by rfl)
    (hdb : (x == ("__debug__" : Str)) = false := by decide) (he : starEach (e :: es) X.env = (false, eval e X.env) :: starEach es X.env := by rfl) (hpl : (backTo pos (starEach es X.env)).any (·.1) = false := by rfl) :
    PE X (.Call (.Name x p) (e :: es) [] pos) (tMake (He.ga X.K x) sp [] E t) := by
  obtain ⟨fd, F, hb⟩ := D.ex
  refine ⟨fun pins s σ H Q I h => wpAny_Call_Name_kw (ld_glob I hg D.mg ?_ hdb)⟩
  refine PySem.W.callWith_K (h₀ := X.base) I.ok.mod.kin D.mkr.kp (thn (ha.run pos pins s σ H _ I h) fun us s1 got => ?_) he hpl
  obtain ⟨vs, H1, I1, r, q⟩ := got
  refine ⟨I1.kIn, runMakeL D.mkr F hr hb hx I1 r ?_⟩
  rw [List.append_nil] at q
  exact q
/-- C() -/
theorem mkl0 (D : Dc X.prog X.w X.K X.mg X.base CX k x ps sp) (hr : LR (k + 1) X.A) (hx : Passes CX X E) (hg : Gl X x := by rfl)
    (hdb : (x == ("__debug__" : Str)) = false := by decide) : PE X (.Call (.Name x p) [] [] pos) (tMake (He.ga X.K x) sp [] E tNil) := by
  obtain ⟨fd, F, hb⟩ := D.ex
  refine ⟨fun pins s σ H Q I h => wpAny_Call_Name_kw (ld_glob I hg D.mg ?_ hdb)⟩
  exact PySem.W.callWith_K0 I.kIn D.mkr.kp (runMakeL (us := []) (vs := []) D.mkr F hr hb hx I .nil h)
end

/-- a def's body keeps its promise, under a light room -/
theorem fnL_of {CX : CXT} {P : Program} {w : World} {K : PySem.W.Frag} {mg : Str → Option Value} {base : Heap} {k : Nat} {f : Addr} {name qual : Str} {params : Arguments} {body : List Stmt} {scope : Scope} {dV kV doc pm cdv ct oc : Value} {an od : Option Addr}
    {osl : Array (Option Value)} {N ps : List Str} {sp : Sp} (lk : K.lookup f = some ⟨oc, od, .func (PySem.W.fnOf name qual params body scope dV kV doc pm an cdv ct), osl⟩) (hcd : PySem.W.codeIn K cdv qual = true) (S : FnScope N ps scope)
    (len : ∀ vs H Q E, sp vs H Q E → vs.length = ps.length)
    (hbody : ∀ (A : Around) (outer : List Env) (s : Shared) (H : Hp) (vs : List V) (Q : VK) (E : XK), LR k (A.deeper (PyProof.Rows.envOfC qual scope s.heap.objs.size f cdv)) → sp vs H Q E →
      ∃ t, PSs (cxOf CX P w K mg base N qual scope f cdv A outer s H E) body t ∧ t { nx := fun _ H' => Q .non H', rt := Q } (start N vs) H) :
    FnL P w K mg base CX (k + 1) f (PySem.W.fnOf name qual params body scope dV kV doc pm an cdv ct) ps sp := by
  refine ⟨len, fun A outer s H args us vs Q E hr e0 hb r hsp => ?_⟩
  have stay : base.StaysIn s.heap := fun b o e => (e0.bs b o e).1
  have KX : K.In s.heap := e0.mod.kin.keeps stay
  have room : A.depth < recursionLimit := by have := hr.dp; omega
  have kinds : ∀ y ∈ ps.zip us, scope.names.lookup y.1 = some .local ∨ (scope.names.lookup y.1 = some .cell ∧ ((cellsFrom (s.heap.objs.size + 1) scope.names []).lookup y.1).isSome = true) := by
    intro y hy
    obtain ⟨n, v⟩ := y
    exact (S.par n (List.of_mem_zip hy).1).imp id fun q => ⟨q, PySem.W.cellsFrom_some _ _ _ (.inl q)⟩
  refine codeAny_call_function room (KX _ _ lk) rfl S.co S.gen rfl (PySem.W.codeRec_of KX hcd) (hb _ _ _ _ ?_)
  refine wpAny_newFunctionEnv_cells S.kind kinds fun env he s1 x => ?_
  subst he
  obtain ⟨t, ht, hq⟩ := hbody A outer s H vs Q E (hr.deeper _) hsp
  have I := inv_start (CX := CX) (E := E) (cd := cdv) (f := f) (qual := qual) S hr.hd e0 (len _ _ _ _ hsp) r x
  refine ⟨(e0.mod.nolimit.keeps stay).keeps x.toInCall.keep, codeAny_func ?_⟩
  refine wpAny_mono (ht.run [] s1 (start N vs) H _ I hq) (fun fl s' hs => ?_) fun e s' hs => hs
  match fl, hs with
  | .ret u, ⟨v, _, H', J, rv, q⟩ => exact ⟨v, H', J.os, J.bare, J.base, J.hok, rv, q⟩
  | .next, ⟨_, H', J, q⟩ => exact ⟨V.non, H', J.os, J.bare, J.base, J.hok, rfl, q⟩
  | .brk, ⟨_, _, _, q⟩ => exact q.elim
  | .cont, ⟨_, _, _, q⟩ => exact q.elim
theorem FunD_okL {CX : CXT} {P : Program} {w : World} {K : PySem.W.Frag} {mg : Str → Option Value} {base : Heap} {x qual : Str} {params : Arguments} {body : List Stmt} {scope : Scope} {dvs : List V} {kws : List (Str × V)} {f : Addr} {fd : FuncData}
    {N ps : List Str} {k : Nat} {sp : Sp} (F : FunD K x qual params body scope dvs kws f fd) (S : FnScope N ps scope) (len : ∀ vs H Q E, sp vs H Q E → vs.length = ps.length)
    (hbody : ∀ (cdv : Value) (A : Around) (outer : List Env) (s : Shared) (H : Hp) (vs : List V) (Q : VK) (E : XK), LR k (A.deeper (PyProof.Rows.envOfC qual scope s.heap.objs.size f cdv)) → sp vs H Q E →
      ∃ t, PSs (cxOf CX P w K mg base N qual scope f cdv A outer s H E) body t ∧ t { nx := fun _ H' => Q .non H', rt := Q } (start N vs) H) : FnL P w K mg base CX (k + 1) f fd ps sp := by
  obtain ⟨oc, od, dV, kV, doc, pm, an, cdv, ct, osl, rfl, lk, hcd, _, _⟩ := F.ex
  exact fnL_of lk hcd S len fun A outer s H vs Q E hr hsp => hbody cdv A outer s H vs Q E hr hsp
end KF

set_option Elab.async false
set_option linter.all false
set_option maxRecDepth 100000
/-! The text by places: printed by gen_text.py. -/
namespace KF
open PySem PySem.Spec L2
def topS (i : Nat) : Stmt := PySem.Challenge.pw_kindfill_k31_whole_every_program_made.main.body.getD i (.Pass ⟨0, 0, 0, 0⟩)
abbrev s_is_mark : Stmt := topS 3
theorem sc_is_mark : FnScope ["text", "sign"] ["text"] (defScope s_is_mark) := ⟨rfl, rfl, rfl, by decide +kernel, rfl, by decide +kernel, by decide +kernel⟩
abbrev s_has_form : Stmt := topS 8
theorem sc_has_form : FnScope ["thing", "room"] ["thing", "room"] (defScope s_has_form) := ⟨rfl, rfl, rfl, by decide +kernel, rfl, by decide +kernel, by decide +kernel⟩
abbrev s_is_kind : Stmt := topS 9
theorem sc_is_kind : FnScope ["thing"] ["thing"] (defScope s_is_kind) := ⟨rfl, rfl, rfl, by decide +kernel, rfl, by decide +kernel, by decide +kernel⟩
abbrev s_leaves_of : Stmt := topS 10
theorem sc_leaves_of : FnScope ["kind"] ["kind"] (defScope s_leaves_of) := ⟨rfl, rfl, rfl, by decide +kernel, rfl, by decide +kernel, by decide +kernel⟩
abbrev s_ends_of : Stmt := topS 11
theorem sc_ends_of : FnScope ["kind", "taken", "mark"] ["kind"] (defScope s_ends_of) := ⟨rfl, rfl, rfl, by decide +kernel, rfl, by decide +kernel, by decide +kernel⟩
abbrev s_ways_of : Stmt := topS 12
theorem sc_ways_of : FnScope ["kind", "found", "moves", "mark"] ["kind"] (defScope s_ways_of) := ⟨rfl, rfl, rfl, by decide +kernel, rfl, by decide +kernel, by decide +kernel⟩
abbrev s_NoFit___init__ : Stmt := inClass (topS 16) 0
theorem sc_NoFit___init__ : FnScope ["self", "place"] ["self", "place"] (defScope s_NoFit___init__) := ⟨rfl, rfl, rfl, by decide +kernel, rfl, by decide +kernel, by decide +kernel⟩
abbrev s_NoMaking___init__ : Stmt := inClass (topS 19) 0
theorem sc_NoMaking___init__ : FnScope ["self", "at"] ["self", "at"] (defScope s_NoMaking___init__) := ⟨rfl, rfl, rfl, by decide +kernel, rfl, by decide +kernel, by decide +kernel⟩
abbrev s_shown_kind : Stmt := topS 23
theorem sc_shown_kind : FnScope ["kind", "sign"] ["kind"] (defScope s_shown_kind) := ⟨rfl, rfl, rfl, by decide +kernel, rfl, by decide +kernel, by decide +kernel⟩
abbrev s_word_at : Stmt := topS 24
theorem sc_word_at : FnScope ["words", "at"] ["words", "at"] (defScope s_word_at) := ⟨rfl, rfl, rfl, by decide +kernel, rfl, by decide +kernel, by decide +kernel⟩
abbrev s_kind_from : Stmt := topS 25
theorem sc_kind_from : FnScope ["words", "at", "room", "word", "one", "sign", "other"] ["words", "at", "room"] (defScope s_kind_from) := ⟨rfl, rfl, rfl, by decide +kernel, rfl, by decide +kernel, by decide +kernel⟩
abbrev s_read_kind : Stmt := topS 26
theorem sc_read_kind : FnScope ["text", "words", "kind", "at"] ["text"] (defScope s_read_kind) := ⟨rfl, rfl, rfl, by decide +kernel, rfl, by decide +kernel, by decide +kernel⟩
abbrev s_there_with : Stmt := topS 28
theorem sc_there_with : FnScope ["there", "kinds", "kind"] ["there", "kinds"] (defScope s_there_with) := ⟨rfl, rfl, rfl, by decide +kernel, rfl, by decide +kernel, by decide +kernel⟩
abbrev s_move_ends : Stmt := topS 29
theorem sc_move_ends : FnScope ["moves", "found", "move"] ["moves"] (defScope s_move_ends) := ⟨rfl, rfl, rfl, by decide +kernel, rfl, by decide +kernel, by decide +kernel⟩
abbrev s_Book___init__ : Stmt := inClass (topS 30) 0
theorem sc_Book___init__ : FnScope ["self"] ["self"] (defScope s_Book___init__) := ⟨rfl, rfl, rfl, by decide +kernel, rfl, by decide +kernel, by decide +kernel⟩
abbrev s_Book_number : Stmt := inClass (topS 30) 1
theorem sc_Book_number : FnScope ["self", "there", "end", "taken", "mark", "room", "key"] ["self", "there", "end"] (defScope s_Book_number) := ⟨rfl, rfl, rfl, by decide +kernel, rfl, by decide +kernel, by decide +kernel⟩
abbrev s_Book_rows_of : Stmt := inClass (topS 30) 2
theorem sc_Book_rows_of : FnScope ["self", "room", "there", "mark", "found", "text", "way", "moves", "comes_to", "end"] ["self", "room"] (defScope s_Book_rows_of) := ⟨rfl, rfl, rfl, by decide +kernel, rfl, by decide +kernel, by decide +kernel⟩
abbrev s_Book_fill : Stmt := inClass (topS 30) 3
theorem sc_Book_fill : FnScope ["self"] ["self"] (defScope s_Book_fill) := ⟨rfl, rfl, rfl, by decide +kernel, rfl, by decide +kernel, by decide +kernel⟩
abbrev s_book_of : Stmt := topS 31
theorem sc_book_of : FnScope ["row", "kind", "book", "there", "starts", "name", "given", "end"] ["row", "kind"] (defScope s_book_of) := ⟨rfl, rfl, rfl, by decide +kernel, rfl, by decide +kernel, by decide +kernel⟩
abbrev s_inner : Stmt := topS 34
theorem sc_inner : FnScope ["program"] ["program"] (defScope s_inner) := ⟨rfl, rfl, rfl, by decide +kernel, rfl, by decide +kernel, by decide +kernel⟩
abbrev s_parts_of : Stmt := topS 35
theorem sc_parts_of : FnScope ["program", "part"] ["program"] (defScope s_parts_of) := ⟨rfl, rfl, rfl, by decide +kernel, rfl, by decide +kernel, by decide +kernel⟩
abbrev s_deep_of : Stmt := topS 36
theorem sc_deep_of : FnScope ["program", "part"] ["program"] (defScope s_deep_of) := ⟨rfl, rfl, rfl, by decide +kernel, rfl, by decide +kernel, by decide +kernel⟩
abbrev s_part_at : Stmt := topS 37
theorem sc_part_at : FnScope ["program", "place", "step", "some"] ["program", "place"] (defScope s_part_at) := ⟨rfl, rfl, rfl, by decide +kernel, rfl, by decide +kernel, by decide +kernel⟩
abbrev s_with_inner : Stmt := topS 38
theorem sc_with_inner : FnScope ["program", "some"] ["program", "some"] (defScope s_with_inner) := ⟨rfl, rfl, rfl, by decide +kernel, rfl, by decide +kernel, by decide +kernel⟩
abbrev s_with_part : Stmt := topS 39
theorem sc_with_part : FnScope ["program", "place", "part", "some"] ["program", "place", "part"] (defScope s_with_part) := ⟨rfl, rfl, rfl, by decide +kernel, rfl, by decide +kernel, by decide +kernel⟩
abbrev s_known_as : Stmt := topS 41
theorem sc_known_as : FnScope ["known", "name", "one", "kind"] ["known", "name"] (defScope s_known_as) := ⟨rfl, rfl, rfl, by decide +kernel, rfl, by decide +kernel, by decide +kernel⟩
abbrev s_kind_here : Stmt := topS 42
theorem sc_kind_here : FnScope ["known", "program", "some", "word"] ["known", "program", "some"] (defScope s_kind_here) := ⟨rfl, rfl, rfl, by decide +kernel, rfl, by decide +kernel, by decide +kernel⟩
abbrev s_kind_within : Stmt := topS 43
theorem sc_kind_within : FnScope ["known", "program", "place", "some", "found", "k", "part"] ["known", "program", "place"] (defScope s_kind_within) := ⟨rfl, rfl, rfl, by decide +kernel, rfl, by decide +kernel, by decide +kernel⟩
abbrev s_kind_of : Stmt := topS 44
theorem sc_kind_of : FnScope ["row", "program"] ["row", "program"] (defScope s_kind_of) := ⟨rfl, rfl, rfl, by decide +kernel, rfl, by decide +kernel, by decide +kernel⟩
abbrev s_tidied_within : Stmt := topS 45
theorem sc_tidied_within : FnScope ["program", "taken", "k", "body", "part"] ["program", "taken"] (defScope s_tidied_within) := ⟨rfl, rfl, rfl, by decide +kernel, rfl, by decide +kernel, by decide +kernel⟩
abbrev s_tidied : Stmt := topS 46
theorem sc_tidied : FnScope ["program"] ["program"] (defScope s_tidied) := ⟨rfl, rfl, rfl, by decide +kernel, rfl, by decide +kernel, by decide +kernel⟩
abbrev s_can_step : Stmt := topS 48
theorem sc_can_step : FnScope ["part"] ["part"] (defScope s_can_step) := ⟨rfl, rfl, rfl, by decide +kernel, rfl, by decide +kernel, by decide +kernel⟩
abbrev s_put_places : Stmt := topS 49
theorem sc_put_places : FnScope ["part", "place", "found", "k", "one"] ["part", "place", "found"] (defScope s_put_places) := ⟨rfl, rfl, rfl, by decide +kernel, rfl, by decide +kernel, by decide +kernel⟩
abbrev s_step_places : Stmt := topS 50
theorem sc_step_places : FnScope ["program", "found"] ["program"] (defScope s_step_places) := ⟨rfl, rfl, rfl, by decide +kernel, rfl, by decide +kernel, by decide +kernel⟩
abbrev s_name_count : Stmt := topS 55
theorem sc_name_count : FnScope ["part", "name", "one"] ["part", "name"] (defScope s_name_count) := ⟨rfl, rfl, rfl, by decide +kernel, rfl, by decide +kernel, by decide +kernel⟩
abbrev s_with_given : Stmt := topS 56
theorem sc_with_given : FnScope ["part", "name", "given", "one"] ["part", "name", "given"] (defScope s_with_given) := ⟨rfl, rfl, rfl, by decide +kernel, rfl, by decide +kernel, by decide +kernel⟩
abbrev s_what_comes : Stmt := topS 57
theorem sc_what_comes : FnScope ["part", "word", "name", "kind", "body"] ["part"] (defScope s_what_comes) := ⟨rfl, rfl, rfl, by decide +kernel, rfl, by decide +kernel, by decide +kernel⟩
abbrev s_parts_that_come : Stmt := topS 58
theorem sc_parts_that_come : FnScope ["program", "part", "rest", "word", "name", "kind", "body"] ["program", "part"] (defScope s_parts_that_come) := ⟨rfl, rfl, rfl, by decide +kernel, rfl, by decide +kernel, by decide +kernel⟩
abbrev s_done_at : Stmt := topS 59
theorem sc_done_at : FnScope ["program", "place"] ["program", "place"] (defScope s_done_at) := ⟨rfl, rfl, rfl, by decide +kernel, rfl, by decide +kernel, by decide +kernel⟩
abbrev s_next_place : Stmt := topS 60
theorem sc_next_place : FnScope ["places", "picks", "number"] ["places", "picks", "number"] (defScope s_next_place) := ⟨rfl, rfl, rfl, by decide +kernel, rfl, by decide +kernel, by decide +kernel⟩
abbrev s_run : Stmt := topS 61
theorem sc_run : FnScope ["program", "picks", "log", "places", "place"] ["program", "picks"] (defScope s_run) := ⟨rfl, rfl, rfl, by decide +kernel, rfl, by decide +kernel, by decide +kernel⟩
abbrev s_taken_name : Stmt := topS 65
theorem sc_taken_name : FnScope ["takes"] ["takes"] (defScope s_taken_name) := ⟨rfl, rfl, rfl, by decide +kernel, rfl, by decide +kernel, by decide +kernel⟩
abbrev s_is_long_here : Stmt := topS 66
theorem sc_is_long_here : FnScope ["known", "kind", "program", "takes", "name"] ["known", "kind", "program", "takes"] (defScope s_is_long_here) := ⟨rfl, rfl, rfl, by decide +kernel, rfl, by decide +kernel, by decide +kernel⟩
abbrev s_gone_along : Stmt := topS 67
theorem sc_gone_along : FnScope ["known", "program", "takes", "kind"] ["known", "program", "takes"] (defScope s_gone_along) := ⟨rfl, rfl, rfl, by decide +kernel, rfl, by decide +kernel, by decide +kernel⟩
abbrev s_is_long : Stmt := topS 68
theorem sc_is_long : FnScope ["row", "kind", "program"] ["row", "kind", "program"] (defScope s_is_long) := ⟨rfl, rfl, rfl, by decide +kernel, rfl, by decide +kernel, by decide +kernel⟩
abbrev s_size_of : Stmt := topS 69
theorem sc_size_of : FnScope ["program", "part"] ["program"] (defScope s_size_of) := ⟨rfl, rfl, rfl, by decide +kernel, rfl, by decide +kernel, by decide +kernel⟩
abbrev s_Longer___init__ : Stmt := inClass (topS 70) 0
theorem sc_Longer___init__ : FnScope ["self"] ["self"] (defScope s_Longer___init__) := ⟨rfl, rfl, rfl, by decide +kernel, rfl, by decide +kernel, by decide +kernel⟩
abbrev s_Longer_spend : Stmt := inClass (topS 70) 1
theorem sc_Longer_spend : FnScope ["self", "nest"] ["self", "nest"] (defScope s_Longer_spend) := ⟨rfl, rfl, rfl, by decide +kernel, rfl, by decide +kernel, by decide +kernel⟩
abbrev s_Longer_made : Stmt := inClass (topS 70) 2
theorem sc_Longer_made : FnScope ["self", "known", "kind", "program", "nest", "halves", "one", "name", "body"] ["self", "known", "kind", "program", "nest"] (defScope s_Longer_made) := ⟨rfl, rfl, rfl, by decide +kernel, rfl, by decide +kernel, by decide +kernel⟩
abbrev s_Longer_along : Stmt := inClass (topS 70) 3
theorem sc_Longer_along : FnScope ["self", "known", "program", "nest", "found", "kind"] ["self", "known", "program", "nest"] (defScope s_Longer_along) := ⟨rfl, rfl, rfl, by decide +kernel, rfl, by decide +kernel, by decide +kernel⟩
abbrev s_long_form : Stmt := topS 71
theorem sc_long_form : FnScope ["row", "program", "kind", "plain", "found"] ["row", "program"] (defScope s_long_form) := ⟨rfl, rfl, rfl, by decide +kernel, rfl, by decide +kernel, by decide +kernel⟩
abbrev s_moves_in : Stmt := topS 73
theorem sc_moves_in : FnScope ["program", "moves"] ["program"] (defScope s_moves_in) := ⟨rfl, rfl, rfl, by decide +kernel, rfl, by decide +kernel, by decide +kernel⟩
abbrev s_same_way : Stmt := topS 74
theorem sc_same_way : FnScope ["told", "moves", "one", "move"] ["told", "moves"] (defScope s_same_way) := ⟨rfl, rfl, rfl, by decide +kernel, rfl, by decide +kernel, by decide +kernel⟩
abbrev s_way_in : Stmt := topS 75
theorem sc_way_in : FnScope ["kind", "told", "number", "moves", "mark"] ["kind", "told"] (defScope s_way_in) := ⟨rfl, rfl, rfl, by decide +kernel, rfl, by decide +kernel, by decide +kernel⟩
abbrev s_which_of : Stmt := topS 76
theorem sc_which_of : FnScope ["known", "name", "kind", "some", "one", "other"] ["known", "name", "kind"] (defScope s_which_of) := ⟨rfl, rfl, rfl, by decide +kernel, rfl, by decide +kernel, by decide +kernel⟩
abbrev s_Maker___init__ : Stmt := inClass (topS 77) 0
theorem sc_Maker___init__ : FnScope ["self", "row", "kind"] ["self", "row", "kind"] (defScope s_Maker___init__) := ⟨rfl, rfl, rfl, by decide +kernel, rfl, by decide +kernel, by decide +kernel⟩
abbrev s_Maker_tell : Stmt := inClass (topS 77) 1
theorem sc_Maker_tell : FnScope ["self", "known", "kind", "program", "rooms"] ["self", "known", "kind", "program", "rooms"] (defScope s_Maker_tell) := ⟨rfl, rfl, rfl, by decide +kernel, rfl, by decide +kernel, by decide +kernel⟩
abbrev s_Maker_tell_mark : Stmt := inClass (topS 77) 2
theorem sc_Maker_tell_mark : FnScope ["self", "known", "program", "room", "told", "name", "kind", "text", "way", "at", "rooms", "one", "move", "line"] ["self", "known", "program", "room"] (defScope s_Maker_tell_mark) := ⟨rfl, rfl, rfl, by decide +kernel, rfl, by decide +kernel, by decide +kernel⟩
abbrev s_Maker_make : Stmt := inClass (topS 77) 3
theorem sc_Maker_make : FnScope ["self", "known", "kind", "rooms", "takes", "one", "name"] ["self", "known", "kind", "rooms", "takes"] (defScope s_Maker_make) := ⟨rfl, rfl, rfl, by decide +kernel, rfl, by decide +kernel, by decide +kernel⟩
abbrev s_Maker_make_mark : Stmt := inClass (topS 77) 4
theorem sc_Maker_make_mark : FnScope ["self", "known", "room", "takes", "told", "at", "which", "text", "way", "rooms", "kind", "some", "name", "other"] ["self", "known", "room", "takes"] (defScope s_Maker_make_mark) := ⟨rfl, rfl, rfl, by decide +kernel, rfl, by decide +kernel, by decide +kernel⟩
abbrev s_Maker_go : Stmt := inClass (topS 77) 5
theorem sc_Maker_go : FnScope ["self", "known", "program", "moves", "rest", "rooms", "takes", "move"] ["self", "known", "program", "moves", "rest"] (defScope s_Maker_go) := ⟨rfl, rfl, rfl, by decide +kernel, rfl, by decide +kernel, by decide +kernel⟩
abbrev s_making_of : Stmt := topS 78
theorem sc_making_of : FnScope ["row", "kind", "program", "maker"] ["row", "kind", "program"] (defScope s_making_of) := ⟨rfl, rfl, rfl, by decide +kernel, rfl, by decide +kernel, by decide +kernel⟩
abbrev s_made_by : Stmt := topS 79
theorem sc_made_by : FnScope ["row", "kind", "making", "maker", "found"] ["row", "kind", "making"] (defScope s_made_by) := ⟨rfl, rfl, rfl, by decide +kernel, rfl, by decide +kernel, by decide +kernel⟩
abbrev s_law_pool : Stmt := topS 81
theorem sc_law_pool : FnScope ["_law_script", "_law_k", "_law_cell", "_law_number"] ["_law_script", "_law_k"] (defScope s_law_pool) := ⟨rfl, rfl, rfl, by decide +kernel, rfl, by decide +kernel, by decide +kernel⟩
abbrev s_law_take : Stmt := topS 82
theorem sc_law_take : FnScope ["_law_pool_here", "_law_many_here", "_law_found"] ["_law_pool_here", "_law_many_here"] (defScope s_law_take) := ⟨rfl, rfl, rfl, by decide +kernel, rfl, by decide +kernel, by decide +kernel⟩
abbrev s_law_kind : Stmt := topS 83
theorem sc_law_kind : FnScope ["_law_pool_here", "_law_leaves_here", "_law_marks", "_law_one", "_law_word"] ["_law_pool_here", "_law_leaves_here", "_law_marks"] (defScope s_law_kind) := ⟨rfl, rfl, rfl, by decide +kernel, rfl, by decide +kernel, by decide +kernel⟩
abbrev s_law_seen : Stmt := topS 84
theorem sc_law_seen : FnScope ["_law_known", "_law_found", "_law_name", "_law_kind_here"] ["_law_known"] (defScope s_law_seen) := ⟨rfl, rfl, rfl, by decide +kernel, rfl, by decide +kernel, by decide +kernel⟩
abbrev s_law_uses : Stmt := topS 85
theorem sc_law_uses : FnScope ["_law_kind_here", "_law_goal", "_law_name", "_law_found", "_law_moves"] ["_law_kind_here", "_law_goal", "_law_name"] (defScope s_law_uses) := ⟨rfl, rfl, rfl, by decide +kernel, rfl, by decide +kernel, by decide +kernel⟩
abbrev s_law_used : Stmt := topS 86
theorem sc_law_used : FnScope ["_law_pool_here", "_law_known", "_law_goal", "_law_room", "_law_some", "_law_name", "_law_kind_here", "_law_found", "_law_move", "_law_moves"] ["_law_pool_here", "_law_known", "_law_goal", "_law_room"] (defScope s_law_used) := ⟨rfl, rfl, rfl, by decide +kernel, rfl, by decide +kernel, by decide +kernel⟩
abbrev s_law_made : Stmt := topS 87
theorem sc_law_made : FnScope ["_law_pool_here", "_law_known", "_law_goal", "_law_room", "_law_name"] ["_law_pool_here", "_law_known", "_law_goal", "_law_room"] (defScope s_law_made) := ⟨rfl, rfl, rfl, by decide +kernel, rfl, by decide +kernel, by decide +kernel⟩
abbrev s_law_program : Stmt := topS 88
theorem sc_law_program : FnScope ["_law_pool_here", "_law_known", "_law_goal", "_law_room", "_law_way", "_law_name", "_law_kind_here", "_law_body", "_law_some", "_law_found"] ["_law_pool_here", "_law_known", "_law_goal", "_law_room"] (defScope s_law_program) := ⟨rfl, rfl, rfl, by decide +kernel, rfl, by decide +kernel, by decide +kernel⟩
abbrev s_law_row : Stmt := topS 89
theorem sc_law_row : FnScope ["_law_pool_here", "_law_row_here", "_law_name"] ["_law_pool_here"] (defScope s_law_row) := ⟨rfl, rfl, rfl, by decide +kernel, rfl, by decide +kernel, by decide +kernel⟩
abbrev s_law_many : Stmt := topS 90
theorem sc_law_many : FnScope ["_law_program_here", "_law_row_here", "_law_many_here", "_law_one", "_law_part"] ["_law_program_here"] (defScope s_law_many) := ⟨rfl, rfl, rfl, by decide +kernel, rfl, by decide +kernel, by decide +kernel⟩
abbrev s_law_words : Stmt := topS 91
theorem sc_law_words : FnScope [] [] (defScope s_law_words) := ⟨rfl, rfl, rfl, by decide +kernel, rfl, by decide +kernel, by decide +kernel⟩
abbrev s_law_drawn : Stmt := topS 92
theorem sc_law_drawn : FnScope ["_law_pool_here", "_law_row_here", "_law_most", "_law_goal", "_law_program_here"] ["_law_pool_here", "_law_row_here", "_law_most"] (defScope s_law_drawn) := ⟨rfl, rfl, rfl, by decide +kernel, rfl, by decide +kernel, by decide +kernel⟩
abbrev s_law_long : Stmt := topS 93
theorem sc_law_long : FnScope ["_law_row_here", "_law_program_here", "_law_found"] ["_law_row_here", "_law_program_here"] (defScope s_law_long) := ⟨rfl, rfl, rfl, by decide +kernel, rfl, by decide +kernel, by decide +kernel⟩
abbrev s_law_leaves : Stmt := topS 94
theorem sc_law_leaves : FnScope ["_law_row_here", "_law_kind_here", "_law_some", "_law_many_here", "_law_one", "_law_name", "_law_given"] ["_law_row_here", "_law_kind_here"] (defScope s_law_leaves) := ⟨rfl, rfl, rfl, by decide +kernel, rfl, by decide +kernel, by decide +kernel⟩
abbrev s_law_lacks : Stmt := topS 95
theorem sc_law_lacks : FnScope ["_law_row_here", "_law_kind_here", "_law_making", "_law_at", "e"] ["_law_row_here", "_law_kind_here", "_law_making"] (defScope s_law_lacks) := ⟨rfl, rfl, rfl, by decide +kernel, rfl, by decide +kernel, by decide +kernel⟩
abbrev s_law : Stmt := topS 96
theorem sc_law : FnScope ["_law_script", "_law_k", "_law_pool_here", "_law_row_here", "_law_goal", "_law_program_here", "_law_other", "_law_both", "_law_form", "_law_more", "_law_making", "_law_whole"] ["_law_script"] (defScope s_law) := ⟨rfl, rfl, rfl, by decide +kernel, rfl, by decide +kernel, by decide +kernel⟩
/-- the facts of the program's top -/
structure Tx (w : World) (K : PySem.W.Frag) (mg : Str → Option Value) : Prop where
  d_is_mark : ∃ fd, FunD K "is_mark" "is_mark" (defArgs s_is_mark) (defBody s_is_mark) (defScope s_is_mark) [] [] (He.ga K "is_mark") fd
  g_is_mark : mg "is_mark" = some (.ref (He.ga K "is_mark"))
  d_has_form : ∃ fd, FunD K "has_form" "has_form" (defArgs s_has_form) (defBody s_has_form) (defScope s_has_form) [] [] (He.ga K "has_form") fd
  g_has_form : mg "has_form" = some (.ref (He.ga K "has_form"))
  d_is_kind : ∃ fd, FunD K "is_kind" "is_kind" (defArgs s_is_kind) (defBody s_is_kind) (defScope s_is_kind) [] [] (He.ga K "is_kind") fd
  g_is_kind : mg "is_kind" = some (.ref (He.ga K "is_kind"))
  d_leaves_of : ∃ fd, FunD K "leaves_of" "leaves_of" (defArgs s_leaves_of) (defBody s_leaves_of) (defScope s_leaves_of) [] [] (He.ga K "leaves_of") fd
  g_leaves_of : mg "leaves_of" = some (.ref (He.ga K "leaves_of"))
  d_ends_of : ∃ fd, FunD K "ends_of" "ends_of" (defArgs s_ends_of) (defBody s_ends_of) (defScope s_ends_of) [] [] (He.ga K "ends_of") fd
  g_ends_of : mg "ends_of" = some (.ref (He.ga K "ends_of"))
  d_ways_of : ∃ fd, FunD K "ways_of" "ways_of" (defArgs s_ways_of) (defBody s_ways_of) (defScope s_ways_of) [] [] (He.ga K "ways_of") fd
  g_ways_of : mg "ways_of" = some (.ref (He.ga K "ways_of"))
  d_NoFit___init__ : ∃ fd, FunD K "__init__" "NoFit.__init__" (defArgs s_NoFit___init__) (defBody s_NoFit___init__) (defScope s_NoFit___init__) [] [] (He.ma K (He.ga K "NoFit") "__init__") fd
  d_NoMaking___init__ : ∃ fd, FunD K "__init__" "NoMaking.__init__" (defArgs s_NoMaking___init__) (defBody s_NoMaking___init__) (defScope s_NoMaking___init__) [] [] (He.ma K (He.ga K "NoMaking") "__init__") fd
  d_shown_kind : ∃ fd, FunD K "shown_kind" "shown_kind" (defArgs s_shown_kind) (defBody s_shown_kind) (defScope s_shown_kind) [] [] (He.ga K "shown_kind") fd
  g_shown_kind : mg "shown_kind" = some (.ref (He.ga K "shown_kind"))
  d_word_at : ∃ fd, FunD K "word_at" "word_at" (defArgs s_word_at) (defBody s_word_at) (defScope s_word_at) [] [] (He.ga K "word_at") fd
  g_word_at : mg "word_at" = some (.ref (He.ga K "word_at"))
  d_kind_from : ∃ fd, FunD K "kind_from" "kind_from" (defArgs s_kind_from) (defBody s_kind_from) (defScope s_kind_from) [] [] (He.ga K "kind_from") fd
  g_kind_from : mg "kind_from" = some (.ref (He.ga K "kind_from"))
  d_read_kind : ∃ fd, FunD K "read_kind" "read_kind" (defArgs s_read_kind) (defBody s_read_kind) (defScope s_read_kind) [] [] (He.ga K "read_kind") fd
  g_read_kind : mg "read_kind" = some (.ref (He.ga K "read_kind"))
  d_there_with : ∃ fd, FunD K "there_with" "there_with" (defArgs s_there_with) (defBody s_there_with) (defScope s_there_with) [] [] (He.ga K "there_with") fd
  g_there_with : mg "there_with" = some (.ref (He.ga K "there_with"))
  d_move_ends : ∃ fd, FunD K "move_ends" "move_ends" (defArgs s_move_ends) (defBody s_move_ends) (defScope s_move_ends) [] [] (He.ga K "move_ends") fd
  g_move_ends : mg "move_ends" = some (.ref (He.ga K "move_ends"))
  d_Book___init__ : ∃ fd, FunD K "__init__" "Book.__init__" (defArgs s_Book___init__) (defBody s_Book___init__) (defScope s_Book___init__) [] [] (He.ma K (He.ga K "Book") "__init__") fd
  d_Book_number : ∃ fd, FunD K "number" "Book.number" (defArgs s_Book_number) (defBody s_Book_number) (defScope s_Book_number) [] [] (He.ma K (He.ga K "Book") "number") fd
  d_Book_rows_of : ∃ fd, FunD K "rows_of" "Book.rows_of" (defArgs s_Book_rows_of) (defBody s_Book_rows_of) (defScope s_Book_rows_of) [] [] (He.ma K (He.ga K "Book") "rows_of") fd
  d_Book_fill : ∃ fd, FunD K "fill" "Book.fill" (defArgs s_Book_fill) (defBody s_Book_fill) (defScope s_Book_fill) [] [] (He.ma K (He.ga K "Book") "fill") fd
  d_book_of : ∃ fd, FunD K "book_of" "book_of" (defArgs s_book_of) (defBody s_book_of) (defScope s_book_of) [] [] (He.ga K "book_of") fd
  g_book_of : mg "book_of" = some (.ref (He.ga K "book_of"))
  d_inner : ∃ fd, FunD K "inner" "inner" (defArgs s_inner) (defBody s_inner) (defScope s_inner) [] [] (He.ga K "inner") fd
  g_inner : mg "inner" = some (.ref (He.ga K "inner"))
  d_parts_of : ∃ fd, FunD K "parts_of" "parts_of" (defArgs s_parts_of) (defBody s_parts_of) (defScope s_parts_of) [] [] (He.ga K "parts_of") fd
  g_parts_of : mg "parts_of" = some (.ref (He.ga K "parts_of"))
  d_deep_of : ∃ fd, FunD K "deep_of" "deep_of" (defArgs s_deep_of) (defBody s_deep_of) (defScope s_deep_of) [] [] (He.ga K "deep_of") fd
  g_deep_of : mg "deep_of" = some (.ref (He.ga K "deep_of"))
  d_part_at : ∃ fd, FunD K "part_at" "part_at" (defArgs s_part_at) (defBody s_part_at) (defScope s_part_at) [] [] (He.ga K "part_at") fd
  g_part_at : mg "part_at" = some (.ref (He.ga K "part_at"))
  d_with_inner : ∃ fd, FunD K "with_inner" "with_inner" (defArgs s_with_inner) (defBody s_with_inner) (defScope s_with_inner) [] [] (He.ga K "with_inner") fd
  g_with_inner : mg "with_inner" = some (.ref (He.ga K "with_inner"))
  d_with_part : ∃ fd, FunD K "with_part" "with_part" (defArgs s_with_part) (defBody s_with_part) (defScope s_with_part) [] [] (He.ga K "with_part") fd
  g_with_part : mg "with_part" = some (.ref (He.ga K "with_part"))
  d_known_as : ∃ fd, FunD K "known_as" "known_as" (defArgs s_known_as) (defBody s_known_as) (defScope s_known_as) [] [] (He.ga K "known_as") fd
  g_known_as : mg "known_as" = some (.ref (He.ga K "known_as"))
  d_kind_here : ∃ fd, FunD K "kind_here" "kind_here" (defArgs s_kind_here) (defBody s_kind_here) (defScope s_kind_here) [] [] (He.ga K "kind_here") fd
  g_kind_here : mg "kind_here" = some (.ref (He.ga K "kind_here"))
  d_kind_within : ∃ fd, FunD K "kind_within" "kind_within" (defArgs s_kind_within) (defBody s_kind_within) (defScope s_kind_within) [] [] (He.ga K "kind_within") fd
  g_kind_within : mg "kind_within" = some (.ref (He.ga K "kind_within"))
  d_kind_of : ∃ fd, FunD K "kind_of" "kind_of" (defArgs s_kind_of) (defBody s_kind_of) (defScope s_kind_of) [] [] (He.ga K "kind_of") fd
  g_kind_of : mg "kind_of" = some (.ref (He.ga K "kind_of"))
  d_tidied_within : ∃ fd, FunD K "tidied_within" "tidied_within" (defArgs s_tidied_within) (defBody s_tidied_within) (defScope s_tidied_within) [] [] (He.ga K "tidied_within") fd
  g_tidied_within : mg "tidied_within" = some (.ref (He.ga K "tidied_within"))
  d_tidied : ∃ fd, FunD K "tidied" "tidied" (defArgs s_tidied) (defBody s_tidied) (defScope s_tidied) [] [] (He.ga K "tidied") fd
  g_tidied : mg "tidied" = some (.ref (He.ga K "tidied"))
  d_can_step : ∃ fd, FunD K "can_step" "can_step" (defArgs s_can_step) (defBody s_can_step) (defScope s_can_step) [] [] (He.ga K "can_step") fd
  g_can_step : mg "can_step" = some (.ref (He.ga K "can_step"))
  d_put_places : ∃ fd, FunD K "put_places" "put_places" (defArgs s_put_places) (defBody s_put_places) (defScope s_put_places) [] [] (He.ga K "put_places") fd
  g_put_places : mg "put_places" = some (.ref (He.ga K "put_places"))
  d_step_places : ∃ fd, FunD K "step_places" "step_places" (defArgs s_step_places) (defBody s_step_places) (defScope s_step_places) [] [] (He.ga K "step_places") fd
  g_step_places : mg "step_places" = some (.ref (He.ga K "step_places"))
  d_name_count : ∃ fd, FunD K "name_count" "name_count" (defArgs s_name_count) (defBody s_name_count) (defScope s_name_count) [] [] (He.ga K "name_count") fd
  g_name_count : mg "name_count" = some (.ref (He.ga K "name_count"))
  d_with_given : ∃ fd, FunD K "with_given" "with_given" (defArgs s_with_given) (defBody s_with_given) (defScope s_with_given) [] [] (He.ga K "with_given") fd
  g_with_given : mg "with_given" = some (.ref (He.ga K "with_given"))
  d_what_comes : ∃ fd, FunD K "what_comes" "what_comes" (defArgs s_what_comes) (defBody s_what_comes) (defScope s_what_comes) [] [] (He.ga K "what_comes") fd
  g_what_comes : mg "what_comes" = some (.ref (He.ga K "what_comes"))
  d_parts_that_come : ∃ fd, FunD K "parts_that_come" "parts_that_come" (defArgs s_parts_that_come) (defBody s_parts_that_come) (defScope s_parts_that_come) [] [] (He.ga K "parts_that_come") fd
  g_parts_that_come : mg "parts_that_come" = some (.ref (He.ga K "parts_that_come"))
  d_done_at : ∃ fd, FunD K "done_at" "done_at" (defArgs s_done_at) (defBody s_done_at) (defScope s_done_at) [] [] (He.ga K "done_at") fd
  g_done_at : mg "done_at" = some (.ref (He.ga K "done_at"))
  d_next_place : ∃ fd, FunD K "next_place" "next_place" (defArgs s_next_place) (defBody s_next_place) (defScope s_next_place) [] [] (He.ga K "next_place") fd
  g_next_place : mg "next_place" = some (.ref (He.ga K "next_place"))
  d_run : ∃ fd, FunD K "run" "run" (defArgs s_run) (defBody s_run) (defScope s_run) [.non] [] (He.ga K "run") fd
  g_run : mg "run" = some (.ref (He.ga K "run"))
  d_taken_name : ∃ fd, FunD K "taken_name" "taken_name" (defArgs s_taken_name) (defBody s_taken_name) (defScope s_taken_name) [] [] (He.ga K "taken_name") fd
  g_taken_name : mg "taken_name" = some (.ref (He.ga K "taken_name"))
  d_is_long_here : ∃ fd, FunD K "is_long_here" "is_long_here" (defArgs s_is_long_here) (defBody s_is_long_here) (defScope s_is_long_here) [] [] (He.ga K "is_long_here") fd
  g_is_long_here : mg "is_long_here" = some (.ref (He.ga K "is_long_here"))
  d_gone_along : ∃ fd, FunD K "gone_along" "gone_along" (defArgs s_gone_along) (defBody s_gone_along) (defScope s_gone_along) [] [] (He.ga K "gone_along") fd
  g_gone_along : mg "gone_along" = some (.ref (He.ga K "gone_along"))
  d_is_long : ∃ fd, FunD K "is_long" "is_long" (defArgs s_is_long) (defBody s_is_long) (defScope s_is_long) [] [] (He.ga K "is_long") fd
  g_is_long : mg "is_long" = some (.ref (He.ga K "is_long"))
  d_size_of : ∃ fd, FunD K "size_of" "size_of" (defArgs s_size_of) (defBody s_size_of) (defScope s_size_of) [] [] (He.ga K "size_of") fd
  g_size_of : mg "size_of" = some (.ref (He.ga K "size_of"))
  d_Longer___init__ : ∃ fd, FunD K "__init__" "Longer.__init__" (defArgs s_Longer___init__) (defBody s_Longer___init__) (defScope s_Longer___init__) [] [] (He.ma K (He.ga K "Longer") "__init__") fd
  d_Longer_spend : ∃ fd, FunD K "spend" "Longer.spend" (defArgs s_Longer_spend) (defBody s_Longer_spend) (defScope s_Longer_spend) [] [] (He.ma K (He.ga K "Longer") "spend") fd
  d_Longer_made : ∃ fd, FunD K "made" "Longer.made" (defArgs s_Longer_made) (defBody s_Longer_made) (defScope s_Longer_made) [] [] (He.ma K (He.ga K "Longer") "made") fd
  d_Longer_along : ∃ fd, FunD K "along" "Longer.along" (defArgs s_Longer_along) (defBody s_Longer_along) (defScope s_Longer_along) [] [] (He.ma K (He.ga K "Longer") "along") fd
  d_long_form : ∃ fd, FunD K "long_form" "long_form" (defArgs s_long_form) (defBody s_long_form) (defScope s_long_form) [] [] (He.ga K "long_form") fd
  g_long_form : mg "long_form" = some (.ref (He.ga K "long_form"))
  d_moves_in : ∃ fd, FunD K "moves_in" "moves_in" (defArgs s_moves_in) (defBody s_moves_in) (defScope s_moves_in) [] [] (He.ga K "moves_in") fd
  g_moves_in : mg "moves_in" = some (.ref (He.ga K "moves_in"))
  d_same_way : ∃ fd, FunD K "same_way" "same_way" (defArgs s_same_way) (defBody s_same_way) (defScope s_same_way) [] [] (He.ga K "same_way") fd
  g_same_way : mg "same_way" = some (.ref (He.ga K "same_way"))
  d_way_in : ∃ fd, FunD K "way_in" "way_in" (defArgs s_way_in) (defBody s_way_in) (defScope s_way_in) [] [] (He.ga K "way_in") fd
  g_way_in : mg "way_in" = some (.ref (He.ga K "way_in"))
  d_which_of : ∃ fd, FunD K "which_of" "which_of" (defArgs s_which_of) (defBody s_which_of) (defScope s_which_of) [] [] (He.ga K "which_of") fd
  g_which_of : mg "which_of" = some (.ref (He.ga K "which_of"))
  d_Maker___init__ : ∃ fd, FunD K "__init__" "Maker.__init__" (defArgs s_Maker___init__) (defBody s_Maker___init__) (defScope s_Maker___init__) [] [] (He.ma K (He.ga K "Maker") "__init__") fd
  d_Maker_tell : ∃ fd, FunD K "tell" "Maker.tell" (defArgs s_Maker_tell) (defBody s_Maker_tell) (defScope s_Maker_tell) [] [] (He.ma K (He.ga K "Maker") "tell") fd
  d_Maker_tell_mark : ∃ fd, FunD K "tell_mark" "Maker.tell_mark" (defArgs s_Maker_tell_mark) (defBody s_Maker_tell_mark) (defScope s_Maker_tell_mark) [] [] (He.ma K (He.ga K "Maker") "tell_mark") fd
  d_Maker_make : ∃ fd, FunD K "make" "Maker.make" (defArgs s_Maker_make) (defBody s_Maker_make) (defScope s_Maker_make) [] [] (He.ma K (He.ga K "Maker") "make") fd
  d_Maker_make_mark : ∃ fd, FunD K "make_mark" "Maker.make_mark" (defArgs s_Maker_make_mark) (defBody s_Maker_make_mark) (defScope s_Maker_make_mark) [] [] (He.ma K (He.ga K "Maker") "make_mark") fd
  d_Maker_go : ∃ fd, FunD K "go" "Maker.go" (defArgs s_Maker_go) (defBody s_Maker_go) (defScope s_Maker_go) [] [] (He.ma K (He.ga K "Maker") "go") fd
  d_making_of : ∃ fd, FunD K "making_of" "making_of" (defArgs s_making_of) (defBody s_making_of) (defScope s_making_of) [] [] (He.ga K "making_of") fd
  g_making_of : mg "making_of" = some (.ref (He.ga K "making_of"))
  d_made_by : ∃ fd, FunD K "made_by" "made_by" (defArgs s_made_by) (defBody s_made_by) (defScope s_made_by) [] [] (He.ga K "made_by") fd
  g_made_by : mg "made_by" = some (.ref (He.ga K "made_by"))
  d_law_pool : ∃ fd, FunD K "_law_pool" "_law_pool" (defArgs s_law_pool) (defBody s_law_pool) (defScope s_law_pool) [] [] (He.ga K "_law_pool") fd
  g_law_pool : mg "_law_pool" = some (.ref (He.ga K "_law_pool"))
  d_law_take : ∃ fd, FunD K "_law_take" "_law_take" (defArgs s_law_take) (defBody s_law_take) (defScope s_law_take) [] [] (He.ga K "_law_take") fd
  g_law_take : mg "_law_take" = some (.ref (He.ga K "_law_take"))
  d_law_kind : ∃ fd, FunD K "_law_kind" "_law_kind" (defArgs s_law_kind) (defBody s_law_kind) (defScope s_law_kind) [] [] (He.ga K "_law_kind") fd
  g_law_kind : mg "_law_kind" = some (.ref (He.ga K "_law_kind"))
  d_law_seen : ∃ fd, FunD K "_law_seen" "_law_seen" (defArgs s_law_seen) (defBody s_law_seen) (defScope s_law_seen) [] [] (He.ga K "_law_seen") fd
  g_law_seen : mg "_law_seen" = some (.ref (He.ga K "_law_seen"))
  d_law_uses : ∃ fd, FunD K "_law_uses" "_law_uses" (defArgs s_law_uses) (defBody s_law_uses) (defScope s_law_uses) [] [] (He.ga K "_law_uses") fd
  g_law_uses : mg "_law_uses" = some (.ref (He.ga K "_law_uses"))
  d_law_used : ∃ fd, FunD K "_law_used" "_law_used" (defArgs s_law_used) (defBody s_law_used) (defScope s_law_used) [] [] (He.ga K "_law_used") fd
  g_law_used : mg "_law_used" = some (.ref (He.ga K "_law_used"))
  d_law_made : ∃ fd, FunD K "_law_made" "_law_made" (defArgs s_law_made) (defBody s_law_made) (defScope s_law_made) [] [] (He.ga K "_law_made") fd
  g_law_made : mg "_law_made" = some (.ref (He.ga K "_law_made"))
  d_law_program : ∃ fd, FunD K "_law_program" "_law_program" (defArgs s_law_program) (defBody s_law_program) (defScope s_law_program) [] [] (He.ga K "_law_program") fd
  g_law_program : mg "_law_program" = some (.ref (He.ga K "_law_program"))
  d_law_row : ∃ fd, FunD K "_law_row" "_law_row" (defArgs s_law_row) (defBody s_law_row) (defScope s_law_row) [] [] (He.ga K "_law_row") fd
  g_law_row : mg "_law_row" = some (.ref (He.ga K "_law_row"))
  d_law_many : ∃ fd, FunD K "_law_many" "_law_many" (defArgs s_law_many) (defBody s_law_many) (defScope s_law_many) [] [] (He.ga K "_law_many") fd
  g_law_many : mg "_law_many" = some (.ref (He.ga K "_law_many"))
  d_law_words : ∃ fd, FunD K "_law_words" "_law_words" (defArgs s_law_words) (defBody s_law_words) (defScope s_law_words) [] [] (He.ga K "_law_words") fd
  g_law_words : mg "_law_words" = some (.ref (He.ga K "_law_words"))
  d_law_drawn : ∃ fd, FunD K "_law_drawn" "_law_drawn" (defArgs s_law_drawn) (defBody s_law_drawn) (defScope s_law_drawn) [] [] (He.ga K "_law_drawn") fd
  g_law_drawn : mg "_law_drawn" = some (.ref (He.ga K "_law_drawn"))
  d_law_long : ∃ fd, FunD K "_law_long" "_law_long" (defArgs s_law_long) (defBody s_law_long) (defScope s_law_long) [] [] (He.ga K "_law_long") fd
  g_law_long : mg "_law_long" = some (.ref (He.ga K "_law_long"))
  d_law_leaves : ∃ fd, FunD K "_law_leaves" "_law_leaves" (defArgs s_law_leaves) (defBody s_law_leaves) (defScope s_law_leaves) [] [] (He.ga K "_law_leaves") fd
  g_law_leaves : mg "_law_leaves" = some (.ref (He.ga K "_law_leaves"))
  d_law_lacks : ∃ fd, FunD K "_law_lacks" "_law_lacks" (defArgs s_law_lacks) (defBody s_law_lacks) (defScope s_law_lacks) [] [] (He.ga K "_law_lacks") fd
  g_law_lacks : mg "_law_lacks" = some (.ref (He.ga K "_law_lacks"))
  d_law : ∃ fd, FunD K "law" "law" (defArgs s_law) (defBody s_law) (defScope s_law) [] [] (He.ga K "law") fd
  g_law : mg "law" = some (.ref (He.ga K "law"))
  c_KindError : mg "KindError" = some (.ref (He.ga K "KindError"))
  c_NoKind : mg "NoKind" = some (.ref (He.ga K "NoKind"))
  c_NoFit : mg "NoFit" = some (.ref (He.ga K "NoFit"))
  c_TooLong : mg "TooLong" = some (.ref (He.ga K "TooLong"))
  c_NoLong : mg "NoLong" = some (.ref (He.ga K "NoLong"))
  c_NoMaking : mg "NoMaking" = some (.ref (He.ga K "NoMaking"))
  c_Book : mg "Book" = some (.ref (He.ga K "Book"))
  c_Longer : mg "Longer" = some (.ref (He.ga K "Longer"))
  c_Maker : mg "Maker" = some (.ref (He.ga K "Maker"))
  n_isinstance : mg "isinstance" = none
  n_tuple : mg "tuple" = none
  n_str : mg "str" = none
  n_len : mg "len" = none
  n_sorted : mg "sorted" = none
  n_set : mg "set" = none
  n_enumerate : mg "enumerate" = none
  n_list : mg "list" = none
  n_sum : mg "sum" = none
  n_max : mg "max" = none
  n_min : mg "min" = none
  n_reversed : mg "reversed" = none
  n_range : mg "range" = none
  n_int : mg "int" = none
  n_zip : mg "zip" = none
  i_LETTERS : ∃ t, mg "LETTERS" = some (.str "abcdefghijklmnopqrstuvwxyz" t)
  i_LONGEST : ∃ t, mg "LONGEST" = some (.int 6 t)
  i_ONE : mg "ONE" = some (.ref (He.ga K "ONE"))
  t_ONE : ∀ H, SqT K H (He.ga K "ONE") [.str "one"]
  i_MOST_LEAVES : ∃ t, mg "MOST_LEAVES" = some (.int 24 t)
  i_MOST_DEPTH : ∃ t, mg "MOST_DEPTH" = some (.int 12 t)
  i_SIGNS : mg "SIGNS" = some (.ref (He.ga K "SIGNS"))
  i_DEEPEST : ∃ t, mg "DEEPEST" = some (.int 12 t)
  i_THING : mg "THING" = some (.ref (He.ga K "THING"))
  t_THING : ∀ H, SqT K H (He.ga K "THING") [.str "thing"]
  i_MOST_STEPS : ∃ t, mg "MOST_STEPS" = some (.int 200 t)
  i_MOST_PARTS_steps : ∃ t, mg "MOST_PARTS_steps" = some (.int 1500 t)
  i_MOST_DEEP_steps : ∃ t, mg "MOST_DEEP_steps" = some (.int 100 t)
  i_MOST_PARTS_longs : ∃ t, mg "MOST_PARTS_longs" = some (.int 1500 t)
  i_MOST_DEEP_longs : ∃ t, mg "MOST_DEEP_longs" = some (.int 100 t)
  D_SIGNS : ∃ es n, KDict K w (He.ga K "SIGNS") es n
  v_SIGNS_to : ∃ u, PySem.W.nsIn K (He.ga K "SIGNS") "->" = some (some u) ∧ RelV (.str "to") u
  v_SIGNS_both : ∃ u, PySem.W.nsIn K (He.ga K "SIGNS") "*" = some (some u) ∧ RelV (.str "both") u
  cl_Book : Cls K (He.ga K "Book")
  mk_Book : Mk K (He.ga K "Book") (He.ma K (He.ga K "Book") "__init__")
  cl_Longer : Cls K (He.ga K "Longer")
  mk_Longer : Mk K (He.ga K "Longer") (He.ma K (He.ga K "Longer") "__init__")
  cl_Maker : Cls K (He.ga K "Maker")
  mk_Maker : Mk K (He.ga K "Maker") (He.ma K (He.ga K "Maker") "__init__")
  m_Book_number : Meth K (He.ga K "Book") "number" (He.ma K (He.ga K "Book") "number")
  m_Book_rows_of : Meth K (He.ga K "Book") "rows_of" (He.ma K (He.ga K "Book") "rows_of")
  m_Book_fill : Meth K (He.ga K "Book") "fill" (He.ma K (He.ga K "Book") "fill")
  m_Longer_spend : Meth K (He.ga K "Longer") "spend" (He.ma K (He.ga K "Longer") "spend")
  m_Longer_made : Meth K (He.ga K "Longer") "made" (He.ma K (He.ga K "Longer") "made")
  m_Longer_along : Meth K (He.ga K "Longer") "along" (He.ma K (He.ga K "Longer") "along")
  m_Maker_tell : Meth K (He.ga K "Maker") "tell" (He.ma K (He.ga K "Maker") "tell")
  m_Maker_tell_mark : Meth K (He.ga K "Maker") "tell_mark" (He.ma K (He.ga K "Maker") "tell_mark")
  m_Maker_make : Meth K (He.ga K "Maker") "make" (He.ma K (He.ga K "Maker") "make")
  m_Maker_make_mark : Meth K (He.ga K "Maker") "make_mark" (He.ma K (He.ga K "Maker") "make_mark")
  m_Maker_go : Meth K (He.ga K "Maker") "go" (He.ma K (He.ga K "Maker") "go")
  a_Book_rooms : NoAttr K (He.ga K "Book") "rooms"
  a_Book_numbers : NoAttr K (He.ga K "Book") "numbers"
  a_Book_rows : NoAttr K (He.ga K "Book") "rows"
  a_Longer_left : NoAttr K (He.ga K "Longer") "left"
  a_Maker_row : NoAttr K (He.ga K "Maker") "row"
  a_Maker_kind : NoAttr K (He.ga K "Maker") "kind"
  a_Maker_starts : NoAttr K (He.ga K "Maker") "starts"
  a_Maker_rooms : NoAttr K (He.ga K "Maker") "rooms"
  a_Maker_lines : NoAttr K (He.ga K "Maker") "lines"
  a_Maker_making : NoAttr K (He.ga K "Maker") "making"
  a_Maker_done : NoAttr K (He.ga K "Maker") "done"
  x_TooLong : PySem.W.excIn K (He.ga K "TooLong") He.veBase "ValueError.__new__" = true ∧ PySem.W.keepIn K (.ref (He.ga K "TooLong")) = true ∧ PySem.W.subIn K (.ref (He.ga K "TooLong")) (.type "BaseException") = some true ∧ PySem.W.typeIn K (.ref (He.ga K "TooLong")) = some (.type "type")
  o_NoMaking : OexC K (He.ga K "NoMaking")
  k_KindError : PySem.W.specialIn K (.ref (He.ga K "KindError")) "__getattribute__" = some (some (.builtin "type.__getattribute__")) ∧ PySem.W.readsIn K (He.ga K "KindError") (.type "type") = true ∧ PySem.W.findCls K (.ref (He.ga K "KindError")) (.type "type") "__init__" = some (.val (.builtin "ValueError.__init__"))
  i_NoMaking : PySem.W.findIn K (.ref (He.ga K "NoMaking")) "__init__" = some (some (.ref (He.ma K (He.ga K "NoMaking") "__init__"))) ∧ PySem.W.typeIn K (.ref (He.ma K (He.ga K "NoMaking") "__init__")) = some (.type "function")
  f_NoMaking : XfC K (He.ga K "NoMaking") ∧ PySem.W.hasDictIn K (He.ga K "NoMaking") = true
  a_NoMaking_at : NoAttr K (He.ga K "NoMaking") "at"
  e_TooLong : PySem.W.exmOne K (.ref (He.ga K "TooLong")) (.ref (He.ga K "TooLong")) = some true
  e_NoMaking : PySem.W.exmOne K (.ref (He.ga K "NoMaking")) (.ref (He.ga K "NoMaking")) = some true
end KF

set_option Elab.async false
set_option linter.all false
set_option maxRecDepth 100000
set_option maxHeartbeats 4000000
/-! Data: kinds and programs as nested tuples; lists; how heaps keep them. -/
namespace KF
open PySem PySem.Spec L2 TL

/-! ### defs by their bodies -/
section
variable {P : Program} {w : World} {K : PySem.W.Frag} {mg : Str → Option Value} {base : Heap}
theorem df0 {x : Str} {st : Stmt} {N ps : List Str} {k : Nat} {sp : Sp} (F : ∃ fd, FunD K x x (defArgs st) (defBody st) (defScope st) [] [] (He.ga K x) fd) (g : mg x = some (.ref (He.ga K x))) (S : FnScope N ps (defScope st))
    (b : ∀ (kV doc pm : Value) (an : Option Addr) (cdv ct : Value) (us : List Value), us.length = ps.length → bindArgs (PySem.W.fnOf x x (defArgs st) (defBody st) (defScope st) .none kV doc pm an cdv ct) ⟨us, []⟩ = pure (ps.zip us))
    (len : ∀ vs H Q E, sp vs H Q E → vs.length = ps.length)
    (hbody : ∀ (cdv : Value) (A : Around) (outer : List Env) (s : Shared) (H : Hp) (vs : List V) (Q : VK) (E : XK), LR k (A.deeper (PyProof.Rows.envOfC x (defScope st) s.heap.objs.size (He.ga K x) cdv)) → sp vs H Q E →
      ∃ t, PSs (cxOf CX0 P w K mg base N x (defScope st) (He.ga K x) cdv A outer s H E).nox (defBody st) t ∧ t { nx := fun _ H' => Q .non H', rt := Q } (start N vs) H) : Df P w K mg base CX0 (k + 1) x ps [] sp := by
  obtain ⟨fd, F⟩ := F
  refine ⟨⟨fd, [], FunD_okL F S len fun cdv A outer s H vs Q E hr hsp => ?_, FunD.bindsN F b, .nil⟩, g, F.kp⟩
  obtain ⟨t, h, q⟩ := hbody cdv A outer s H vs Q E hr hsp
  exact ⟨t, h.nox, q⟩
theorem dfX {x : Str} {st : Stmt} {N ps : List Str} {k : Nat} {sp : Sp} (F : ∃ fd, FunD K x x (defArgs st) (defBody st) (defScope st) [] [] (He.ga K x) fd) (g : mg x = some (.ref (He.ga K x))) (S : FnScope N ps (defScope st))
    (b : ∀ (kV doc pm : Value) (an : Option Addr) (cdv ct : Value) (us : List Value), us.length = ps.length → bindArgs (PySem.W.fnOf x x (defArgs st) (defBody st) (defScope st) .none kV doc pm an cdv ct) ⟨us, []⟩ = pure (ps.zip us))
    (len : ∀ vs H Q E, sp vs H Q E → vs.length = ps.length)
    (hbody : ∀ (cdv : Value) (A : Around) (outer : List Env) (s : Shared) (H : Hp) (vs : List V) (Q : VK) (E : XK), LR k (A.deeper (PyProof.Rows.envOfC x (defScope st) s.heap.objs.size (He.ga K x) cdv)) → sp vs H Q E →
      ∃ t, PSs (cxOf (L2.CX P w) P w K mg base N x (defScope st) (He.ga K x) cdv A outer s H E) (defBody st) t ∧ t { nx := fun _ H' => Q .non H', rt := Q } (start N vs) H) : Df P w K mg base (L2.CX P w) (k + 1) x ps [] sp := by
  obtain ⟨fd, F⟩ := F
  exact ⟨⟨fd, [], FunD_okL F S len hbody, FunD.bindsN F b, .nil⟩, g, F.kp⟩
/-- nothing can be asked: at level 0 -/
theorem df_none {CX : CXT} {x : Str} {st : Stmt} {ps : List Str} {k : Nat} {sp : Sp} (F : ∃ fd, FunD K x x (defArgs st) (defBody st) (defScope st) [] [] (He.ga K x) fd) (g : mg x = some (.ref (He.ga K x)))
    (b : ∀ (kV doc pm : Value) (an : Option Addr) (cdv ct : Value) (us : List Value), us.length = ps.length → bindArgs (PySem.W.fnOf x x (defArgs st) (defBody st) (defScope st) .none kV doc pm an cdv ct) ⟨us, []⟩ = pure (ps.zip us))
    (no : ∀ vs H Q E, ¬ sp vs H Q E) : Df P w K mg base CX k x ps [] sp := by
  obtain ⟨fd, F⟩ := F
  exact ⟨⟨fd, [], ⟨fun vs H Q E h => absurd h (no vs H Q E), fun A outer s H args us vs Q E _ _ _ _ h => absurd h (no vs H Q E)⟩, FunD.bindsN F b, .nil⟩, g, F.kp⟩
theorem Df.mono {CX : CXT} {x : Str} {ps : List Str} {dvs : List V} {j k : Nat} {sp : Sp} (D : Df P w K mg base CX j x ps dvs sp) (h : j ≤ k) : Df P w K mg base CX k x ps dvs sp := by
  obtain ⟨⟨fd, ds, F, b, d⟩, g, kp⟩ := D
  exact ⟨⟨fd, ds, F.mono h, b, d⟩, g, kp⟩
theorem Df.imp {CX : CXT} {x : Str} {ps : List Str} {dvs : List V} {k : Nat} {sp sp' : Sp} (D : Df P w K mg base CX k x ps dvs sp) (h : ∀ vs H Q E, sp' vs H Q E → sp vs H Q E) : Df P w K mg base CX k x ps dvs sp' := by
  obtain ⟨⟨fd, ds, F, b, d⟩, g, kp⟩ := D
  exact ⟨⟨fd, ds, F.imp h, b, d⟩, g, kp⟩
/-- methods -/
theorem dm0 {c m qual : Str} {st : Stmt} {N ps : List Str} {k : Nat} {sp : Sp} (F : ∃ fd, FunD K m qual (defArgs st) (defBody st) (defScope st) [] [] (He.ma K (He.ga K c) m) fd) (cl : Cls K (He.ga K c)) (me : Meth K (He.ga K c) m (He.ma K (He.ga K c) m)) (S : FnScope N ps (defScope st))
    (b : ∀ (kV doc pm : Value) (an : Option Addr) (cdv ct : Value) (us : List Value), us.length = ps.length → bindArgs (PySem.W.fnOf m qual (defArgs st) (defBody st) (defScope st) .none kV doc pm an cdv ct) ⟨us, []⟩ = pure (ps.zip us))
    (len : ∀ vs H Q E, sp vs H Q E → vs.length = ps.length)
    (hbody : ∀ (cdv : Value) (A : Around) (outer : List Env) (s : Shared) (H : Hp) (vs : List V) (Q : VK) (E : XK), LR k (A.deeper (PyProof.Rows.envOfC qual (defScope st) s.heap.objs.size (He.ma K (He.ga K c) m) cdv)) → sp vs H Q E →
      ∃ t, PSs (cxOf CX0 P w K mg base N qual (defScope st) (He.ma K (He.ga K c) m) cdv A outer s H E).nox (defBody st) t ∧ t { nx := fun _ H' => Q .non H', rt := Q } (start N vs) H) : Dm P w K mg base CX0 (k + 1) c m ps sp := by
  obtain ⟨fd, F⟩ := F
  refine ⟨⟨fd, FunD_okL F S len fun cdv A outer s H vs Q E hr hsp => ?_, FunD.bindsN F b⟩, cl, me⟩
  obtain ⟨t, h, q⟩ := hbody cdv A outer s H vs Q E hr hsp
  exact ⟨t, h.nox, q⟩
theorem dmX {c m qual : Str} {st : Stmt} {N ps : List Str} {k : Nat} {sp : Sp} (F : ∃ fd, FunD K m qual (defArgs st) (defBody st) (defScope st) [] [] (He.ma K (He.ga K c) m) fd) (cl : Cls K (He.ga K c)) (me : Meth K (He.ga K c) m (He.ma K (He.ga K c) m)) (S : FnScope N ps (defScope st))
    (b : ∀ (kV doc pm : Value) (an : Option Addr) (cdv ct : Value) (us : List Value), us.length = ps.length → bindArgs (PySem.W.fnOf m qual (defArgs st) (defBody st) (defScope st) .none kV doc pm an cdv ct) ⟨us, []⟩ = pure (ps.zip us))
    (len : ∀ vs H Q E, sp vs H Q E → vs.length = ps.length)
    (hbody : ∀ (cdv : Value) (A : Around) (outer : List Env) (s : Shared) (H : Hp) (vs : List V) (Q : VK) (E : XK), LR k (A.deeper (PyProof.Rows.envOfC qual (defScope st) s.heap.objs.size (He.ma K (He.ga K c) m) cdv)) → sp vs H Q E →
      ∃ t, PSs (cxOf (L2.CX P w) P w K mg base N qual (defScope st) (He.ma K (He.ga K c) m) cdv A outer s H E) (defBody st) t ∧ t { nx := fun _ H' => Q .non H', rt := Q } (start N vs) H) : Dm P w K mg base (L2.CX P w) (k + 1) c m ps sp := by
  obtain ⟨fd, F⟩ := F
  exact ⟨⟨fd, FunD_okL F S len hbody, FunD.bindsN F b⟩, cl, me⟩
theorem dm_none {CX : CXT} {c m qual : Str} {st : Stmt} {ps : List Str} {k : Nat} {sp : Sp} (F : ∃ fd, FunD K m qual (defArgs st) (defBody st) (defScope st) [] [] (He.ma K (He.ga K c) m) fd) (cl : Cls K (He.ga K c)) (me : Meth K (He.ga K c) m (He.ma K (He.ga K c) m))
    (b : ∀ (kV doc pm : Value) (an : Option Addr) (cdv ct : Value) (us : List Value), us.length = ps.length → bindArgs (PySem.W.fnOf m qual (defArgs st) (defBody st) (defScope st) .none kV doc pm an cdv ct) ⟨us, []⟩ = pure (ps.zip us))
    (no : ∀ vs H Q E, ¬ sp vs H Q E) : Dm P w K mg base CX k c m ps sp := by
  obtain ⟨fd, F⟩ := F
  exact ⟨⟨fd, ⟨fun vs H Q E h => absurd h (no vs H Q E), fun A outer s H args us vs Q E _ _ _ _ h => absurd h (no vs H Q E)⟩, FunD.bindsN F b⟩, cl, me⟩
theorem Dm.mono {CX : CXT} {c m : Str} {ps : List Str} {j k : Nat} {sp : Sp} (D : Dm P w K mg base CX j c m ps sp) (h : j ≤ k) : Dm P w K mg base CX k c m ps sp := by
  obtain ⟨⟨fd, F, b⟩, cl, me⟩ := D
  exact ⟨⟨fd, F.mono h, b⟩, cl, me⟩
/-- classes -/
theorem dc0 {c qual : Str} {st : Stmt} {N ps : List Str} {k : Nat} {sp : Sp} (F : ∃ fd, FunD K "__init__" qual (defArgs st) (defBody st) (defScope st) [] [] (He.ma K (He.ga K c) "__init__") fd) (mk : Mk K (He.ga K c) (He.ma K (He.ga K c) "__init__")) (g : mg c = some (.ref (He.ga K c))) (S : FnScope N ps (defScope st))
    (b : ∀ (kV doc pm : Value) (an : Option Addr) (cdv ct : Value) (us : List Value), us.length = ps.length → bindArgs (PySem.W.fnOf "__init__" qual (defArgs st) (defBody st) (defScope st) .none kV doc pm an cdv ct) ⟨us, []⟩ = pure (ps.zip us))
    (len : ∀ vs H Q E, sp vs H Q E → vs.length = ps.length)
    (hbody : ∀ (cdv : Value) (A : Around) (outer : List Env) (s : Shared) (H : Hp) (vs : List V) (Q : VK) (E : XK), LR k (A.deeper (PyProof.Rows.envOfC qual (defScope st) s.heap.objs.size (He.ma K (He.ga K c) "__init__") cdv)) → sp vs H Q E →
      ∃ t, PSs (cxOf CX0 P w K mg base N qual (defScope st) (He.ma K (He.ga K c) "__init__") cdv A outer s H E).nox (defBody st) t ∧ t { nx := fun _ H' => Q .non H', rt := Q } (start N vs) H) : Dc P w K mg base CX0 (k + 1) c ps sp := by
  obtain ⟨fd, F⟩ := F
  refine ⟨⟨fd, FunD_okL F S len fun cdv A outer s H vs Q E hr hsp => ?_, FunD.bindsN F b⟩, mk, g⟩
  obtain ⟨t, h, q⟩ := hbody cdv A outer s H vs Q E hr hsp
  exact ⟨t, h.nox, q⟩
end

/-! ### lists of things -/
def All2 {α : Type} (R : α → V → Prop) : List α → List V → Prop
  | [], [] => True
  | x :: r, v :: vs => R x v ∧ All2 R r vs
  | _, _ => False
section
variable {α β : Type} {R R' : α → V → Prop}
theorem All2.length : ∀ {l : List α} {vs : List V}, All2 R l vs → vs.length = l.length
  | [], [], _ => rfl
  | [], _ :: _, h => h.elim
  | _ :: _, [], h => h.elim
  | _ :: r, _ :: vs, h => congrArg (· + 1) (All2.length h.2)
theorem All2.imp (f : ∀ x v, R x v → R' x v) : ∀ {l : List α} {vs : List V}, All2 R l vs → All2 R' l vs
  | [], [], _ => trivial
  | [], _ :: _, h => h.elim
  | _ :: _, [], h => h.elim
  | _ :: _, _ :: _, h => ⟨f _ _ h.1, All2.imp f h.2⟩
theorem All2.impM : ∀ {l : List α} {vs : List V}, (∀ x ∈ l, ∀ v, R x v → R' x v) → All2 R l vs → All2 R' l vs
  | [], [], _, _ => trivial
  | [], _ :: _, _, h => h.elim
  | _ :: _, [], _, h => h.elim
  | x :: l, _ :: _, f, h => ⟨f x List.mem_cons_self _ h.1, All2.impM (fun y hy => f y (List.mem_cons_of_mem _ hy)) h.2⟩
theorem All2.append : ∀ {l m : List α} {vs ws : List V}, All2 R l vs → All2 R m ws → All2 R (l ++ m) (vs ++ ws)
  | [], _, [], _, _, h => h
  | [], _, _ :: _, _, h, _ => h.elim
  | _ :: _, _, [], _, h, _ => h.elim
  | _ :: _, _, _ :: _, _, h, h' => ⟨h.1, All2.append h.2 h'⟩
theorem All2.snoc {l : List α} {vs : List V} {x : α} {v : V} (h : All2 R l vs) (r : R x v) : All2 R (l ++ [x]) (vs ++ [v]) := h.append ⟨r, trivial⟩
theorem All2.get : ∀ {l : List α} {vs : List V} {i : Nat} {x : α}, All2 R l vs → l[i]? = some x → ∃ v, vs[i]? = some v ∧ R x v
  | [], _, _, _, _, e => by simp at e
  | _ :: _, [], _, _, h, _ => h.elim
  | x :: _, v :: _, 0, y, h, e => by
    simp at e
    subst e
    exact ⟨v, by simp, h.1⟩
  | _ :: _, _ :: _, i + 1, y, h, e => by
    obtain ⟨v, hv, r⟩ := All2.get (i := i) h.2 (by simpa using e)
    exact ⟨v, by simpa using hv, r⟩
theorem All2.getV : ∀ {l : List α} {vs : List V} {i : Nat} {v : V}, All2 R l vs → vs[i]? = some v → ∃ x, l[i]? = some x ∧ R x v
  | [], [], _, _, _, e => by simp at e
  | [], _ :: _, _, _, h, _ => h.elim
  | _ :: _, [], _, _, h, _ => h.elim
  | x :: _, v :: _, 0, y, h, e => by
    simp at e
    subst e
    exact ⟨x, by simp, h.1⟩
  | _ :: _, _ :: _, i + 1, y, h, e => by
    obtain ⟨v, hv, r⟩ := All2.getV (i := i) h.2 (by simpa using e)
    exact ⟨v, by simpa using hv, r⟩
theorem All2.map {f : β → α} : ∀ {l : List β} {vs : List V}, All2 (fun b v => R (f b) v) l vs → All2 R (l.map f) vs
  | [], [], _ => trivial
  | [], _ :: _, h => h.elim
  | _ :: _, [], h => h.elim
  | _ :: _, _ :: _, h => ⟨h.1, All2.map h.2⟩
theorem All2.of_map {f : β → α} : ∀ {l : List β} {vs : List V}, All2 R (l.map f) vs → All2 (fun b v => R (f b) v) l vs
  | [], [], _ => trivial
  | [], _ :: _, h => h.elim
  | _ :: _, [], h => h.elim
  | _ :: _, _ :: _, h => ⟨h.1, All2.of_map h.2⟩
theorem All2.drop : ∀ {l : List α} {vs : List V} (n : Nat), All2 R l vs → All2 R (l.drop n) (vs.drop n)
  | _, _, 0, h => h
  | [], [], _ + 1, _ => trivial
  | [], _ :: _, _ + 1, h => h.elim
  | _ :: _, [], _ + 1, h => h.elim
  | _ :: _, _ :: _, n + 1, h => All2.drop n h.2
theorem All2.take : ∀ {l : List α} {vs : List V} (n : Nat), All2 R l vs → All2 R (l.take n) (vs.take n)
  | _, _, 0, _ => trivial
  | [], [], _ + 1, _ => trivial
  | [], _ :: _, _ + 1, h => h.elim
  | _ :: _, [], _ + 1, h => h.elim
  | _ :: _, _ :: _, n + 1, h => ⟨h.1, All2.take n h.2⟩
theorem All2.eqmap {f : α → V} : ∀ {l : List α} {vs : List V}, All2 (fun x v => v = f x) l vs → vs = l.map f
  | [], [], _ => rfl
  | [], _ :: _, h => h.elim
  | _ :: _, [], h => h.elim
  | _ :: _, _ :: _, h => by rw [h.1, All2.eqmap h.2]; rfl
theorem All2.ofmap {f : α → V} : ∀ (l : List α), All2 (fun x v => v = f x) l (l.map f)
  | [] => trivial
  | _ :: l => ⟨rfl, All2.ofmap l⟩
end

/-! ### what stays -/
section
variable {K : PySem.W.Frag} {H H' H1 H2 : Hp} {a b p : Addr} {o u : HO}
theorem same_new (h : H p = none) (o : HO) : Same H (upd H p o) := fun b u q => by rw [upd_ne (ne_of_none q h)]; exact q
/-- all stays but what stands at a -/
def But (a : Addr) (H H' : Hp) : Prop := ∀ b o, b ≠ a → H b = some o → H' b = some o
theorem But.upd (a : Addr) (H : Hp) (o : HO) : But a H (upd H a o) := fun b u n q => by rw [upd_ne n]; exact q
theorem But.of (h : Same H H') : But a H H' := fun b o _ q => h b o q
theorem But.trans (h : But a H H1) (h' : But a H1 H2) : But a H H2 := fun b o n q => h' b o n (h b o n q)
theorem But.same (h : But a H H1) (h' : Same H1 H2) : But a H H2 := fun b o n q => h' b o (h b o n q)
theorem But.free (h : But a H H') (n : H' b = none) (ha : ∃ o, H' a = some o) : H b = none := by
  cases q : H b with
  | none => rfl
  | some o =>
    by_cases e : b = a
    · subst e
      obtain ⟨o', z⟩ := ha
      rw [n] at z
      cases z
    · rw [h b o e q] at n
      cases n
/-- tuples stay -/
def TS (K : PySem.W.Frag) (H H' : Hp) : Prop := ∀ a xs, SqT K H a xs → SqT K H' a xs
theorem TS.refl (H : Hp) : TS K H H := fun _ _ h => h
theorem TS.trans (h : TS K H H1) (h' : TS K H1 H2) : TS K H H2 := fun a xs q => h' a xs (h a xs q)
theorem same_ts (h : Same H H') : TS K H H' := fun a xs q => by
  rcases q with (q | ⟨o, q⟩) | q
  · exact .inl (.inl (h _ _ q))
  · exact .inl (.inr ⟨o, h _ _ q⟩)
  · exact .inr q
/-- what may be changed while tuples stay -/
def Soft : HO → Bool
  | .tup _ => false
  | .frz _ _ => false
  | _ => true
theorem But.ts (h : But a H H') (ha : H a = some o) (s : Soft o = true) : TS K H H' := fun b xs q => by
  rcases q with (q | ⟨o, q⟩) | q
  · exact .inl (.inl (h _ _ (by rintro rfl; rw [ha] at q; cases q; cases s) q))
  · exact .inl (.inr ⟨_, h _ _ (by rintro rfl; rw [ha] at q; cases q; cases s) q⟩)
  · exact .inr q
end

/-! ### kinds and programs -/
/-- the names that stand in this law's programs -/
inductive Nm where
  | p | q | f | g | u | v | x (n : Nat) | e (n : Nat)
  deriving DecidableEq
def numS (n : Nat) : Str := Str.ofString (toString ((n : Nat) : Int))
def Nm.str : Nm → Str
  | .p => "p"
  | .q => "q"
  | .f => "f"
  | .g => "g"
  | .u => "u"
  | .v => "v"
  | .x n => ("x" : Str) ++ numS n
  | .e n => ("e" : Str) ++ numS n
theorem tl_lit (s : String) : tl (Str.ofString s) = s.toList.map Char.toNat := tl_ofString s
theorem tl_x (n : Nat) : tl (Nm.x n).str = 120 :: numL n := by
  show tl (Str.ofString "x" ++ numS n) = _
  rw [tl_append, tl_lit]
  show _ ++ tl (Str.ofString (toString ((n : Nat) : Int))) = _
  rw [tl_num]
  rfl
theorem tl_e (n : Nat) : tl (Nm.e n).str = 101 :: numL n := by
  show tl (Str.ofString "e" ++ numS n) = _
  rw [tl_append, tl_lit]
  show _ ++ tl (Str.ofString (toString ((n : Nat) : Int))) = _
  rw [tl_num]
  rfl
theorem Nm.tl_str (a : Nm) : tl a.str = match a with
    | .p => [112] | .q => [113] | .f => [102] | .g => [103] | .u => [117] | .v => [118] | .x n => 120 :: numL n | .e n => 101 :: numL n := by
  cases a with
  | x n => exact tl_x n
  | e n => exact tl_e n
  | _ => exact tl_lit _
theorem Nm.inj {a b : Nm} (h : a.str = b.str) : a = b := by
  have t := congrArg tl h
  rw [Nm.tl_str, Nm.tl_str] at t
  cases a <;> cases b <;> first
    | rfl
    | (simp at t; done)
    | (simp at t; exact absurd t (numL_ne _))
    | (simp at t; exact absurd t.symm (numL_ne _))
    | (simp only [List.cons.injEq, true_and] at t; rw [numL_inj t])
theorem Nm.eq_iff {a b : Nm} : decide (a.str = b.str) = decide (a = b) := by
  by_cases h : a = b
  · rw [h, decide_eq_true rfl, decide_eq_true rfl]
  · rw [decide_eq_false h, decide_eq_false fun q => h (Nm.inj q)]
theorem digit_small (n : Nat) : ∀ c ∈ numL n, c < 128 := fun c hc => by
  by_cases h : c < 48 ∨ 57 < c
  · exact absurd hc (numL_free h)
  · omega
/-- signs below 128 -/
def Low (x : Str) : Prop := ∀ c ∈ tl x, c < 128
theorem Nm.low (a : Nm) : Low a.str := fun c hc => by
  rw [Nm.tl_str] at hc
  cases a <;> simp at hc
  case x n => rcases hc with rfl | hc; decide; exact digit_small n c hc
  case e n => rcases hc with rfl | hc; decide; exact digit_small n c hc
  all_goals (subst hc; decide)
theorem Low.ok {x : Str} (h : Low x) : PyData.strOk x = true := by
  unfold PyData.strOk
  rw [← Array.all_toList, List.all_eq_true]
  intro c hc
  have := h c hc
  exact decide_eq_true (by omega)
/-- the two marks of this law -/
def mstr : Bool → Str
  | false => "a"
  | true => "b"
theorem mstr_inj {a b : Bool} (h : mstr a = mstr b) : a = b := by
  cases a <;> cases b <;> first | rfl | exact absurd h (by decide +kernel)
theorem mstr_ok (a : Bool) : PyData.strOk (mstr a) = true := by cases a <;> decide +kernel
inductive Kd where
  | one | mark (m : Bool) | to (a b : Kd) | both (a b : Kd)
  deriving DecidableEq
inductive Pg where
  | name (x : Nm) | take (x : Nm) (k : Kd) (p : Pg) | give (p q : Pg) | pair (p q : Pg) | first (p : Pg) | second (p : Pg) | thing
  deriving DecidableEq
def Kd.leaves : Kd → Nat
  | .one => 1
  | .mark _ => 1
  | .to a b => a.leaves + b.leaves
  | .both a b => a.leaves + b.leaves
def Kd.depth : Kd → Nat
  | .one => 0
  | .mark _ => 0
  | .to a b => 1 + max a.depth b.depth
  | .both a b => 1 + max a.depth b.depth
def Pg.deep : Pg → Nat
  | .name _ => 0
  | .take _ _ p => p.deep + 1
  | .give p q => max p.deep q.deep + 1
  | .pair p q => max p.deep q.deep + 1
  | .first p => p.deep + 1
  | .second p => p.deep + 1
  | .thing => 0
theorem Kd.depth_lt (k : Kd) : k.depth < k.leaves := by
  induction k with
  | one => decide
  | mark m => exact Nat.zero_lt_one
  | to a b h h' => show 1 + max a.depth b.depth < a.leaves + b.leaves; omega
  | both a b h h' => show 1 + max a.depth b.depth < a.leaves + b.leaves; omega
def Kd.tag : Kd → Str
  | .one => "one"
  | .mark _ => "mark"
  | .to _ _ => "to"
  | .both _ _ => "both"
def Pg.tag : Pg → Str
  | .name _ => "name"
  | .take _ _ _ => "take"
  | .give _ _ => "give"
  | .pair _ _ => "pair"
  | .first _ => "first"
  | .second _ => "second"
  | .thing => "thing"
section
variable (K : PySem.W.Frag) (H : Hp)
def KdAt : Kd → V → Prop
  | .one, v => ∃ a, v = .ref a ∧ SqT K H a [.str "one"]
  | .mark m, v => ∃ a, v = .ref a ∧ SqT K H a [.str "mark", .str (mstr m)]
  | .to k l, v => ∃ a x y, v = .ref a ∧ SqT K H a [.str "to", x, y] ∧ KdAt k x ∧ KdAt l y
  | .both k l, v => ∃ a x y, v = .ref a ∧ SqT K H a [.str "both", x, y] ∧ KdAt k x ∧ KdAt l y
def PgAt : Pg → V → Prop
  | .name x, v => ∃ a, v = .ref a ∧ SqT K H a [.str "name", .str x.str]
  | .take x k p, v => ∃ a y z, v = .ref a ∧ SqT K H a [.str "take", .str x.str, y, z] ∧ KdAt K H k y ∧ PgAt p z
  | .give p q, v => ∃ a y z, v = .ref a ∧ SqT K H a [.str "give", y, z] ∧ PgAt p y ∧ PgAt q z
  | .pair p q, v => ∃ a y z, v = .ref a ∧ SqT K H a [.str "pair", y, z] ∧ PgAt p y ∧ PgAt q z
  | .first p, v => ∃ a y, v = .ref a ∧ SqT K H a [.str "first", y] ∧ PgAt p y
  | .second p, v => ∃ a y, v = .ref a ∧ SqT K H a [.str "second", y] ∧ PgAt p y
  | .thing, v => ∃ a, v = .ref a ∧ SqT K H a [.str "thing"]
end
theorem KdAt.ts {K : PySem.W.Frag} {H H' : Hp} (h : TS K H H') : ∀ {k : Kd} {v : V}, KdAt K H k v → KdAt K H' k v
  | .one, _, ⟨a, e, q⟩ => ⟨a, e, h _ _ q⟩
  | .mark _, _, ⟨a, e, q⟩ => ⟨a, e, h _ _ q⟩
  | .to _ _, _, ⟨a, x, y, e, q, r, t⟩ => ⟨a, x, y, e, h _ _ q, KdAt.ts h r, KdAt.ts h t⟩
  | .both _ _, _, ⟨a, x, y, e, q, r, t⟩ => ⟨a, x, y, e, h _ _ q, KdAt.ts h r, KdAt.ts h t⟩
theorem PgAt.ts {K : PySem.W.Frag} {H H' : Hp} (h : TS K H H') : ∀ {p : Pg} {v : V}, PgAt K H p v → PgAt K H' p v
  | .name _, _, ⟨a, e, q⟩ => ⟨a, e, h _ _ q⟩
  | .take _ _ _, _, ⟨a, x, y, e, q, r, t⟩ => ⟨a, x, y, e, h _ _ q, KdAt.ts h r, PgAt.ts h t⟩
  | .give _ _, _, ⟨a, x, y, e, q, r, t⟩ => ⟨a, x, y, e, h _ _ q, PgAt.ts h r, PgAt.ts h t⟩
  | .pair _ _, _, ⟨a, x, y, e, q, r, t⟩ => ⟨a, x, y, e, h _ _ q, PgAt.ts h r, PgAt.ts h t⟩
  | .first _, _, ⟨a, x, e, q, r⟩ => ⟨a, x, e, h _ _ q, PgAt.ts h r⟩
  | .second _, _, ⟨a, x, e, q, r⟩ => ⟨a, x, e, h _ _ q, PgAt.ts h r⟩
  | .thing, _, ⟨a, e, q⟩ => ⟨a, e, h _ _ q⟩
/-- a list that stands by itself -/
def LsAt {α : Type} (R : Hp → α → V → Prop) (H : Hp) (l : List α) (v : V) : Prop := ∃ a vs, v = .ref a ∧ H a = some (.lst vs) ∧ All2 (R H) l vs
/-- a name and its kind -/
def NmAt (K : PySem.W.Frag) (H : Hp) (q : Nm × Kd) (v : V) : Prop := ∃ a y, v = .ref a ∧ SqT K H a [.str q.1.str, y] ∧ KdAt K H q.2 y
theorem NmAt.ts {K : PySem.W.Frag} {H H' : Hp} (h : TS K H H') {q : Nm × Kd} {v : V} : NmAt K H q v → NmAt K H' q v := fun ⟨a, y, e, t, k⟩ => ⟨a, y, e, h _ _ t, k.ts h⟩
theorem KdAt.same {K : PySem.W.Frag} {H H' : Hp} (h : Same H H') {k : Kd} {v : V} (q : KdAt K H k v) : KdAt K H' k v := q.ts (same_ts h)
theorem PgAt.same {K : PySem.W.Frag} {H H' : Hp} (h : Same H H') {p : Pg} {v : V} (q : PgAt K H p v) : PgAt K H' p v := q.ts (same_ts h)
theorem NmAt.same {K : PySem.W.Frag} {H H' : Hp} (h : Same H H') {p : Nm × Kd} {v : V} (q : NmAt K H p v) : NmAt K H' p v := q.ts (same_ts h)
theorem LsAt.same {α : Type} {R : Hp → α → V → Prop} {H H' : Hp} (h : Same H H') (f : ∀ x v, R H x v → R H' x v) {l : List α} {v : V} : LsAt R H l v → LsAt R H' l v := fun ⟨a, vs, e, q, r⟩ => ⟨a, vs, e, h _ _ q, r.imp f⟩
theorem KdAt.tagged {K : PySem.W.Frag} {H : Hp} : ∀ {k : Kd} {v : V}, KdAt K H k v → ∃ a xs, v = .ref a ∧ SqT K H a (.str k.tag :: xs)
  | .one, _, ⟨a, e, q⟩ => ⟨a, _, e, q⟩
  | .mark _, _, ⟨a, e, q⟩ => ⟨a, _, e, q⟩
  | .to _ _, _, ⟨a, _, _, e, q, _⟩ => ⟨a, _, e, q⟩
  | .both _ _, _, ⟨a, _, _, e, q, _⟩ => ⟨a, _, e, q⟩
theorem PgAt.tagged {K : PySem.W.Frag} {H : Hp} : ∀ {p : Pg} {v : V}, PgAt K H p v → ∃ a xs, v = .ref a ∧ SqT K H a (.str p.tag :: xs)
  | .name _, _, ⟨a, e, q⟩ => ⟨a, _, e, q⟩
  | .take _ _ _, _, ⟨a, _, _, e, q, _⟩ => ⟨a, _, e, q⟩
  | .give _ _, _, ⟨a, _, _, e, q, _⟩ => ⟨a, _, e, q⟩
  | .pair _ _, _, ⟨a, _, _, e, q, _⟩ => ⟨a, _, e, q⟩
  | .first _, _, ⟨a, _, e, q, _⟩ => ⟨a, _, e, q⟩
  | .second _, _, ⟨a, _, e, q, _⟩ => ⟨a, _, e, q⟩
  | .thing, _, ⟨a, e, q⟩ => ⟨a, _, e, q⟩

/-! ### as data, for == -/
def Kd.dat : Kd → PyData
  | .one => .tuple [.str "one"]
  | .mark m => .tuple [.str "mark", .str (mstr m)]
  | .to k l => .tuple [.str "to", k.dat, l.dat]
  | .both k l => .tuple [.str "both", k.dat, l.dat]
def Pg.dat : Pg → PyData
  | .name x => .tuple [.str "name", .str x.str]
  | .take x k p => .tuple [.str "take", .str x.str, k.dat, p.dat]
  | .give p q => .tuple [.str "give", p.dat, q.dat]
  | .pair p q => .tuple [.str "pair", p.dat, q.dat]
  | .first p => .tuple [.str "first", p.dat]
  | .second p => .tuple [.str "second", p.dat]
  | .thing => .tuple [.str "thing"]
theorem KdAt.dp {K : PySem.W.Frag} {H : Hp} : ∀ {k : Kd} {v : V}, KdAt K H k v → Dp K H v k.dat
  | .one, _, ⟨a, e, q⟩ => e ▸ .tup q (.cons (.str _) .nil)
  | .mark _, _, ⟨a, e, q⟩ => e ▸ .tup q (.cons (.str _) (.cons (.str _) .nil))
  | .to _ _, _, ⟨a, x, y, e, q, r, t⟩ => e ▸ .tup q (.cons (.str _) (.cons r.dp (.cons t.dp .nil)))
  | .both _ _, _, ⟨a, x, y, e, q, r, t⟩ => e ▸ .tup q (.cons (.str _) (.cons r.dp (.cons t.dp .nil)))
theorem PgAt.dp {K : PySem.W.Frag} {H : Hp} : ∀ {p : Pg} {v : V}, PgAt K H p v → Dp K H v p.dat
  | .name _, _, ⟨a, e, q⟩ => e ▸ .tup q (.cons (.str _) (.cons (.str _) .nil))
  | .take _ _ _, _, ⟨a, x, y, e, q, r, t⟩ => e ▸ .tup q (.cons (.str _) (.cons (.str _) (.cons r.dp (.cons t.dp .nil))))
  | .give _ _, _, ⟨a, x, y, e, q, r, t⟩ => e ▸ .tup q (.cons (.str _) (.cons r.dp (.cons t.dp .nil)))
  | .pair _ _, _, ⟨a, x, y, e, q, r, t⟩ => e ▸ .tup q (.cons (.str _) (.cons r.dp (.cons t.dp .nil)))
  | .first _, _, ⟨a, x, e, q, r⟩ => e ▸ .tup q (.cons (.str _) (.cons r.dp .nil))
  | .second _, _, ⟨a, x, e, q, r⟩ => e ▸ .tup q (.cons (.str _) (.cons r.dp .nil))
  | .thing, _, ⟨a, e, q⟩ => e ▸ .tup q (.cons (.str _) .nil)
theorem lit_ok (s : String) (h : (s.toList.all fun c => decide (c.toNat < 1114112)) = true) : PyData.strOk (Str.ofString s) = true := by
  unfold PyData.strOk
  rw [← Array.all_toList]
  show (tl (Str.ofString s)).all _ = true
  rw [tl_lit, List.all_map]
  exact h
theorem Kd.lays (k : Kd) : k.dat.canLay0 = true := by
  induction k with
  | one => simp only [Kd.dat, PyData.canLay0, PyData.canLayAll0]; decide +kernel
  | mark m => simp only [Kd.dat, PyData.canLay0, PyData.canLayAll0, mstr_ok]; decide +kernel
  | to a b h h' => simp only [Kd.dat, PyData.canLay0, PyData.canLayAll0, h, h']; decide +kernel
  | both a b h h' => simp only [Kd.dat, PyData.canLay0, PyData.canLayAll0, h, h']; decide +kernel
theorem Pg.lays (p : Pg) : p.dat.canLay0 = true := by
  induction p with
  | name x => simp only [Pg.dat, PyData.canLay0, PyData.canLayAll0, x.low.ok]; decide +kernel
  | take x k p h => simp only [Pg.dat, PyData.canLay0, PyData.canLayAll0, x.low.ok, k.lays, h]; decide +kernel
  | give a b h h' => simp only [Pg.dat, PyData.canLay0, PyData.canLayAll0, h, h']; decide +kernel
  | pair a b h h' => simp only [Pg.dat, PyData.canLay0, PyData.canLayAll0, h, h']; decide +kernel
  | first a h => simp only [Pg.dat, PyData.canLay0, PyData.canLayAll0, h]; decide +kernel
  | second a h => simp only [Pg.dat, PyData.canLay0, PyData.canLayAll0, h]; decide +kernel
  | thing => simp only [Pg.dat, PyData.canLay0, PyData.canLayAll0]; decide +kernel
theorem str_beq (a b : Str) : (a == b) = decide (a = b) := by
  by_cases h : a = b
  · rw [decide_eq_true h, h]; exact beq_self_eq_true b
  · rw [decide_eq_false h]; exact beq_eq_false_iff_ne.mpr h
theorem mstr_eq (a b : Bool) : decide (mstr a = mstr b) = decide (a = b) := by
  by_cases h : a = b
  · rw [h, decide_eq_true rfl, decide_eq_true rfl]
  · rw [decide_eq_false h, decide_eq_false fun q => h (mstr_inj q)]
theorem dec_and {p q r : Prop} [Decidable p] [Decidable q] [Decidable r] (h : r ↔ p ∧ q) : (decide p && decide q) = decide r := by
  by_cases hp : p <;> by_cases hq : q <;> simp [hp, hq, h]
theorem ev_tt (xs ys : List PyData) : PyData.eqv (.tuple xs) (.tuple ys) = PyData.eqvAll xs ys := by rw [PyData.eqv]
theorem ev_ss (x y : Str) : PyData.eqv (.str x) (.str y) = decide (x = y) := by rw [PyData.eqv]; exact str_beq x y
theorem ev_cc (x y : PyData) (xs ys : List PyData) : PyData.eqvAll (x :: xs) (y :: ys) = (PyData.eqv x y && PyData.eqvAll xs ys) := by rw [PyData.eqvAll]
theorem ev_nn : PyData.eqvAll [] [] = true := by rw [PyData.eqvAll]
/-- two tagged tuples whose tags differ -/
theorem ev_tag {s t : Str} {xs ys : List PyData} (h : decide (s = t) = false) : PyData.eqv (.tuple (.str s :: xs)) (.tuple (.str t :: ys)) = false := by
  rw [ev_tt, ev_cc, ev_ss, h]; rfl
theorem ev_same {s : Str} {xs ys : List PyData} : PyData.eqv (.tuple (.str s :: xs)) (.tuple (.str s :: ys)) = PyData.eqvAll xs ys := by
  rw [ev_tt, ev_cc, ev_ss, decide_eq_true rfl]; rfl
def Kd.rest : Kd → List PyData
  | .one => []
  | .mark m => [.str (mstr m)]
  | .to k l => [k.dat, l.dat]
  | .both k l => [k.dat, l.dat]
theorem Kd.dat_eq (k : Kd) : k.dat = .tuple (.str k.tag :: k.rest) := by cases k <;> rfl
def Kd.num : Kd → Nat
  | .one => 0
  | .mark _ => 1
  | .to _ _ => 2
  | .both _ _ => 3
def ktags : List Str := ["one", "mark", "to", "both"]
theorem Kd.tag_num (k : Kd) : ktags[k.num]? = some k.tag := by cases k <;> rfl
theorem ktags_nd : ktags.Nodup := by decide +kernel
theorem Kd.tag_inj {k l : Kd} (h : k.tag = l.tag) : k.num = l.num := by
  have a := k.tag_num
  rw [h] at a
  exact nd_ix ktags_nd a l.tag_num
theorem Kd.tag_ne {k l : Kd} (h : k.num ≠ l.num) : decide (k.tag = l.tag) = false := decide_eq_false fun e => h (Kd.tag_inj e)
theorem Kd.eqv (k : Kd) : ∀ l : Kd, PyData.eqv k.dat l.dat = decide (k = l) := by
  induction k with
  | one =>
    intro l
    by_cases h : (Kd.one).num = l.num
    · cases l <;> simp [Kd.num] at h
      rw [Kd.dat, ev_same, ev_nn, decide_eq_true rfl]
    · rw [Kd.dat_eq, Kd.dat_eq l, ev_tag (Kd.tag_ne h), decide_eq_false fun e => h (by rw [e])]
  | mark m =>
    intro l
    by_cases h : (Kd.mark m).num = l.num
    · cases l <;> simp [Kd.num] at h
      rename_i n
      rw [Kd.dat, Kd.dat, ev_same, ev_cc, ev_nn, ev_ss, mstr_eq]
      simp
    · rw [Kd.dat_eq, Kd.dat_eq l, ev_tag (Kd.tag_ne h), decide_eq_false fun e => h (by rw [e])]
  | to a b ha hb =>
    intro l
    by_cases h : (Kd.to a b).num = l.num
    · cases l <;> simp [Kd.num] at h
      rename_i c d
      rw [Kd.dat, Kd.dat, ev_same, ev_cc, ev_cc, ev_nn, ha, hb]
      simp
    · rw [Kd.dat_eq, Kd.dat_eq l, ev_tag (Kd.tag_ne h), decide_eq_false fun e => h (by rw [e])]
  | both a b ha hb =>
    intro l
    by_cases h : (Kd.both a b).num = l.num
    · cases l <;> simp [Kd.num] at h
      rename_i c d
      rw [Kd.dat, Kd.dat, ev_same, ev_cc, ev_cc, ev_nn, ha, hb]
      simp
    · rw [Kd.dat_eq, Kd.dat_eq l, ev_tag (Kd.tag_ne h), decide_eq_false fun e => h (by rw [e])]
def Pg.rest : Pg → List PyData
  | .name x => [.str x.str]
  | .take x k p => [.str x.str, k.dat, p.dat]
  | .give p q => [p.dat, q.dat]
  | .pair p q => [p.dat, q.dat]
  | .first p => [p.dat]
  | .second p => [p.dat]
  | .thing => []
theorem Pg.dat_eq (k : Pg) : k.dat = .tuple (.str k.tag :: k.rest) := by cases k <;> rfl
def Pg.num : Pg → Nat
  | .name _ => 0
  | .take _ _ _ => 1
  | .give _ _ => 2
  | .pair _ _ => 3
  | .first _ => 4
  | .second _ => 5
  | .thing => 6
def ptags : List Str := ["name", "take", "give", "pair", "first", "second", "thing"]
theorem Pg.tag_num (k : Pg) : ptags[k.num]? = some k.tag := by cases k <;> rfl
theorem ptags_nd : ptags.Nodup := by decide +kernel
theorem Pg.tag_inj {k l : Pg} (h : k.tag = l.tag) : k.num = l.num := by
  have a := k.tag_num
  rw [h] at a
  exact nd_ix ptags_nd a l.tag_num
theorem Pg.tag_ne {k l : Pg} (h : k.num ≠ l.num) : decide (k.tag = l.tag) = false := decide_eq_false fun e => h (Pg.tag_inj e)
theorem Pg.eqv (p : Pg) : ∀ l : Pg, PyData.eqv p.dat l.dat = decide (p = l) := by
  induction p with
  | name x =>
    intro l
    by_cases h : (Pg.name x).num = l.num
    · cases l <;> simp [Pg.num] at h
      rw [Pg.dat, Pg.dat, ev_same, ev_cc, ev_nn, ev_ss, Nm.eq_iff]
      simp
    · rw [Pg.dat_eq, Pg.dat_eq l, ev_tag (Pg.tag_ne h), decide_eq_false fun e => h (by rw [e])]
  | take x k p hp =>
    intro l
    by_cases h : (Pg.take x k p).num = l.num
    · cases l <;> simp [Pg.num] at h
      rw [Pg.dat, Pg.dat, ev_same, ev_cc, ev_cc, ev_cc, ev_nn, ev_ss, Nm.eq_iff, Kd.eqv, hp]
      simp
    · rw [Pg.dat_eq, Pg.dat_eq l, ev_tag (Pg.tag_ne h), decide_eq_false fun e => h (by rw [e])]
  | give a b ha hb =>
    intro l
    by_cases h : (Pg.give a b).num = l.num
    · cases l <;> simp [Pg.num] at h
      rw [Pg.dat, Pg.dat, ev_same, ev_cc, ev_cc, ev_nn, ha, hb]
      simp
    · rw [Pg.dat_eq, Pg.dat_eq l, ev_tag (Pg.tag_ne h), decide_eq_false fun e => h (by rw [e])]
  | pair a b ha hb =>
    intro l
    by_cases h : (Pg.pair a b).num = l.num
    · cases l <;> simp [Pg.num] at h
      rw [Pg.dat, Pg.dat, ev_same, ev_cc, ev_cc, ev_nn, ha, hb]
      simp
    · rw [Pg.dat_eq, Pg.dat_eq l, ev_tag (Pg.tag_ne h), decide_eq_false fun e => h (by rw [e])]
  | first a ha =>
    intro l
    by_cases h : (Pg.first a).num = l.num
    · cases l <;> simp [Pg.num] at h
      rw [Pg.dat, Pg.dat, ev_same, ev_cc, ev_nn, ha]
      simp
    · rw [Pg.dat_eq, Pg.dat_eq l, ev_tag (Pg.tag_ne h), decide_eq_false fun e => h (by rw [e])]
  | second a ha =>
    intro l
    by_cases h : (Pg.second a).num = l.num
    · cases l <;> simp [Pg.num] at h
      rw [Pg.dat, Pg.dat, ev_same, ev_cc, ev_nn, ha]
      simp
    · rw [Pg.dat_eq, Pg.dat_eq l, ev_tag (Pg.tag_ne h), decide_eq_false fun e => h (by rw [e])]
  | thing =>
    intro l
    by_cases h : (Pg.thing).num = l.num
    · cases l <;> simp [Pg.num] at h
      rw [Pg.dat, ev_same, ev_nn, decide_eq_true rfl]
    · rw [Pg.dat_eq, Pg.dat_eq l, ev_tag (Pg.tag_ne h), decide_eq_false fun e => h (by rw [e])]
theorem dp_one (x : Str) : (PyData.str x).depth = 0 := by rw [PyData.depth]
theorem dp_tup (xs : List PyData) : (PyData.tuple xs).depth = PyData.depthAll xs + 1 := by rw [PyData.depth]
theorem dp_cons (x : PyData) (xs : List PyData) : PyData.depthAll (x :: xs) = max x.depth (PyData.depthAll xs) := by rw [PyData.depthAll]
theorem dp_nil : PyData.depthAll [] = 0 := by rw [PyData.depthAll]
theorem Kd.dat_depth (k : Kd) : k.dat.depth = k.depth + 1 := by
  induction k with
  | one => rw [Kd.dat, dp_tup, dp_cons, dp_nil, dp_one]; rfl
  | mark m => rw [Kd.dat, dp_tup, dp_cons, dp_cons, dp_nil, dp_one, dp_one]; rfl
  | to a b h h' => rw [Kd.dat, dp_tup, dp_cons, dp_cons, dp_cons, dp_nil, dp_one, h, h']; show max 0 _ + 1 = 1 + _ + 1; omega
  | both a b h h' => rw [Kd.dat, dp_tup, dp_cons, dp_cons, dp_cons, dp_nil, dp_one, h, h']; show max 0 _ + 1 = 1 + _ + 1; omega
/-- the deepest kind written in a program -/
def Pg.kdeep : Pg → Nat
  | .name _ => 0
  | .take _ k p => max (k.depth + 1) p.kdeep
  | .give p q => max p.kdeep q.kdeep
  | .pair p q => max p.kdeep q.kdeep
  | .first p => p.kdeep
  | .second p => p.kdeep
  | .thing => 0
theorem Pg.dat_depth (p : Pg) : p.dat.depth ≤ p.deep + p.kdeep + 1 := by
  induction p with
  | name x => rw [Pg.dat, dp_tup, dp_cons, dp_cons, dp_nil, dp_one, dp_one]; show _ ≤ 0 + 0 + 1; omega
  | take x k p h => rw [Pg.dat, dp_tup, dp_cons, dp_cons, dp_cons, dp_cons, dp_nil, dp_one, dp_one, Kd.dat_depth]; show _ ≤ p.deep + 1 + max (k.depth + 1) p.kdeep + 1; omega
  | give a b h h' => rw [Pg.dat, dp_tup, dp_cons, dp_cons, dp_cons, dp_nil, dp_one]; show _ ≤ max a.deep b.deep + 1 + max a.kdeep b.kdeep + 1; omega
  | pair a b h h' => rw [Pg.dat, dp_tup, dp_cons, dp_cons, dp_cons, dp_nil, dp_one]; show _ ≤ max a.deep b.deep + 1 + max a.kdeep b.kdeep + 1; omega
  | first a h => rw [Pg.dat, dp_tup, dp_cons, dp_cons, dp_nil, dp_one]; show _ ≤ a.deep + 1 + a.kdeep + 1; omega
  | second a h => rw [Pg.dat, dp_tup, dp_cons, dp_cons, dp_nil, dp_one]; show _ ≤ a.deep + 1 + a.kdeep + 1; omega
  | thing => rw [Pg.dat, dp_tup, dp_cons, dp_nil, dp_one]; show _ ≤ 0 + 0 + 1; omega
end KF

set_option Elab.async false
set_option linter.all false
set_option maxRecDepth 100000
set_option maxHeartbeats 4000000
/-! Short rules: items by a written place, tags, == of kinds and programs, what is told behind. -/
namespace KF
open PySem PySem.Spec L2 TL

/-- a value and a heap in which all stands as it stood -/
def Ret (H : Hp) (Q : VK) (R : Hp → V → Prop) : Prop := ∀ v H', Same H H' → R H' v → Q v H'
theorem Ret.at {H : Hp} {Q : VK} {R : Hp → V → Prop} (r : Ret H Q R) {v : V} (h : R H v) : Q v H := r v H (Same.refl H) h
theorem Ret.mono {H H1 : Hp} {Q : VK} {R : Hp → V → Prop} (r : Ret H Q R) (s : Same H H1) : Ret H1 Q R := fun v H' s' h => r v H' (s.trans s') h
theorem Ret.of {H H1 : Hp} {Q : VK} {R : Hp → V → Prop} (r : Ret H Q R) (s : Same H H1) {v : V} (h : R H1 v) : Q v H1 := r v H1 s h
def Mono (te : TE) : Prop := ∀ (σ : L2.St) (H : Hp) (Q Q' : VK), (∀ v H', Q v H' → Q' v H') → te σ H Q → te σ H Q'
theorem mono_var {i : Nat} : Mono (tVar i) := fun σ H Q Q' f ⟨v, e, q⟩ => ⟨v, e, f _ _ q⟩
theorem mono_c {v : V} : Mono (tC v) := fun σ H Q Q' f q => f _ _ q
section
variable {X : Cx} {e a b : Expr} {te t t' ta tb : TE} {pos p1 p2 p3 p4 : Pos}
theorem pe_imp (h : PE X e t) (f : ∀ σ H Q, t' σ H Q → t σ H Q) : PE X e t' := ⟨fun pins s σ H Q I q => h.run pins s σ H Q I (f σ H Q q)⟩
theorem pt_imp {u u' : TT} (h : PT X e u) (f : ∀ σ H Q, u' σ H Q → u σ H Q) : PT X e u' := ⟨fun pins s σ H Q I q => h.run pins s σ H Q I (f σ H Q q)⟩
/-- t[n], n a written place -/
def tAt (K : PySem.W.Frag) (te : TE) (n : Nat) : TE := fun σ H Q => te σ H fun x H1 => ∃ a xs v, x = .ref a ∧ SqT K H1 a xs ∧ xs[n]? = some v ∧ Q v H1
theorem mono_at {K : PySem.W.Frag} {n : Nat} (h : Mono te) : Mono (tAt K te n) := fun σ H Q Q' f q => h σ H _ _ (fun v H' ⟨a, xs, w, e1, e2, e3, q⟩ => ⟨a, xs, w, e1, e2, e3, f _ _ q⟩) q
theorem pe_at (n : Nat) {j} (h : PE X e te) (m : Mono te) : PE X (.Subscript e (.Constant (.int (n : Int)) j p1) p2) (tAt X.K te n) :=
  pe_imp (pe_ix ix_tup h pe_int (fun _ _ => rfl)) fun σ H Q q => m σ H _ _ (fun v H' ⟨a, xs, w, e1, e2, e3, q⟩ => ⟨a, xs, n, w, e1, rfl, e2, atI_nat e3, q⟩) q
theorem pv_at (i n : Nat) {x : Str} {j} (hN : X.N[i]? = some x := by rfl) (hv : Vis X.env.scope x := by first | exact Or.inl rfl | exact Or.inr (Or.inl rfl) | exact Or.inr (Or.inr rfl)) (hd : (x == ("__debug__" : Str)) = false := by decide)
    (hcd : (x == ("__classdict__" : Str)) = false := by decide) : PE X (.Subscript (.Name x pos) (.Constant (.int (n : Int)) j p1) p2) (tAt X.K (tVar i) n) := pe_at n (pe_var hN hv hd hcd) mono_var
/-- l[n] of a list -/
def tAtL (K : PySem.W.Frag) (te : TE) (n : Nat) : TE := fun σ H Q => te σ H fun x H1 => ∃ a xs v, x = .ref a ∧ SqL K H1 a xs ∧ xs[n]? = some v ∧ Q v H1
theorem mono_atL {K : PySem.W.Frag} {n : Nat} (h : Mono te) : Mono (tAtL K te n) := fun σ H Q Q' f q => h σ H _ _ (fun v H' ⟨a, xs, w, e1, e2, e3, q⟩ => ⟨a, xs, w, e1, e2, e3, f _ _ q⟩) q
theorem pe_atL (n : Nat) {j} (h : PE X e te) (m : Mono te) : PE X (.Subscript e (.Constant (.int (n : Int)) j p1) p2) (tAtL X.K te n) :=
  pe_imp (pe_ix ix_list h pe_int (fun _ _ => rfl)) fun σ H Q q => m σ H _ _ (fun v H' ⟨a, xs, w, e1, e2, e3, q⟩ => ⟨a, xs, n, w, e1, rfl, e2, atI_nat e3, q⟩) q
/-- e[0] == 'word' as a test -/
def tTag (K : PySem.W.Frag) (te : TE) (t : Str) : TT := fun σ H Q => te σ H fun x H1 => ∃ a s xs, x = .ref a ∧ SqT K H1 a (.str s :: xs) ∧ Q (decide (s = t)) H1
theorem dec_str (s t : Str) : decide (V.str s = V.str t) = decide (s = t) := by
  by_cases h : s = t
  · rw [h, decide_eq_true rfl, decide_eq_true rfl]
  · rw [decide_eq_false h, decide_eq_false fun q => h (V.str.inj q)]
theorem pt_tag {t : Str} {j j'} (h : PE X e te) (m : Mono te) : PT X (.Compare (.Subscript e (.Constant (.int 0) j p1) p2) [.Eq] [.Constant (.str t) j' p3] p4) (tTag X.K te t) :=
  pt_imp (pt_cmpR op_eq (pe_at 0 h m) pe_str (nomark _)) fun σ H Q q => m σ H _ _ (fun v H' ⟨a, s, xs, e1, e2, q⟩ => ⟨a, _, _, e1, e2, rfl, rfl, _, rfl, by rw [dec_str]; exact q⟩) q
theorem pt_ntag {t : Str} {j j'} (h : PE X e te) (m : Mono te) : PT X (.Compare (.Subscript e (.Constant (.int 0) j p1) p2) [.NotEq] [.Constant (.str t) j' p3] p4) (fun σ H Q => tTag X.K te t σ H fun b H1 => Q (!b) H1) :=
  pt_imp (pt_cmpR op_ne (pe_at 0 h m) pe_str (nomark _)) fun σ H Q q => m σ H _ _ (fun v H' ⟨a, s, xs, e1, e2, q⟩ => ⟨a, _, _, e1, e2, rfl, rfl, _, rfl, by rw [dec_str]; exact q⟩) q
/-- .. as a value -/
def tTagV (K : PySem.W.Frag) (te : TE) (t : Str) : TE := fun σ H Q => te σ H fun x H1 => ∃ a s xs, x = .ref a ∧ SqT K H1 a (.str s :: xs) ∧ Q (.bl (decide (s = t))) H1
theorem pe_tag {t : Str} {j j'} (h : PE X e te) (m : Mono te) : PE X (.Compare (.Subscript e (.Constant (.int 0) j p1) p2) [.Eq] [.Constant (.str t) j' p3] p4) (tTagV X.K te t) :=
  pe_imp (pe_cmpR op_eq (pe_at 0 h m) pe_str (nomark _)) fun σ H Q q => m σ H _ _ (fun v H' ⟨a, s, xs, e1, e2, q⟩ => ⟨a, _, _, e1, e2, rfl, rfl, by rw [dec_str]; exact q⟩) q
/-- e[0] in ('a', 'b', ..) -/
def tTagIn (K : PySem.W.Frag) (te : TE) (ts : List Str) (neg : Bool) : TT := fun σ H Q => te σ H fun x H1 => ∃ a s xs, x = .ref a ∧ SqT K H1 a (.str s :: xs) ∧ ∀ H2, Same H1 H2 → Q (if neg then !decide (s ∈ ts) else decide (s ∈ ts)) H2
theorem eqV_str (s t : Str) : eqV (V.str t) (V.str s) = decide (t = s) := str_beq t s
theorem inV_strs (s : Str) : ∀ ts : List Str, inV (.str s) (ts.map V.str) = decide (s ∈ ts)
  | [] => by rw [decide_eq_false (List.not_mem_nil)]; rfl
  | t :: ts => by
    show (eqV (V.str t) (V.str s) || inV (.str s) (ts.map V.str)) = _
    rw [eqV_str, inV_strs s ts]
    by_cases h : t = s
    · subst h; simp
    · have h' : ¬ s = t := fun q => h q.symm
      simp [h, h']
theorem flat_strs' : ∀ ts : List Str, (ts.map V.str).all flatV = true
  | [] => rfl
  | t :: ts => flat_strs' ts
theorem pt_in2 {t1 t2 : Str} {j j1 j2 x1} {q1 q2 q3 : Pos} (h : PE X e te) (m : Mono te) : PT X (.Compare (.Subscript e (.Constant (.int 0) j p1) p2) [.In] [.Tuple [.Constant (.str t1) j1 q1, .Constant (.str t2) j2 q2] x1 q3] p4) (tTagIn X.K te [t1, t2] false) :=
  pt_imp (pt_cmpR op_in_seq (pe_at 0 h m) (pe_tup (pa_cons pe_str (pa_cons pe_str pa_nil))) rfl) fun σ H Q q => m σ H _ _ (fun v H' ⟨a, s, xs, e1, e2, q⟩ =>
    ⟨a, _, _, e1, e2, rfl, (by show 2 ≤ sizeLine; decide), fun p hp => ⟨p, [t1, t2].map V.str, rfl, .inr (.of upd_same), rfl, flat_strs' _, _, rfl, by rw [inV_strs]; exact q _ (same_new hp _)⟩⟩) q
theorem pt_in4 {t1 t2 t3 t4 : Str} {j j1 j2 j3 j4 x1} {q1 q2 q3 q4 q5 : Pos} (h : PE X e te) (m : Mono te) : PT X (.Compare (.Subscript e (.Constant (.int 0) j p1) p2) [.In] [.Tuple [.Constant (.str t1) j1 q1, .Constant (.str t2) j2 q2, .Constant (.str t3) j3 q3, .Constant (.str t4) j4 q4] x1 q5] p4) (tTagIn X.K te [t1, t2, t3, t4] false) :=
  pt_imp (pt_cmpR op_in_seq (pe_at 0 h m) (pe_tup (pa_cons pe_str (pa_cons pe_str (pa_cons pe_str (pa_cons pe_str pa_nil))))) rfl) fun σ H Q q => m σ H _ _ (fun v H' ⟨a, s, xs, e1, e2, q⟩ =>
    ⟨a, _, _, e1, e2, rfl, (by show 4 ≤ sizeLine; decide), fun p hp => ⟨p, [t1, t2, t3, t4].map V.str, rfl, .inr (.of upd_same), rfl, flat_strs' _, _, rfl, by rw [inV_strs]; exact q _ (same_new hp _)⟩⟩) q
theorem pt_nin3 {t1 t2 t3 : Str} {j j1 j2 j3 x1} {q1 q2 q3 q5 : Pos} (h : PE X e te) (m : Mono te) : PT X (.Compare (.Subscript e (.Constant (.int 0) j p1) p2) [.NotIn] [.Tuple [.Constant (.str t1) j1 q1, .Constant (.str t2) j2 q2, .Constant (.str t3) j3 q3] x1 q5] p4) (tTagIn X.K te [t1, t2, t3] true) :=
  pt_imp (pt_cmpR op_notIn_seq (pe_at 0 h m) (pe_tup (pa_cons pe_str (pa_cons pe_str (pa_cons pe_str pa_nil)))) rfl) fun σ H Q q => m σ H _ _ (fun v H' ⟨a, s, xs, e1, e2, q⟩ =>
    ⟨a, _, _, e1, e2, rfl, (by show 3 ≤ sizeLine; decide), fun p hp => ⟨p, [t1, t2, t3].map V.str, rfl, .inr (.of upd_same), rfl, flat_strs' _, _, rfl, by rw [inV_strs]; exact q _ (same_new hp _)⟩⟩) q
theorem pt_nin2 {t1 t2 : Str} {j j1 j2 x1} {q1 q2 q5 : Pos} (h : PE X e te) (m : Mono te) : PT X (.Compare (.Subscript e (.Constant (.int 0) j p1) p2) [.NotIn] [.Tuple [.Constant (.str t1) j1 q1, .Constant (.str t2) j2 q2] x1 q5] p4) (tTagIn X.K te [t1, t2] true) :=
  pt_imp (pt_cmpR op_notIn_seq (pe_at 0 h m) (pe_tup (pa_cons pe_str (pa_cons pe_str pa_nil))) rfl) fun σ H Q q => m σ H _ _ (fun v H' ⟨a, s, xs, e1, e2, q⟩ =>
    ⟨a, _, _, e1, e2, rfl, (by show 2 ≤ sizeLine; decide), fun p hp => ⟨p, [t1, t2].map V.str, rfl, .inr (.of upd_same), rfl, flat_strs' _, _, rfl, by rw [inV_strs]; exact q _ (same_new hp _)⟩⟩) q
/-! ### == -/
def rEqK (K : PySem.W.Frag) : R2 := fun x y H Q => ∃ k l, KdAt K H k x ∧ KdAt K H l y ∧ min k.depth l.depth ≤ 300 ∧ Q (.bl (decide (k = l))) H
theorem op_eqK (hu : X.A.units + 400 < cLine) : OpR X (compareOp .Eq) (rEqK X.K) := by
  intro pins s σ H x y v u Q I rx ry h
  obtain ⟨k, l, hk, hl, hd, q⟩ := h
  obtain ⟨as, r1⟩ := Dp.reads I _ x v hk.dp rx
  obtain ⟨bs, r2⟩ := Dp.reads I _ y u hl.dp ry
  refine SeqAt.compareEq_reads r1 r2 k.lays l.lays ?_ ⟨.bl _, H, I, rfl, by rw [Kd.eqv]; exact q⟩
  rw [Kd.dat_depth, Kd.dat_depth]
  omega
def rNeK (K : PySem.W.Frag) : R2 := fun x y H Q => ∃ k l, KdAt K H k x ∧ KdAt K H l y ∧ min k.depth l.depth ≤ 300 ∧ Q (.bl (!decide (k = l))) H
theorem op_neK (hu : X.A.units + 400 < cLine) : OpR X (compareOp .NotEq) (rNeK X.K) := by
  intro pins s σ H x y v u Q I rx ry h
  obtain ⟨k, l, hk, hl, hd, q⟩ := h
  obtain ⟨as, r1⟩ := Dp.reads I _ x v hk.dp rx
  obtain ⟨bs, r2⟩ := Dp.reads I _ y u hl.dp ry
  refine SeqAt.compareNe_reads r1 r2 k.lays l.lays ?_ ⟨.bl _, H, I, rfl, by rw [Kd.eqv]; exact q⟩
  rw [Kd.dat_depth, Kd.dat_depth]
  omega
def rEqP (K : PySem.W.Frag) : R2 := fun x y H Q => ∃ k l, PgAt K H k x ∧ PgAt K H l y ∧ min (k.deep + k.kdeep) (l.deep + l.kdeep) ≤ 300 ∧ Q (.bl (decide (k = l))) H
theorem op_eqP (hu : X.A.units + 400 < cLine) : OpR X (compareOp .Eq) (rEqP X.K) := by
  intro pins s σ H x y v u Q I rx ry h
  obtain ⟨k, l, hk, hl, hd, q⟩ := h
  obtain ⟨as, r1⟩ := Dp.reads I _ x v hk.dp rx
  obtain ⟨bs, r2⟩ := Dp.reads I _ y u hl.dp ry
  refine SeqAt.compareEq_reads r1 r2 k.lays l.lays ?_ ⟨.bl _, H, I, rfl, by rw [Pg.eqv]; exact q⟩
  have := k.dat_depth
  have := l.dat_depth
  omega
def rNeP (K : PySem.W.Frag) : R2 := fun x y H Q => ∃ k l, PgAt K H k x ∧ PgAt K H l y ∧ min (k.deep + k.kdeep) (l.deep + l.kdeep) ≤ 300 ∧ Q (.bl (!decide (k = l))) H
theorem op_neP (hu : X.A.units + 400 < cLine) : OpR X (compareOp .NotEq) (rNeP X.K) := by
  intro pins s σ H x y v u Q I rx ry h
  obtain ⟨k, l, hk, hl, hd, q⟩ := h
  obtain ⟨as, r1⟩ := Dp.reads I _ x v hk.dp rx
  obtain ⟨bs, r2⟩ := Dp.reads I _ y u hl.dp ry
  refine SeqAt.compareNe_reads r1 r2 k.lays l.lays ?_ ⟨.bl _, H, I, rfl, by rw [Pg.eqv]; exact q⟩
  have := k.dat_depth
  have := l.dat_depth
  omega
end
/-- a test whose answer is known -/
theorem ifT {c : Bool} {A B : Prop} (hc : c = true) (h : A) : if c = true then A else B := by rw [if_pos hc]; exact h
theorem ifF {c : Bool} {A B : Prop} (hc : c = false) (h : B) : if c = true then A else B := by rw [hc]; exact iteF h
theorem if2 {c : Bool} {A B : Prop} (h1 : c = true → A) (h2 : c = false → B) : if c = true then A else B := by
  cases c with
  | true => exact iteT (h1 rfl)
  | false => exact iteF (h2 rfl)
end KF

set_option Elab.async false
set_option linter.all false
set_option maxRecDepth 100000
set_option maxHeartbeats 4000000
/-! What is new: results that lean on the tuples that stood and on new objects alone; comprehensions that build. -/
namespace KF
open PySem PySem.Spec L2 TL
section
variable {K : PySem.W.Frag} {H H0 H1 H2 H'' : Hp}
/-- H'' has the tuples of H, and what H1 has new over H -/
structure Nx (K : PySem.W.Frag) (H H1 H'' : Hp) : Prop where
  ts : TS K H H''
  new : ∀ b o, H b = none → H1 b = some o → H'' b = some o
theorem Nx.self (s : Same H H1) : Nx K H H1 H1 := ⟨same_ts s, fun _ _ _ q => q⟩
theorem Nx.same (s : Same H H1) (n : Same H1 H2) : Nx K H H1 H2 := ⟨same_ts (s.trans n), fun b o _ q => n b o q⟩
theorem tup_stays {a : Addr} {xs : List V} (s : Same H H1) (h : SqT K H1 a xs) (f : TS K H H'') (g : ∀ b o, H b = none → H1 b = some o → H'' b = some o) : SqT K H'' a xs := by
  have look : ∀ o, H1 a = some o → H a = some o ∨ H'' a = some o := fun o q => by
    cases z : H a with
    | none => exact .inr (g a o z q)
    | some u => rw [s a u z] at q; cases q; exact .inl rfl
  rcases h with (q | ⟨o, q⟩) | q
  · rcases look _ q with z | z
    · exact f a xs (.inl (.inl z))
    · exact .inl (.inl z)
  · rcases look _ q with z | z
    · exact f a xs (.inl (.inr ⟨_, z⟩))
    · exact .inl (.inr ⟨_, z⟩)
  · exact .inr q
theorem Nx.later (x : Nx K H H2 H'') (s : Same H H1) (s' : Same H1 H2) : Nx K H1 H2 H'' :=
  ⟨fun a xs q => tup_stays s q x.ts fun b o n z => x.new b o n (s' b o z), fun b o n z => x.new b o (s.free n) z⟩
theorem Nx.less (x : Nx K H H2 H'') (s' : Same H1 H2) : Nx K H H1 H'' := ⟨x.ts, fun b o n z => x.new b o n (s' b o z)⟩
theorem Nx.tup (x : Nx K H H1 H'') (s : Same H H1) {a : Addr} {xs : List V} (h : SqT K H1 a xs) : SqT K H'' a xs := tup_stays s h x.ts x.new
theorem Nx.all (x : Nx K H H1 H'') (s : Same H H1) : TS K H1 H'' := fun _ _ h => x.tup s h
theorem Nx.lst (x : Nx K H H1 H'') {a : Addr} {o : HO} (n : H a = none) (h : H1 a = some o) : H'' a = some o := x.new _ _ n h
/-- a value; what it stands for leans on what is new and on tuples -/
def Rt (K : PySem.W.Frag) (H : Hp) (Q : VK) (R : Hp → V → Prop) : Prop := ∀ v H1, Same H H1 → (∀ H'', Nx K H H1 H'' → R H'' v) → Q v H1
theorem Rt.mono {Q : VK} {R : Hp → V → Prop} (r : Rt K H Q R) (s : Same H H1) : Rt K H1 Q R := fun v H2 s' h => r v H2 (s.trans s') fun H'' x => h H'' (x.later s s')
/-- a new list -/
def RtL {α : Type} (K : PySem.W.Frag) (H : Hp) (Q : VK) (R : Hp → α → V → Prop) (l : List α) : Prop := ∀ a vs H1, Same H H1 → H a = none → H1 a = some (.lst vs) → (∀ H'', Nx K H H1 H'' → All2 (R H'') l vs) → Q (.ref a) H1
theorem RtL.of {α : Type} {Q : VK} {R : Hp → α → V → Prop} {l : List α} (r : RtL K H Q R l) (s : Same H H1) {a : Addr} {vs : List V} (n : H a = none) (g : H1 a = some (.lst vs)) (h : ∀ H'', Nx K H H1 H'' → All2 (R H'') l vs) : Q (.ref a) H1 := r a vs H1 s n g h
/-- the list at p, laid last -/
theorem RtL.laid {α : Type} {Q : VK} {R : Hp → α → V → Prop} {l : List α} (r : RtL K H Q R l) (s : Same H H1) {p : Addr} (hp : H1 p = none) {vs : List V} (h : ∀ H'', Nx K H H1 H'' → All2 (R H'') l vs) : Q (.ref p) (upd H1 p (.lst vs)) :=
  r p vs _ (s.trans fun b o q => by rw [upd_ne (ne_of_none q hp)]; exact q) (s.free hp) upd_same fun H'' x => h H'' (x.less fun b o q => by rw [upd_ne (ne_of_none q hp)]; exact q)
theorem Rt.of {Q : VK} {R : Hp → V → Prop} (r : Rt K H Q R) (s : Same H H1) {v : V} (h : ∀ H'', Nx K H H1 H'' → R H'' v) : Q v H1 := r v H1 s h
end
theorem _root_.L2.Same.tup {K : PySem.W.Frag} {H H' : Hp} {a : Addr} {xs : List V} (s : Same H H') (h : SqT K H a xs) : SqT K H' a xs := same_ts s a xs h
theorem _root_.L2.Same.ts {K : PySem.W.Frag} {H H' : Hp} (s : Same H H') : TS K H H' := same_ts s
theorem sz0 : ([] : List V).length ≤ sizeLine := by show 0 ≤ sizeLine; decide
theorem sz1 {a : V} : [a].length ≤ sizeLine := by show 1 ≤ sizeLine; decide
theorem sz2 {a b : V} : [a, b].length ≤ sizeLine := by show 2 ≤ sizeLine; decide
theorem sz3 {a b c : V} : [a, b, c].length ≤ sizeLine := by show 3 ≤ sizeLine; decide
theorem sz4 {a b c d : V} : [a, b, c, d].length ≤ sizeLine := by show 4 ≤ sizeLine; decide
theorem sz5 {a b c d e : V} : [a, b, c, d, e].length ≤ sizeLine := by show 5 ≤ sizeLine; decide
section
variable {K : PySem.W.Frag} {J : It} {n : Nat} {G : Hp → Prop} {Y : Nat → Hp → V → Hp → Prop}
/-- [e for .. in ..]: the list of what each turn gives -/
theorem lc_build {β : Type} (w : Walk J n G Y) {g : TG} {te : TE} {vs : List Nat} {σ : L2.St} {H1 : Hp} {D : Addr} {Qd : Hp → Prop} (R : Hp → β → V → Prop) (out : List β) (hn : out.length = n) (hz : n ≤ 1000000) (hD : H1 D = none)
    (hG : ∀ H, Same H1 H → G H)
    (hs : ∀ i b x H H' (Q : VK), out[i]? = some b → Same H1 H → Y i H x H' → (∀ y H4, Same H H4 → (∀ H'', Nx K H H4 H'' → R H'' b y) → Q y H4) → g x (wipe σ vs) H' fun σ2 H2 => wipe σ2 vs = wipe σ vs ∧ te σ2 H2 Q)
    (hd : ∀ H ys, Same H1 H → H D = some (.lst ys) → (∀ H'', Nx K H1 H H'' → All2 (R H'') out ys) → Qd H) :
    ∃ W : Nat → Nat → Hp → Prop, (∃ m, W 0 m (upd H1 D (.lst []))) ∧ ∀ i m H, W i m H →
      (J.stop i H ∧ Qd H) ∨ (J.go i H ∧ ∃ Nx : Hp → Prop, (∀ H', Nx H' → ∃ m', m' < m ∧ W (i + 1) m' H') ∧ ∀ x H', J.yld i H x H' → g x (wipe σ vs) H' fun σ2 H2 => wipe σ2 vs = wipe σ vs ∧ tYes σ2 H2 fun b H3 =>
        if b = true then te σ2 H3 fun y H4 => ∃ acc, H4 D = some (.lst acc) ∧ acc.length < sizeLine ∧ Nx (upd H4 D (.lst (acc ++ [y]))) else Nx H3) := by
  refine lc_it w (fun i H => Same H1 H ∧ ∃ acc, H D = some (.lst acc) ∧ ∀ H'', TS K H1 H'' → (∀ b o, b ≠ D → H1 b = none → H b = some o → H'' b = some o) → All2 (R H'') (out.take i) acc) ?_ (fun i H hi p => hG H p.1) ?_ ?_
  · exact ⟨same_new hD _, [], upd_same, fun _ _ _ => trivial⟩
  · intro i x H H' hi ⟨s, acc, eD, hacc⟩ y
    obtain ⟨b, hb⟩ : ∃ b, out[i]? = some b := ⟨out[i], List.getElem?_eq_getElem (by omega)⟩
    have many : acc.length = i := by
      have l := (hacc H (same_ts s) fun _ _ _ _ q => q).length
      rw [l, List.length_take]
      omega
    have turn := hs i b x H H' (fun y H4 => ∃ acc, H4 D = some (.lst acc) ∧ acc.length < sizeLine ∧ Same H1 (upd H4 D (.lst (acc ++ [y]))) ∧ ∃ acc', upd H4 D (.lst (acc ++ [y])) D = some (.lst acc') ∧ ∀ H'', TS K H1 H'' → (∀ b o, b ≠ D → H1 b = none → upd H4 D (.lst (acc ++ [y])) b = some o → H'' b = some o) → All2 (R H'') (out.take (i + 1)) acc') hb s y ?_
    · exact turn
    · intro y H4 s4 r4
      have e4 := s4 _ _ eD
      refine ⟨acc, e4, by rw [many]; have := sizeLine_eq; omega, fun b o q => ?_, acc ++ [y], upd_same, fun H'' f k => ?_⟩
      · have ne : b ≠ D := ne_of_none q hD
        rw [upd_ne ne]
        exact s4 _ _ (s _ _ q)
      · have k4 : ∀ b o, b ≠ D → H1 b = none → H4 b = some o → H'' b = some o := fun b o ne n q => k b o ne n (by rw [upd_ne ne]; exact q)
        have kH : ∀ b o, b ≠ D → H1 b = none → H b = some o → H'' b = some o := fun b o ne n q => k4 b o ne n (s4 _ _ q)
        have old := hacc H'' f kH
        have fH : TS K H H'' := fun a xs q => by
          have look : ∀ o, H a = some o → (∀ zs, o ≠ .lst zs) → H1 a = some o ∨ H'' a = some o := fun o q no => by
            cases z : H1 a with
            | none => exact .inr (kH a o (by rintro rfl; rw [eD] at q; cases q; exact no _ rfl) z q)
            | some u => rw [s a u z] at q; cases q; exact .inl rfl
          rcases q with (q | ⟨o, q⟩) | q
          · rcases look _ q (by intro _ z; cases z) with z | z
            · exact f a xs (.inl (.inl z))
            · exact .inl (.inl z)
          · rcases look _ q (by intro _ z; cases z) with z | z
            · exact f a xs (.inl (.inr ⟨_, z⟩))
            · exact .inl (.inr ⟨_, z⟩)
          · exact .inr q
        have ry := r4 H'' ⟨fH, fun b o n q => k4 b o (by rintro rfl; rw [eD] at n; cases n) (s.free n) q⟩
        have et : out.take (i + 1) = out.take i ++ [b] := by rw [List.take_succ, hb]; rfl
        rw [et]
        exact old.snoc ry
  · intro H ⟨s, acc, eD, hacc⟩
    refine hd H acc s eD fun H'' x => ?_
    have := hacc H'' x.ts fun b o _ n q => x.new b o n q
    rwa [← hn, List.take_length] at this
end
end KF

set_option Elab.async false
set_option linter.all false
set_option maxRecDepth 100000
set_option maxHeartbeats 4000000
namespace KF
open PySem PySem.Spec L2 TL
section
variable {P : Program} {w : World} {K : PySem.W.Frag} {mg : Str → Option Value} {base : Heap}
/-! ### leaves_of -/
def spLeaves (K : PySem.W.Frag) (n : Nat) : Sp := fun vs H Q _ => ∃ v k, vs = [v] ∧ KdAt K H k v ∧ k.depth < n ∧ Q (.int k.leaves) H
theorem ok_leaves (T : Tx w K mg) : ∀ n, Df P w K mg base CX0 n "leaves_of" ["kind"] [] (spLeaves K n)
  | 0 => df_none T.d_leaves_of T.g_leaves_of (fun _ _ _ _ _ _ us hl => match us, hl with | [_], _ => rfl) fun vs H Q E ⟨_, _, _, _, h, _⟩ => absurd h (Nat.not_lt_zero _)
  | n + 1 => by
    have G := ok_leaves T n
    refine df0 T.d_leaves_of T.g_leaves_of sc_leaves_of (fun _ _ _ _ _ _ us hl => match us, hl with | [_], _ => rfl) (fun vs H Q E h => ?_) (fun cdv A outer s H vs Q E hr h => ?_)
    · obtain ⟨v, k, rfl, _⟩ := h
      rfl
    obtain ⟨v, k, rfl, hk, hn, q⟩ := h
    refine ⟨_, pss_cons (ps_if (pt_cmpR op_lt (pe_callB call_len_seq rfl T.n_len PySem.boot_len (pa_cons (pv 0) pa_nil)) pe_int (nomark _)) (pss_one (ps_ret pe_int)) pss_nil)
      (pss_one (ps_ret (pe_op op_add (cal G hr pass0 (pa_cons (pv_at 0 1) pa_nil)) (cal G hr pass0 (pa_cons (pv_at 0 2) pa_nil))))), ?_⟩
    cases k with
    | one =>
      obtain ⟨a, rfl, t⟩ := hk
      exact ⟨_, rfl, a, _, rfl, .inr t, _, _, rfl, rfl, _, rfl, ifT rfl q⟩
    | mark m =>
      obtain ⟨a, rfl, t⟩ := hk
      exact ⟨_, rfl, a, _, rfl, .inr t, _, _, rfl, rfl, _, rfl, ifT rfl q⟩
    | to c d =>
      obtain ⟨a, x, y, rfl, t, hx, hy⟩ := hk
      have hn' : 1 + max c.depth d.depth < n + 1 := hn
      exact ⟨_, rfl, a, _, rfl, .inr t, _, _, rfl, rfl, _, rfl, ifF rfl ⟨_, rfl, a, _, x, rfl, t, rfl, _, c, rfl, hx, by omega, _, rfl, a, _, y, rfl, t, rfl, _, d, rfl, hy, by omega, _, _, rfl, rfl, q⟩⟩
    | both c d =>
      obtain ⟨a, x, y, rfl, t, hx, hy⟩ := hk
      have hn' : 1 + max c.depth d.depth < n + 1 := hn
      exact ⟨_, rfl, a, _, rfl, .inr t, _, _, rfl, rfl, _, rfl, ifF rfl ⟨_, rfl, a, _, x, rfl, t, rfl, _, c, rfl, hx, by omega, _, rfl, a, _, y, rfl, t, rfl, _, d, rfl, hy, by omega, _, _, rfl, rfl, q⟩⟩
end
end KF

set_option Elab.async false
set_option linter.all false
set_option maxRecDepth 100000
set_option maxHeartbeats 4000000
namespace KF
open PySem PySem.Spec L2 TL
/-! ### ends and ways -/
inductive Mv where
  | one | two | kd (k : Kd)
  deriving DecidableEq
def endsOf : Kd → List (List Kd × Bool)
  | .one => []
  | .mark m => [([], m)]
  | .both a b => endsOf a ++ endsOf b
  | .to a b => (endsOf b).map fun e => (a :: e.1, e.2)
def waysOf : Kd → List (List Mv × Bool)
  | .one => []
  | .mark m => [([], m)]
  | .both a b => ((waysOf a).map fun e => (Mv.one :: e.1, e.2)) ++ (waysOf b).map fun e => (Mv.two :: e.1, e.2)
  | .to a b => (waysOf b).map fun e => (Mv.kd a :: e.1, e.2)
theorem endsOf_le (k : Kd) : (endsOf k).length ≤ k.leaves := by
  induction k with
  | one => exact Nat.zero_le _
  | mark m => exact Nat.le_refl _
  | both a b h h' => show (endsOf a ++ endsOf b).length ≤ a.leaves + b.leaves; rw [List.length_append]; omega
  | to a b h h' => show ((endsOf b).map _).length ≤ a.leaves + b.leaves; rw [List.length_map]; omega
theorem waysOf_le (k : Kd) : (waysOf k).length ≤ k.leaves := by
  induction k with
  | one => exact Nat.zero_le _
  | mark m => exact Nat.le_refl _
  | both a b h h' => show (((waysOf a).map _) ++ (waysOf b).map _).length ≤ a.leaves + b.leaves; rw [List.length_append, List.length_map, List.length_map]; omega
  | to a b h h' => show ((waysOf b).map _).length ≤ a.leaves + b.leaves; rw [List.length_map]; omega
theorem endsOf_in (k : Kd) : ∀ e ∈ endsOf k, e.1.length ≤ k.depth := by
  induction k with
  | one => intro e he; cases he
  | mark m => intro e he; cases he with | head => exact Nat.zero_le _ | tail _ h => cases h
  | both a b h h' =>
    intro e he
    show _ ≤ 1 + max a.depth b.depth
    rcases List.mem_append.mp he with q | q
    · have := h e q; omega
    · have := h' e q; omega
  | to a b h h' =>
    intro e he
    show _ ≤ 1 + max a.depth b.depth
    obtain ⟨c, hc, rfl⟩ := List.mem_map.mp he
    have := h' c hc
    show c.1.length + 1 ≤ _
    omega
theorem waysOf_in (k : Kd) : ∀ e ∈ waysOf k, e.1.length ≤ k.depth := by
  induction k with
  | one => intro e he; cases he
  | mark m => intro e he; cases he with | head => exact Nat.zero_le _ | tail _ h => cases h
  | both a b h h' =>
    intro e he
    show _ ≤ 1 + max a.depth b.depth
    rcases List.mem_append.mp he with q | q <;> obtain ⟨c, hc, rfl⟩ := List.mem_map.mp q
    · have := h c hc; show c.1.length + 1 ≤ _; omega
    · have := h' c hc; show c.1.length + 1 ≤ _; omega
  | to a b h h' =>
    intro e he
    show _ ≤ 1 + max a.depth b.depth
    obtain ⟨c, hc, rfl⟩ := List.mem_map.mp he
    have := h' c hc
    show c.1.length + 1 ≤ _
    omega
def EnAt (K : PySem.W.Frag) (H : Hp) (e : List Kd × Bool) (w : V) : Prop := ∃ t y, w = .ref t ∧ SqT K H t [y, .str (mstr e.2)] ∧ LsAt (KdAt K) H e.1 y
def MvAt (K : PySem.W.Frag) (H : Hp) : Mv → V → Prop
  | .one, v => v = .int 1
  | .two, v => v = .int 2
  | .kd k, v => KdAt K H k v
theorem MvAt.ts {K : PySem.W.Frag} {H H' : Hp} (h : TS K H H') : ∀ {m : Mv} {v : V}, MvAt K H m v → MvAt K H' m v
  | .one, _, q => q
  | .two, _, q => q
  | .kd _, _, q => KdAt.ts h q
def WyAt (K : PySem.W.Frag) (H : Hp) (e : List Mv × Bool) (w : V) : Prop := ∃ t y, w = .ref t ∧ SqT K H t [y, .str (mstr e.2)] ∧ LsAt (MvAt K) H e.1 y
theorem small {n : Nat} (h : n ≤ 1000000) : n ≤ sizeLine := by rw [sizeLine_eq]; omega
theorem small' {n : Nat} (h : n ≤ 1000000) : n < sizeLine := by rw [sizeLine_eq]; omega
section
variable {P : Program} {w : World} {K : PySem.W.Frag} {mg : Str → Option Value} {base : Heap}
theorem one_at (T : Tx w K mg) (H : Hp) : KdAt K H .one (.ref (He.ga K "ONE")) := ⟨_, rfl, T.t_ONE H⟩
def spEnds (K : PySem.W.Frag) (n : Nat) : Sp := fun vs H Q _ => ∃ v k, vs = [v] ∧ KdAt K H k v ∧ k.depth < n ∧ k.leaves ≤ 300 ∧ RtL K H Q (EnAt K) (endsOf k)
theorem ok_ends (T : Tx w K mg) : ∀ n, Df P w K mg base CX0 n "ends_of" ["kind"] [] (spEnds K n)
  | 0 => df_none T.d_ends_of T.g_ends_of (fun _ _ _ _ _ _ us hl => match us, hl with | [_], _ => rfl) fun vs H Q E ⟨_, _, _, _, h, _⟩ => absurd h (Nat.not_lt_zero _)
  | n + 1 => by
    have G := ok_ends T n
    refine df0 T.d_ends_of T.g_ends_of sc_ends_of (fun _ _ _ _ _ _ us hl => match us, hl with | [_], _ => rfl) (fun vs H Q E h => ?_) (fun cdv A outer s H vs Q E hr h => ?_)
    · obtain ⟨v, k, rfl, _⟩ := h
      rfl
    obtain ⟨v, k, rfl, hk, hn, hl, q⟩ := h
    have kd := k.depth_lt
    refine ⟨_, pss_cons (ps_if (pt_cmpR (op_eqK hr.u) (pv 0) (pe_glob (v := .ref (He.ga K "ONE")) rfl T.i_ONE rfl) (nomark _)) (pss_one (ps_ret (pe_lst pa_nil))) pss_nil)
      (pss_cons (ps_if (pt_tag (pv 0) mono_var) (pss_one (ps_ret (pe_lst (pa_cons (pe_tup (pa_cons (pe_lst pa_nil) (pa_cons (pv_at 0 1) pa_nil))) pa_nil)))) pss_nil)
      (pss_cons (ps_if (pt_tag (pv 0) mono_var) (pss_one (ps_ret (pe_op op_cat (cal G hr pass0 (pa_cons (pv_at 0 1) pa_nil)) (cal G hr pass0 (pa_cons (pv_at 0 2) pa_nil))))) pss_nil)
      (pss_one (ps_ret (pe_lc (own := [("taken", 1), ("mark", 2)]) (g := gTup K 2 (gCons (gName 1) (gCons (gName 2) gNil))) (tt := tYes) (te := tTup (tCons (tOp rCat (tLst (tCons (tAt K (tVar 0) 1) tNil)) (tVar 1)) (tCons (tVar 2) tNil))) rfl sc_ends_of.nd (pi_list (cal G hr pass0 (pa_cons (pv_at 0 2) pa_nil))) (blkOk_by (own := [("taken", 1), ("mark", 2)]) (N := ["kind", "taken", "mark"]) (sc := defScope s_ends_of) (by decide +kernel))
        (fun _ _ _ _ _ => pg_tup rfl (pgs_cons (pg_name (i := 1) sc_ends_of.nd rfl (Or.inl rfl)) (pgs_cons (pg_name (i := 2) sc_ends_of.nd rfl (Or.inl rfl)) pgs_nil)))
        (fun _ _ _ _ _ => pts_nil)
        (fun _ _ _ _ _ => pe_tup (pa_cons (pe_op op_cat (pe_lst (pa_cons (pv_at 0 1) pa_nil)) (pv 1)) (pa_cons (pv 2) pa_nil)))))))), ?_⟩
    refine ⟨_, rfl, k, .one, hk, one_at T H, by show min k.depth 0 ≤ 300; omega, _, rfl, ?_⟩
    cases k with
    | one => exact ifT rfl ⟨sz0, fun p hp => q.laid (.refl H) hp fun _ _ => trivial⟩
    | mark m =>
      obtain ⟨a, rfl, t⟩ := hk
      refine ifF rfl ⟨_, rfl, a, _, _, rfl, t, ifT (by decide +kernel) ⟨sz0, fun p hp => ⟨_, rfl, a, _, _, rfl, (same_new hp _).tup t, rfl, sz2, fun p2 hp2 => ⟨sz1, fun p3 hp3 => ?_⟩⟩⟩⟩
      have s1 := same_new hp (.lst [])
      have s2 := same_new hp2 (.tup [.ref p, .str (mstr m)])
      exact q.laid (s1.trans s2) hp3 fun H'' x => ⟨⟨p2, .ref p, rfl, x.tup (s1.trans s2) (SqT.of upd_same), p, [], rfl, x.lst hp (s2 _ _ upd_same), trivial⟩, trivial⟩
    | both c d =>
      obtain ⟨a, y, z, rfl, t, hy, hz⟩ := hk
      have hn' : 1 + max c.depth d.depth < n + 1 := hn
      have hl' : c.leaves + d.leaves ≤ 300 := hl
      refine ifF rfl ⟨_, rfl, a, _, _, rfl, t, ifF (by decide +kernel) ⟨_, rfl, a, _, _, rfl, t, ifT (by decide +kernel) ⟨_, rfl, a, _, _, rfl, t, rfl, y, c, rfl, hy, by omega, by omega, fun b1 l1 H1 s1 n1 g1 r1 => ?_⟩⟩⟩
      refine ⟨_, rfl, a, _, _, rfl, s1.tup t, rfl, z, d, rfl, hz.same s1, by omega, by omega, fun b2 l2 H2 s2 n2 g2 r2 => ?_⟩
      have m1 := (r1 H1 (.self s1)).length
      have m2 := (r2 H2 (.self s2)).length
      have := endsOf_le c
      have := endsOf_le d
      refine ⟨b1, b2, _, _, rfl, rfl, s2 _ _ g1, g2, small (by omega), fun p hp => q.laid (s1.trans s2) hp fun H'' x => ?_⟩
      exact (r1 H'' (x.less s2)).append (r2 H'' (x.later s1 s2))
    | to c d =>
      obtain ⟨a, y, z, rfl, t, hy, hz⟩ := hk
      have hn' : 1 + max c.depth d.depth < n + 1 := hn
      have hl' : c.leaves + d.leaves ≤ 300 := hl
      refine ifF rfl ⟨_, rfl, a, _, _, rfl, t, ifF (by decide +kernel) ⟨_, rfl, a, _, _, rfl, t, ifF (by decide +kernel) ⟨_, rfl, a, _, _, rfl, t, rfl, z, d, rfl, hz, by omega, by omega, fun b1 l1 H1 s1 n1 g1 r1 => ?_⟩⟩⟩
      refine ⟨b1, rfl, ⟨_, .of g1⟩, fun D hD => ?_⟩
      have e1 := r1 H1 (.self s1)
      have m1 := e1.length
      have := endsOf_le d
      refine lc_build (K := K) (walk_list (xs := l1)) (EnAt K) (endsOf (.to c d)) (by show ((endsOf d).map _).length = _; rw [List.length_map]; exact m1.symm) (by omega) hD (fun H s => .of (s _ _ g1)) (fun i b x H2 H3 Q2 hb s2 hY q2 => ?_) (fun H2 ys s2 gD rD => ?_)
      · obtain ⟨rfl, hx⟩ := hY
        obtain ⟨e, he, rfl⟩ : ∃ e, (endsOf d)[i]? = some e ∧ b = (c :: e.1, e.2) := by
          have hb' : ((endsOf d).map fun e => (c :: e.1, e.2))[i]? = some b := hb
          rw [List.getElem?_map] at hb'
          cases z : (endsOf d)[i]? with
          | none => rw [z] at hb'; cases hb'
          | some e => rw [z] at hb'; exact ⟨e, rfl, (Option.some.inj hb').symm⟩
        have small_e := endsOf_in d e (List.mem_of_getElem? he)
        obtain ⟨x', hx', t', y', rfl, ht', b3, l3, rfl, g3, e3⟩ := (r1 H3 (.same s1 s2)).get he
        obtain rfl : V.ref t' = x := Option.some.inj (hx'.symm.trans hx)
        refine ⟨t', _, rfl, ht', rfl, _, _, rfl, _, _, rfl, rfl, rfl, ?_⟩
        refine ⟨_, rfl, a, _, _, rfl, s2.tup (s1.tup t), rfl, sz1, fun p hp => ⟨_, rfl, p, b3, _, _, rfl, rfl, upd_same, same_new hp _ _ _ g3, ?_, fun p2 hp2 => ⟨_, rfl, sz2, fun p3 hp3 => ?_⟩⟩⟩
        · have := e3.length
          have := d.depth_lt
          show 1 + l3.length ≤ sizeLine
          exact small (by omega)
        have u1 := same_new hp (.lst [y])
        have u2 := same_new hp2 (.lst ([y] ++ l3))
        have u3 := same_new hp3 (.tup [.ref p2, .str (mstr e.2)])
        refine q2 _ _ (u1.trans (u2.trans u3)) fun H'' x => ⟨p3, _, rfl, x.tup (u1.trans (u2.trans u3)) (.of upd_same), p2, [y] ++ l3, rfl, x.lst (u1.free hp2) (u3 _ _ upd_same), hy.ts ((s1.trans s2).ts.trans x.ts), ?_⟩
        exact e3.imp fun k v hk => hk.ts x.ts
      · exact q D ys H2 (s1.trans s2) (s1.free hD) gD fun H'' x => rD H'' (x.later s1 s2)
end
end KF

set_option Elab.async false
set_option linter.all false
set_option maxRecDepth 100000
set_option maxHeartbeats 4000000
namespace KF
open PySem PySem.Spec L2 TL
theorem get_map {α β : Type} {f : α → β} {l : List α} {i : Nat} {b : β} (h : (l.map f)[i]? = some b) : ∃ e, l[i]? = some e ∧ b = f e := by
  rw [List.getElem?_map] at h
  cases z : l[i]? with
  | none => rw [z] at h; cases h
  | some e => rw [z] at h; exact ⟨e, rfl, (Option.some.inj h).symm⟩
section
variable {P : Program} {w : World} {K : PySem.W.Frag} {mg : Str → Option Value} {base : Heap}
/-- its list is not of B -/
def WyN (K : PySem.W.Frag) (B H : Hp) (e : List Mv × Bool) (w : V) : Prop := ∃ t y, w = .ref t ∧ SqT K H t [y, .str (mstr e.2)] ∧ ∃ a vs, y = .ref a ∧ B a = none ∧ H a = some (.lst vs) ∧ All2 (MvAt K H) e.1 vs
theorem WyN.at {K : PySem.W.Frag} {B H : Hp} {e : List Mv × Bool} {w : V} : WyN K B H e w → WyAt K H e w := fun ⟨t, y, e1, q1, a, vs, e2, _, q2, q3⟩ => ⟨t, y, e1, q1, a, vs, e2, q2, q3⟩
theorem WyN.less {K : PySem.W.Frag} {B B' H : Hp} (s : Same B B') {e : List Mv × Bool} {w : V} : WyN K B' H e w → WyN K B H e w := fun ⟨t, y, e1, q1, a, vs, e2, n, q2, q3⟩ => ⟨t, y, e1, q1, a, vs, e2, s.free n, q2, q3⟩
/-- [([head] + moves, mark) for moves, mark in ..], head and the list's item at places 0, 2, 3 -/
theorem ways_comp {σ : L2.St} {H H1 : Hp} {D b1 : Addr} {l1 : List V} {ws : List (List Mv × Bool)} {c : Mv} {th : TE} {Qd : Hp → Prop} (s1 : Same H H1) (g1 : H1 b1 = some (.lst l1)) (r1 : ∀ H'', Nx K H H1 H'' → All2 (WyN K H H'') ws l1)
    (hσ : σ.length = 4) (hz : ws.length ≤ 1000) (hz2 : ∀ e ∈ ws, e.1.length ≤ 1000) (hD : H1 D = none)
    (hh : ∀ (σ' : L2.St) (H2 : Hp) (Q : VK), σ'[0]? = σ[0]? → Same H1 H2 → (∀ v, (∀ H3, TS K H2 H3 → MvAt K H3 c v) → Q v H2) → th σ' H2 Q)
    (hd : ∀ H2 ys, Same H1 H2 → H2 D = some (.lst ys) → (∀ H'', Nx K H1 H2 H'' → All2 (WyN K H H'') (ws.map fun e => (c :: e.1, e.2)) ys) → Qd H2) :
    ∃ W : Nat → Nat → Hp → Prop, (∃ m, W 0 m (upd H1 D (.lst []))) ∧ ∀ i m H, W i m H →
      ((Itl K b1).stop i H ∧ Qd H) ∨ ((Itl K b1).go i H ∧ ∃ Nx : Hp → Prop, (∀ H', Nx H' → ∃ m', m' < m ∧ W (i + 1) m' H') ∧ ∀ x H', (Itl K b1).yld i H x H' → gTup K 2 (gCons (gName 2) (gCons (gName 3) gNil)) x (wipe σ [2, 3]) H' fun σ2 H2 => wipe σ2 [2, 3] = wipe σ [2, 3] ∧ tYes σ2 H2 fun b H3 =>
        if b = true then tTup (tCons (tOp rCat (tLst (tCons th tNil)) (tVar 2)) (tCons (tVar 3) tNil)) σ2 H3 fun y H4 => ∃ acc, H4 D = some (.lst acc) ∧ acc.length < sizeLine ∧ Nx (upd H4 D (.lst (acc ++ [y]))) else Nx H3) := by
  have e1 := r1 H1 (.self s1)
  have m1 := e1.length
  match σ, hσ with
  | [σ0, σ1, σ2, σ3], _ =>
  refine lc_build (K := K) (walk_list (xs := l1)) (WyN K H) (ws.map fun e => (c :: e.1, e.2)) (by rw [List.length_map]; exact m1.symm) (by omega) hD (fun H s => .of (s _ _ g1)) (fun i b x H2 H3 Q2 hb s2 hY q2 => ?_) hd
  obtain ⟨rfl, hx⟩ := hY
  obtain ⟨e, he, rfl⟩ := get_map hb
  obtain ⟨x', hx', t', y', rfl, ht', b3, l3, rfl, n3, g3, e3⟩ := (r1 H3 (.same s1 s2)).get he
  obtain rfl : V.ref t' = x := Option.some.inj (hx'.symm.trans hx)
  have m3 := e3.length
  have m4 := hz2 e (List.mem_of_getElem? he)
  refine ⟨t', _, rfl, ht', rfl, _, _, rfl, _, _, rfl, rfl, rfl, ?_⟩
  refine hh _ H3 _ rfl s2 fun v hv => ⟨sz1, fun p hp => ⟨_, rfl, p, b3, _, _, rfl, rfl, upd_same, same_new hp _ _ _ g3, ?_, fun p2 hp2 => ⟨_, rfl, sz2, fun p3 hp3 => ?_⟩⟩⟩
  · show 1 + l3.length ≤ sizeLine
    exact small (by omega)
  have u1 := same_new hp (.lst [v])
  have u2 := same_new hp2 (.lst ([v] ++ l3))
  have u3 := same_new hp3 (.tup [.ref p2, .str (mstr e.2)])
  refine q2 _ _ (u1.trans (u2.trans u3)) fun H'' x => ⟨p3, _, rfl, x.tup (u1.trans (u2.trans u3)) (.of upd_same), p2, [v] ++ l3, rfl, (s1.trans s2).free (u1.free hp2), x.lst (u1.free hp2) (u3 _ _ upd_same), hv _ x.ts, ?_⟩
  exact e3.imp fun k v hk => hk.ts x.ts
def spWaysN (K : PySem.W.Frag) (n : Nat) : Sp := fun vs H Q _ => ∃ v k, vs = [v] ∧ KdAt K H k v ∧ k.depth < n ∧ k.leaves ≤ 300 ∧ RtL K H Q (WyN K H) (waysOf k)
theorem ok_waysN (T : Tx w K mg) : ∀ n, Df P w K mg base CX0 n "ways_of" ["kind"] [] (spWaysN K n)
  | 0 => df_none T.d_ways_of T.g_ways_of (fun _ _ _ _ _ _ us hl => match us, hl with | [_], _ => rfl) fun vs H Q E ⟨_, _, _, _, h, _⟩ => absurd h (Nat.not_lt_zero _)
  | n + 1 => by
    have G := ok_waysN T n
    refine df0 T.d_ways_of T.g_ways_of sc_ways_of (fun _ _ _ _ _ _ us hl => match us, hl with | [_], _ => rfl) (fun vs H Q E h => ?_) (fun cdv A outer s H vs Q E hr h => ?_)
    · obtain ⟨v, k, rfl, _⟩ := h
      rfl
    obtain ⟨v, k, rfl, hk, hn, hl, q⟩ := h
    have kd := k.depth_lt
    refine ⟨_, pss_cons (ps_if (pt_cmpR (op_eqK hr.u) (pv 0) (pe_glob (v := .ref (He.ga K "ONE")) rfl T.i_ONE rfl) (nomark _)) (pss_one (ps_ret (pe_lst pa_nil))) pss_nil)
      (pss_cons (ps_if (pt_tag (pv 0) mono_var) (pss_one (ps_ret (pe_lst (pa_cons (pe_tup (pa_cons (pe_lst pa_nil) (pa_cons (pv_at 0 1) pa_nil))) pa_nil)))) pss_nil)
      (pss_cons (ps_if (pt_tag (pv 0) mono_var) (pss_one (ps_ret
        (pe_lc (own := [("moves", 2), ("mark", 3)]) (g := gTup K 2 (gCons (gName 2) (gCons (gName 3) gNil))) (tt := tYes) (te := tTup (tCons (tOp rCat (tLst (tCons (tAt K (tVar 0) 1) tNil)) (tVar 2)) (tCons (tVar 3) tNil))) rfl sc_ways_of.nd (pi_list (cal G hr pass0 (pa_cons (pv_at 0 2) pa_nil))) (blkOk_by (own := [("moves", 2), ("mark", 3)]) (N := ["kind", "found", "moves", "mark"]) (sc := defScope s_ways_of) (by decide +kernel))
        (fun _ _ _ _ _ => pg_tup rfl (pgs_cons (pg_name (i := 2) sc_ways_of.nd rfl (Or.inl rfl)) (pgs_cons (pg_name (i := 3) sc_ways_of.nd rfl (Or.inl rfl)) pgs_nil)))
        (fun _ _ _ _ _ => pts_nil)
        (fun _ _ _ _ _ => pe_tup (pa_cons (pe_op op_cat (pe_lst (pa_cons (pv_at 0 1) pa_nil)) (pv 2)) (pa_cons (pv 3) pa_nil)))))) pss_nil)
      (pss_cons (ps_setLc (i := 1) (own := [("moves", 2), ("mark", 3)]) (g := gTup K 2 (gCons (gName 2) (gCons (gName 3) gNil))) (tt := tYes) (te := tTup (tCons (tOp rCat (tLst (tCons (tC (.int 1)) tNil)) (tVar 2)) (tCons (tVar 3) tNil))) rfl sc_ways_of.nd rfl rfl (sw_true rfl rfl rfl (by decide +kernel)) (pi_list (cal G hr pass0 (pa_cons (pv_at 0 1) pa_nil))) (blkOk_by (own := [("moves", 2), ("mark", 3)]) (N := ["kind", "found", "moves", "mark"]) (sc := defScope s_ways_of) (by decide +kernel))
        (fun _ _ _ _ _ => pg_tup rfl (pgs_cons (pg_name (i := 2) sc_ways_of.nd rfl (Or.inl rfl)) (pgs_cons (pg_name (i := 3) sc_ways_of.nd rfl (Or.inl rfl)) pgs_nil)))
        (fun _ _ _ _ _ => pts_nil)
        (fun _ _ _ _ _ => pe_tup (pa_cons (pe_op op_cat (pe_lst (pa_cons pe_int pa_nil)) (pv 2)) (pa_cons (pv 3) pa_nil))))
      (pss_one (ps_ret (pe_op op_cat (pv 1)
        (pe_lc (own := [("moves", 2), ("mark", 3)]) (g := gTup K 2 (gCons (gName 2) (gCons (gName 3) gNil))) (tt := tYes) (te := tTup (tCons (tOp rCat (tLst (tCons (tC (.int 2)) tNil)) (tVar 2)) (tCons (tVar 3) tNil))) rfl sc_ways_of.nd (pi_list (cal G hr pass0 (pa_cons (pv_at 0 2) pa_nil))) (blkOk_by (own := [("moves", 2), ("mark", 3)]) (N := ["kind", "found", "moves", "mark"]) (sc := defScope s_ways_of) (by decide +kernel))
        (fun _ _ _ _ _ => pg_tup rfl (pgs_cons (pg_name (i := 2) sc_ways_of.nd rfl (Or.inl rfl)) (pgs_cons (pg_name (i := 3) sc_ways_of.nd rfl (Or.inl rfl)) pgs_nil)))
        (fun _ _ _ _ _ => pts_nil)
        (fun _ _ _ _ _ => pe_tup (pa_cons (pe_op op_cat (pe_lst (pa_cons pe_int pa_nil)) (pv 2)) (pa_cons (pv 3) pa_nil)))))))))), ?_⟩
    refine ⟨_, rfl, k, .one, hk, one_at T H, by show min k.depth 0 ≤ 300; omega, _, rfl, ?_⟩
    cases k with
    | one => exact ifT rfl ⟨sz0, fun p hp => q.laid (.refl H) hp fun _ _ => trivial⟩
    | mark m =>
      obtain ⟨a, rfl, t⟩ := hk
      refine ifF rfl ⟨_, rfl, a, _, _, rfl, t, ifT (by decide +kernel) ⟨sz0, fun p hp => ⟨_, rfl, a, _, _, rfl, (same_new hp _).tup t, rfl, sz2, fun p2 hp2 => ⟨sz1, fun p3 hp3 => ?_⟩⟩⟩⟩
      have s1 := same_new hp (.lst [])
      have s2 := same_new hp2 (.tup [.ref p, .str (mstr m)])
      exact q.laid (s1.trans s2) hp3 fun H'' x => ⟨⟨p2, .ref p, rfl, x.tup (s1.trans s2) (SqT.of upd_same), p, [], rfl, hp, x.lst hp (s2 _ _ upd_same), trivial⟩, trivial⟩
    | to c d =>
      obtain ⟨a, y, z, rfl, t, hy, hz⟩ := hk
      have hn' : 1 + max c.depth d.depth < n + 1 := hn
      have hl' : c.leaves + d.leaves ≤ 300 := hl
      have := waysOf_le d
      have := d.depth_lt
      refine ifF rfl ⟨_, rfl, a, _, _, rfl, t, ifF (by decide +kernel) ⟨_, rfl, a, _, _, rfl, t, ifT (by decide +kernel) ⟨_, rfl, a, _, _, rfl, t, rfl, z, d, rfl, hz, by omega, by omega, fun b1 l1 H1 s1 n1 g1 r1 => ?_⟩⟩⟩
      refine ⟨b1, rfl, ⟨_, .of g1⟩, fun D hD => ways_comp (c := .kd c) s1 g1 r1 rfl (by omega) (fun e he => by have := waysOf_in d e he; omega) hD (fun σ' H2 Q2 eσ s2 q2 => ?_) fun H2 ys s2 gD rD => ?_⟩
      · exact ⟨.ref a, eσ, a, _, y, rfl, s2.tup (s1.tup t), rfl, q2 y fun H3 ts => (hy.same (s1.trans s2)).ts ts⟩
      · exact q D ys H2 (s1.trans s2) (s1.free hD) gD fun H'' x => rD H'' (x.later s1 s2)
    | both c d =>
      obtain ⟨a, y, z, rfl, t, hy, hz⟩ := hk
      have hn' : 1 + max c.depth d.depth < n + 1 := hn
      have hl' : c.leaves + d.leaves ≤ 300 := hl
      have := waysOf_le c
      have := waysOf_le d
      have := c.depth_lt
      have := d.depth_lt
      refine ifF rfl ⟨_, rfl, a, _, _, rfl, t, ifF (by decide +kernel) ⟨_, rfl, a, _, _, rfl, t, ifF (by decide +kernel) ⟨_, rfl, a, _, _, rfl, t, rfl, y, c, rfl, hy, by omega, by omega, fun b1 l1 H1 s1 n1 g1 r1 => ?_⟩⟩⟩
      refine ⟨b1, rfl, ⟨_, .of g1⟩, fun D hD => ways_comp (c := .one) s1 g1 r1 rfl (by omega) (fun e he => by have := waysOf_in c e he; omega) hD (fun σ' H2 Q2 eσ s2 q2 => q2 _ fun _ _ => rfl) fun H2 ys s2 gD rD => ?_⟩
      have s12 := s1.trans s2
      refine ⟨_, rfl, ?_⟩
      refine ⟨_, rfl, a, _, _, rfl, s12.tup t, rfl, z, d, rfl, hz.same s12, by omega, by omega, fun b3 l3 H3 s3 n3 g3 r3 => ?_⟩
      refine ⟨b3, rfl, ⟨_, .of g3⟩, fun D' hD' => ways_comp (c := .two) s3 g3 r3 rfl (by omega) (fun e he => by have := waysOf_in d e he; omega) hD' (fun σ' H4 Q2 eσ s4 q2 => q2 _ fun _ _ => rfl) fun H4 ys' s4 gD' rD' => ?_⟩
      have k1 := (rD H2 (.self s2)).length
      have k2 := (rD' H4 (.self s4)).length
      rw [List.length_map] at k1 k2
      refine ⟨D, D', _, _, rfl, rfl, s4 _ _ (s3 _ _ gD), gD', small (by omega), fun p hp => q.laid (s12.trans (s3.trans s4)) hp fun H'' x => ?_⟩
      exact (rD H'' ((x.later s1 (s2.trans (s3.trans s4))).less (s3.trans s4))).append ((rD' H'' (x.later (s12.trans s3) s4)).imp fun _ _ h => h.less s12)
def spWays (K : PySem.W.Frag) (n : Nat) : Sp := fun vs H Q _ => ∃ v k, vs = [v] ∧ KdAt K H k v ∧ k.depth < n ∧ k.leaves ≤ 300 ∧ RtL K H Q (WyAt K) (waysOf k)
theorem ok_ways (T : Tx w K mg) (n : Nat) : Df P w K mg base CX0 n "ways_of" ["kind"] [] (spWays K n) :=
  (ok_waysN T n).imp fun vs H Q E ⟨v, k, e, h1, h2, h3, r⟩ => ⟨v, k, e, h1, h2, h3, fun a vs H1 s n g h => r a vs H1 s n g fun H'' x => (h H'' x).imp fun _ _ z => z.at⟩
end
end KF

set_option Elab.async false
set_option linter.all false
set_option maxRecDepth 100000
set_option maxHeartbeats 4000000
namespace KF
open PySem PySem.Spec L2 TL
/-! ### the texts of kinds -/
def shown : Kd → Str
  | .one => "1"
  | .mark m => mstr m
  | .to a b => ((((("( " : Str) ++ shown a) ++ " ") ++ "->") ++ " ") ++ shown b ++ " )"
  | .both a b => ((((("( " : Str) ++ shown a) ++ " ") ++ "*") ++ " ") ++ shown b ++ " )"
def toks : Kd → List Str
  | .one => [("1" : Str)]
  | .mark m => [mstr m]
  | .to a b => ("(" : Str) :: (toks a ++ ("->" : Str) :: (toks b ++ [(")" : Str)]))
  | .both a b => ("(" : Str) :: (toks a ++ ("*" : Str) :: (toks b ++ [(")" : Str)]))
theorem len_app (a b : Str) : (a ++ b).length = a.length + b.length := Str.length_append a b
theorem len_lit (s : String) : (Str.ofString s).length = s.toList.length := by rw [len_tl, tl_lit, List.length_map]
theorem mstr_len (m : Bool) : (mstr m).length = 1 := by cases m <;> decide +kernel
theorem shown_len (k : Kd) : (shown k).length + 8 ≤ 9 * k.leaves := by
  induction k with
  | one => rw [shown, len_lit]; decide
  | mark m => rw [shown, mstr_len]; exact Nat.le_refl 9
  | to a b h h' =>
    rw [shown]
    simp only [len_app, len_lit]
    show 2 + _ + 1 + 2 + 1 + _ + 2 + 8 ≤ 9 * (a.leaves + b.leaves)
    omega
  | both a b h h' =>
    rw [shown]
    simp only [len_app, len_lit]
    show 2 + _ + 1 + 1 + 1 + _ + 2 + 8 ≤ 9 * (a.leaves + b.leaves)
    omega
section
variable {X : Cx} {o e : Expr} {apos cpos : Pos} {ty : TE} {d : Addr} {es : Array DictEntry} {n : Nat}
/-- d.get(y) of a written dict with text keys -/
def tKGet (K : PySem.W.Frag) (d : Addr) (ty : TE) : TE := fun σ H Q => ty σ H fun y H1 => ∃ (z : Str) (u0 : Value) (v0 : V), y = .str z ∧ PySem.W.nsIn K d z = some (some u0) ∧ RelV v0 u0 ∧ Q v0 H1
theorem pe_kget (D : KDict X.K X.w d es n) (ho : PE X o (tC (.ref d))) (he : PE X e ty) (m : M1 X o "get" apos e cpos) : PE X (.Call (.Attribute o "get" apos) [e] [] cpos) (tKGet X.K d ty) := by
  refine ⟨fun pins s σ H Q I h => ?_⟩
  refine wpAny_Call_method m.base m.few m.line PySem.F.plainAttrs_dict PySem.F.slot_dict_get PySem.F.type_dict_get (thn (ho.run pins s σ H (fun x H1 => x = .ref d ∧ H1 = H) I ⟨rfl, rfl⟩) fun u s1 got => ?_)
  obtain ⟨x, H1, I1, rx, rfl, rfl⟩ := got
  obtain rfl : u = Value.ref d := rx
  refine ⟨kd_type D I1, fun a ea => ?_, ?_⟩
  · cases ea
    exact ⟨_, I1.kIn _ _ D.at_, rfl⟩
  rw [m.trees]
  refine Calls.callWith_builtin rfl (Calls.evalArgs_plain (Calls.spliced_cons (thn (he.run pins s1 σ _ _ I1 h) fun iv s2 got2 => Calls.spliced_nil ?_)))
  obtain ⟨y, H2, I2, ry, z, u0, v0, rfl, e0, r0, q⟩ := got2
  obtain ⟨t, rfl⟩ := ry
  refine call_meetsIn PySem.F.slot_dict_get (kd_type D I2) PySem.F.entry_dict_get (PySem.F.args_dict_get_2 _ _) (meets_dict_get (strKind X.prog X.w) d (strKind_is X.prog X.w z t) D.low) ⟨_, PySem.W.mapOf_K (prog := X.prog) I2.kIn D.at_ D.lit, ?_⟩
  rw [PySem.W.find_K D.at_ e0]
  exact ⟨v0, H2, I2.tok _, r0, q⟩
end
section
variable {P : Program} {w : World} {K : PySem.W.Frag} {mg : Str → Option Value} {base : Heap}
/-! ### is_mark -/
def spIsMark (K : PySem.W.Frag) : Sp := fun vs H Q _ => ∃ t : Str, vs = [.str t] ∧ ((∃ m, t = mstr m ∧ Q (.bl true) H) ∨ (t = "(" ∧ Q (.bl false) H))
theorem one_sign {c : Nat} {z : Str} (h : tl z = [c]) : z = ⟨#[c]⟩ := ext_tl h
theorem ok_isMark (T : Tx w K mg) : Df P w K mg base CX0 1 "is_mark" ["text"] [] (spIsMark K) := by
  refine df0 T.d_is_mark T.g_is_mark sc_is_mark (fun _ _ _ _ _ _ us hl => match us, hl with | [_], _ => rfl) (fun vs H Q E h => ?_) (fun cdv A outer s H vs Q E hr h => ?_)
  · obtain ⟨v, rfl, _⟩ := h
    rfl
  obtain ⟨t, rfl, q⟩ := h
  obtain ⟨tL, gL⟩ := T.i_LETTERS
  obtain ⟨tN, gN⟩ := T.i_LONGEST
  refine ⟨_, pss_cons (ps_for PassesOwn.never rfl (pi_str (pv 0)) (pg_name (i := 1) sc_is_mark.nd rfl (Or.inl rfl))
      (pss_one (ps_if (pt_cmpR op_notIn_sign (pv 1) (pe_glob (v := .str "abcdefghijklmnopqrstuvwxyz") rfl gL ⟨_, rfl⟩) rfl) (pss_one (ps_ret pe_bl)) pss_nil)))
    (pss_one (ps_ret (pe_chain op_le op_le pe_int (pe_callB call_len_str rfl T.n_len PySem.boot_len (pa_cons (pv 0) pa_nil)) (pe_glob (v := .int 6) rfl gN ⟨_, rfl⟩)))), ?_⟩
  have one : ∃ c, t = ⟨#[c]⟩ ∧ ((c ∈ (Str.ofString "abcdefghijklmnopqrstuvwxyz").cps.toList ∧ Q (.bl true) H) ∨ (c ∉ (Str.ofString "abcdefghijklmnopqrstuvwxyz").cps.toList ∧ Q (.bl false) H)) := by
    rcases q with ⟨m, rfl, q⟩ | ⟨rfl, q⟩
    · cases m
      · exact ⟨97, one_sign (tl_lit "a"), .inl ⟨by decide +kernel, q⟩⟩
      · exact ⟨98, one_sign (tl_lit "b"), .inl ⟨by decide +kernel, q⟩⟩
    · exact ⟨40, one_sign (tl_lit "("), .inr ⟨by decide +kernel, q⟩⟩
  clear q
  obtain ⟨c, rfl, q⟩ := one
  refine ⟨_, rfl, _, rfl, for_it walk_str (fun i σ H' => H' = H ∧ σ[0]? = some (some (.str ⟨#[c]⟩)) ∧ (0 < i → c ∈ (Str.ofString "abcdefghijklmnopqrstuvwxyz").cps.toList) ∧ ∃ z, σ = [some (.str ⟨#[c]⟩), z]) ⟨rfl, rfl, fun h => absurd h (Nat.lt_irrefl 0), _, rfl⟩ (fun _ _ _ _ _ => trivial) ?_ ?_⟩
  · rintro i x σ H1 H2 hi ⟨rfl, _, _, z, rfl⟩ ⟨rfl, c', hc', rfl⟩
    have hi' : i < 1 := hi
    obtain rfl : i = 0 := by omega
    obtain rfl : c = c' := by simpa using hc'
    refine ⟨_, rfl, c, _, rfl, rfl, _, rfl, ?_⟩
    rcases q with ⟨m, q⟩ | ⟨m, q⟩
    · exact ifF (by rw [decide_eq_true m]; rfl) ⟨rfl, rfl, fun _ => m, _, rfl⟩
    · exact ifT (by rw [decide_eq_false m]; rfl) q
  · rintro σ H1 ⟨rfl, _, m, z, rfl⟩
    have m := m (by show 0 < 1; decide)
    rcases q with ⟨_, q⟩ | ⟨m', _⟩
    · exact ⟨_, rfl, _, rfl, by show 1 ≤ sizeLine; decide, _, _, rfl, rfl, true, rfl, ifT rfl ⟨_, _, rfl, rfl, q⟩⟩
    · exact absurd m m'
/-! ### shown_kind -/
def spShown (K : PySem.W.Frag) (n : Nat) : Sp := fun vs H Q _ => ∃ v k, vs = [v] ∧ KdAt K H k v ∧ k.depth < n ∧ k.leaves ≤ 300 ∧ Q (.str (shown k)) H
theorem szl {n : Nat} (h : n ≤ 1000000) : n ≤ sizeLine := small h
theorem ok_shown (T : Tx w K mg) : ∀ n, Df P w K mg base CX0 n "shown_kind" ["kind"] [] (spShown K n)
  | 0 => df_none T.d_shown_kind T.g_shown_kind (fun _ _ _ _ _ _ us hl => match us, hl with | [_], _ => rfl) fun vs H Q E ⟨_, _, _, _, h, _⟩ => absurd h (Nat.not_lt_zero _)
  | n + 1 => by
    have G := ok_shown T n
    refine df0 T.d_shown_kind T.g_shown_kind sc_shown_kind (fun _ _ _ _ _ _ us hl => match us, hl with | [_], _ => rfl) (fun vs H Q E h => ?_) (fun cdv A outer s H vs Q E hr h => ?_)
    · obtain ⟨v, k, rfl, _⟩ := h
      rfl
    obtain ⟨v, k, rfl, hk, hn, hl, q⟩ := h
    have kd := k.depth_lt
    refine ⟨_, pss_cons (ps_if (pt_cmpR (op_eqK hr.u) (pv 0) (pe_glob (v := .ref (He.ga K "ONE")) rfl T.i_ONE rfl) (nomark _)) (pss_one (ps_ret pe_str)) pss_nil)
      (pss_cons (ps_if (pt_tag (pv 0) mono_var) (pss_one (ps_ret (pv_at 0 1))) pss_nil)
      (pss_cons (ps_set (i := 1) sc_shown_kind.nd rfl (.inl rfl) pe_str)
      (pss_cons (ps_if (pt_tag (pv 0) mono_var) (pss_one (ps_set (i := 1) sc_shown_kind.nd rfl (.inl rfl) pe_str)) pss_nil)
      (pss_one (ps_ret (pe_op op_add_str (pe_op op_add_str (pe_op op_add_str (pe_op op_add_str (pe_op op_add_str (pe_op op_add_str pe_str (cal G hr pass0 (pa_cons (pv_at 0 1) pa_nil))) pe_str) (pv 1)) pe_str) (cal G hr pass0 (pa_cons (pv_at 0 2) pa_nil))) pe_str)))))), ?_⟩
    refine ⟨_, rfl, k, .one, hk, one_at T H, by show min k.depth 0 ≤ 300; omega, _, rfl, ?_⟩
    cases k with
    | one => exact ifT rfl q
    | mark m =>
      obtain ⟨a, rfl, t⟩ := hk
      exact ifF rfl ⟨_, rfl, a, _, _, rfl, t, ifT (by decide +kernel) ⟨_, rfl, a, _, _, rfl, t, rfl, q⟩⟩
    | to c d =>
      obtain ⟨a, y, z, rfl, t, hy, hz⟩ := hk
      have hn' : 1 + max c.depth d.depth < n + 1 := hn
      have hl' : c.leaves + d.leaves ≤ 300 := hl
      have lc := shown_len c
      have ld := shown_len d
      refine ifF rfl ⟨_, rfl, a, _, _, rfl, t, ifF (by decide +kernel) ⟨_, rfl, a, _, _, rfl, t, ifF (by decide +kernel) ?_⟩⟩
      refine ⟨_, rfl, a, _, _, rfl, t, rfl, y, c, rfl, hy, by omega, by omega, ?_⟩
      refine ⟨_, _, rfl, rfl, szl ?_, _, _, rfl, rfl, szl ?_, _, rfl, _, _, rfl, rfl, szl ?_, _, _, rfl, rfl, szl ?_, ?_⟩
      case refine_5 => exact ⟨_, rfl, a, _, _, rfl, t, rfl, z, d, rfl, hz, by omega, by omega, _, _, rfl, rfl, szl (by simp only [len_app, len_lit]; show 2 + _ + 1 + 2 + 1 + _ ≤ _; omega), _, _, rfl, rfl, szl (by simp only [len_app, len_lit]; show 2 + _ + 1 + 2 + 1 + _ + 2 ≤ _; omega), q⟩
      all_goals (simp only [len_app, len_lit]; first | (show 2 + _ ≤ _; omega) | (show 2 + _ + 1 ≤ _; omega) | (show 2 + _ + 1 + 2 ≤ _; omega) | (show 2 + _ + 1 + 2 + 1 ≤ _; omega))
    | both c d =>
      obtain ⟨a, y, z, rfl, t, hy, hz⟩ := hk
      have hn' : 1 + max c.depth d.depth < n + 1 := hn
      have hl' : c.leaves + d.leaves ≤ 300 := hl
      have lc := shown_len c
      have ld := shown_len d
      refine ifF rfl ⟨_, rfl, a, _, _, rfl, t, ifF (by decide +kernel) ⟨_, rfl, a, _, _, rfl, t, ifT (by decide +kernel) ?_⟩⟩
      refine ⟨_, rfl, a, _, _, rfl, t, rfl, y, c, rfl, hy, by omega, by omega, ?_⟩
      refine ⟨_, _, rfl, rfl, szl ?_, _, _, rfl, rfl, szl ?_, _, rfl, _, _, rfl, rfl, szl ?_, _, _, rfl, rfl, szl ?_, ?_⟩
      case refine_5 => exact ⟨_, rfl, a, _, _, rfl, t, rfl, z, d, rfl, hz, by omega, by omega, _, _, rfl, rfl, szl (by simp only [len_app, len_lit]; show 2 + _ + 1 + 1 + 1 + _ ≤ _; omega), _, _, rfl, rfl, szl (by simp only [len_app, len_lit]; show 2 + _ + 1 + 1 + 1 + _ + 2 ≤ _; omega), q⟩
      all_goals (simp only [len_app, len_lit]; first | (show 2 + _ ≤ _; omega) | (show 2 + _ + 1 ≤ _; omega) | (show 2 + _ + 1 + 1 ≤ _; omega) | (show 2 + _ + 1 + 1 + 1 ≤ _; omega))
end
end KF

set_option Elab.async false
set_option linter.all false
set_option maxRecDepth 100000
set_option maxHeartbeats 4000000
namespace KF
open PySem PySem.Spec L2 TL
/-! ### the texts of kinds, word by word -/
theorem toks_ne (k : Kd) : toks k ≠ [] := by cases k <;> simp [toks]
theorem joinL_cons (S p : List Nat) {r : List (List Nat)} (h : r ≠ []) : joinL S (p :: r) = p ++ (S ++ joinL S r) := by
  cases r with
  | nil => exact absurd rfl h
  | cons q r => rfl
theorem joinL_app (S : List Nat) : ∀ {l m : List (List Nat)}, l ≠ [] → m ≠ [] → joinL S (l ++ m) = joinL S l ++ (S ++ joinL S m)
  | [], _, h, _ => absurd rfl h
  | [p], m, _, hm => joinL_cons S p hm
  | p :: q :: r, m, _, hm => by
    rw [List.cons_append, joinL_cons S p (by simp), joinL_app S (l := q :: r) (by simp) hm, joinL_cons S p (r := q :: r) (by simp)]
    simp only [List.append_assoc]
theorem shown_join (k : Kd) : tl (shown k) = joinL [32] ((toks k).map tl) := by
  have e1 : tl (Str.ofString "( ") = tl (Str.ofString "(") ++ [32] := by rw [tl_lit, tl_lit]; rfl
  have e2 : tl (Str.ofString " )") = [32] ++ tl (Str.ofString ")") := by rw [tl_lit, tl_lit]; rfl
  have e3 : tl (Str.ofString " ") = [32] := by rw [tl_lit]; rfl
  induction k with
  | one => rfl
  | mark m => rfl
  | to a b h h' =>
    have na : (toks a).map tl ≠ [] := fun z => toks_ne a (List.map_eq_nil_iff.mp z)
    have nb : (toks b).map tl ≠ [] := fun z => toks_ne b (List.map_eq_nil_iff.mp z)
    rw [shown, toks]
    simp only [tl_append, h, h', e1, e2, e3, List.map_cons, List.map_append, List.map_nil]
    rw [joinL_cons _ _ (by simp), joinL_app _ na (by simp), joinL_cons _ _ (by simp), joinL_app _ nb (by simp)]
    simp only [List.append_assoc, joinL]
  | both a b h h' =>
    have na : (toks a).map tl ≠ [] := fun z => toks_ne a (List.map_eq_nil_iff.mp z)
    have nb : (toks b).map tl ≠ [] := fun z => toks_ne b (List.map_eq_nil_iff.mp z)
    rw [shown, toks]
    simp only [tl_append, h, h', e1, e2, e3, List.map_cons, List.map_append, List.map_nil]
    rw [joinL_cons _ _ (by simp), joinL_app _ na (by simp), joinL_cons _ _ (by simp), joinL_app _ nb (by simp)]
    simp only [List.append_assoc, joinL]
def tokSet : List Str := ["1", "a", "b", "(", "->", "*", ")"]
theorem toks_in (k : Kd) : ∀ t ∈ toks k, t ∈ tokSet := by
  induction k with
  | one => intro t h; simp [toks] at h; subst h; decide +kernel
  | mark m => intro t h; simp [toks] at h; subst h; cases m <;> decide +kernel
  | to a b h h' =>
    intro t ht
    simp [toks] at ht
    rcases ht with rfl | ht | rfl | ht | rfl
    · decide +kernel
    · exact h t ht
    · decide +kernel
    · exact h' t ht
    · decide +kernel
  | both a b h h' =>
    intro t ht
    simp [toks] at ht
    rcases ht with rfl | ht | rfl | ht | rfl
    · decide +kernel
    · exact h t ht
    · decide +kernel
    · exact h' t ht
    · decide +kernel
theorem tokSet_free : ∀ t ∈ tokSet, 32 ∉ tl t := by decide +kernel
theorem split_shown (k : Kd) : Txt.split (shown k) " " = toks k := by
  have e : shown k = Txt.join " " (toks k) := ext_tl (by rw [join_eq, tl_join, shown_join, tl_lit]; rfl)
  rw [e]
  exact split_join (y := " ") (s := 32) (S := []) (by rw [tl_lit]; rfl) (by decide +kernel) (toks_ne k) fun p hp => tokSet_free p (toks_in k p hp)
theorem toks_len (k : Kd) : (toks k).length + 3 ≤ 4 * k.leaves := by
  induction k with
  | one => decide
  | mark m => exact Nat.le_refl 4
  | to a b h h' => simp only [toks, List.length_cons, List.length_append, List.length_nil]; show _ ≤ 4 * (a.leaves + b.leaves); omega
  | both a b h h' => simp only [toks, List.length_cons, List.length_append, List.length_nil]; show _ ≤ 4 * (a.leaves + b.leaves); omega
theorem sqt_ty {K : PySem.W.Frag} {H : Hp} {a : Addr} {xs : List V} (h : SqT K H a xs) : TyX K H (.ref a) (.type "tuple") := by
  rcases h with (h | ⟨o, h⟩) | ⟨o, its, n, h, c, _⟩
  · exact .base (.tup h)
  · exact .fTuple h
  · exact .kTuple h c
theorem drop_get {α : Type} {l r : List α} {i : Nat} {x : α} (h : l.drop i = x :: r) : l[i]? = some x := by
  have : (l.drop i)[0]? = some x := by rw [h]; rfl
  rwa [List.getElem?_drop, Nat.add_zero] at this
theorem drop_more {α : Type} {l m r : List α} {i : Nat} (h : l.drop i = m ++ r) : l.drop (i + m.length) = r := by
  rw [← List.drop_drop, h, List.drop_left]
section
variable {P : Program} {w : World} {K : PySem.W.Frag} {mg : Str → Option Value} {base : Heap}
/-! ### word_at -/
def spWordAt (K : PySem.W.Frag) : Sp := fun vs H Q _ => ∃ (a : Addr) (ws : List Str) (i : Nat) (x : Str), vs = [.ref a, .int i] ∧ SqL K H a (ws.map V.str) ∧ ws[i]? = some x ∧ Q (.str x) H
theorem ok_wordAt (T : Tx w K mg) : Df P w K mg base CX0 1 "word_at" ["words", "at"] [] (spWordAt K) := by
  refine df0 T.d_word_at T.g_word_at sc_word_at (fun _ _ _ _ _ _ us hl => match us, hl with | [_, _], _ => rfl) (fun vs H Q E h => ?_) (fun cdv A outer s H vs Q E hr h => ?_)
  · obtain ⟨a, ws, i, x, rfl, _⟩ := h
    rfl
  obtain ⟨a, ws, i, x, rfl, hw, hx, q⟩ := h
  refine ⟨_, pss_cons (ps_if (pt_cmpR op_lt (pv 1) (pe_callB call_len_seq rfl T.n_len PySem.boot_len (pa_cons (pv 0) pa_nil)) (nomark _)) (pss_one (ps_ret (pe_ix ix_list (pv 0) (pv 1) (fun _ _ => rfl)))) pss_nil) (pss_one (ps_ret pe_str)), ?_⟩
  have hi : i < ws.length := (List.getElem?_eq_some_iff.mp hx).1
  refine ⟨_, rfl, _, rfl, a, _, rfl, .inl hw, _, _, rfl, rfl, _, rfl, ifT (decide_eq_true ?_) ⟨_, rfl, _, rfl, a, _, _, _, rfl, rfl, hw, atI_nat (by rw [List.getElem?_map, hx]; rfl), q⟩⟩
  rw [List.length_map]
  exact Int.ofNat_lt.mpr hi
/-! ### kind_from -/
def spKindFrom (K : PySem.W.Frag) (n : Nat) : Sp := fun vs H Q _ => ∃ (a : Addr) (ws : List Str) (i : Nat) (r : Int) (k : Kd) (rest : List Str), vs = [.ref a, .int i, .int r] ∧ H a = some (.lst (ws.map V.str)) ∧ ws.drop i = toks k ++ rest ∧ (k.depth : Int) ≤ r ∧ k.depth < n ∧
  ∀ t y H', Same H H' → SqT K H' t [y, .int ((i + (toks k).length : Nat) : Int)] → KdAt K H' k y → Q (.ref t) H'
theorem str_ne {a b : Str} (h : decide (a = b) = false) : decide (V.str a = V.str b) = false := by rw [dec_str]; exact h
theorem str_eq {a : Str} : decide (V.str a = V.str a) = true := decide_eq_true rfl
theorem mstr_ne1 (m : Bool) : decide (mstr m = Str.ofString "1") = false := by cases m <;> decide +kernel
theorem ok_kindFrom (T : Tx w K mg) : ∀ n, Df P w K mg base CX0 (n + 1) "kind_from" ["words", "at", "room"] [] (spKindFrom K n)
  | 0 => df_none T.d_kind_from T.g_kind_from (fun _ _ _ _ _ _ us hl => match us, hl with | [_, _, _], _ => rfl) fun vs H Q E ⟨_, _, _, _, _, _, _, _, _, _, h, _⟩ => absurd h (Nat.not_lt_zero _)
  | n + 1 => by
    have G := ok_kindFrom T n
    have GW := (ok_wordAt (P := P) (base := base) T).mono (show 1 ≤ n + 1 by omega)
    have GM := (ok_isMark (P := P) (base := base) T).mono (show 1 ≤ n + 1 by omega)
    obtain ⟨es, nn, DS⟩ := T.D_SIGNS
    refine df0 T.d_kind_from T.g_kind_from sc_kind_from (fun _ _ _ _ _ _ us hl => match us, hl with | [_, _, _], _ => rfl) (fun vs H Q E h => ?_) (fun cdv A outer s H vs Q E hr h => ?_)
    · obtain ⟨a, ws, i, r, k, rest, rfl, _⟩ := h
      rfl
    obtain ⟨a, ws, i, r, k, rest, rfl, hw, hd, hk, hn, q⟩ := h
    refine ⟨_, (pss_cons (ps_set (i := 3) sc_kind_from.nd rfl (.inl rfl) (cal GW hr pass0 (pa_cons (pv 0) (pa_cons (pv 1) pa_nil)))) (pss_cons (ps_if (pt_cmpR op_eq (pv 3) pe_str (nomark _)) (pss_one (ps_ret (pe_tup (pa_cons (pe_glob (v := .ref (He.ga K "ONE")) rfl T.i_ONE rfl) (pa_cons (pe_op op_add (pv 1) pe_int) pa_nil))))) pss_nil) (pss_cons (ps_if (pt_val (cal GM hr pass0 (pa_cons (pv 3) pa_nil))) (pss_one (ps_ret (pe_tup (pa_cons (pe_tup (pa_cons pe_str (pa_cons (pv 3) pa_nil))) (pa_cons (pe_op op_add (pv 1) pe_int) pa_nil))))) pss_nil) (pss_cons (ps_if (PW.pt (pw_or (pt_cmpR op_ne (pv 3) pe_str (nomark _)) (pw_or1 (pt_cmpR op_eq (pv 2) pe_int (nomark _))))) (pss_one (ps_ret (pe_tup (pa_cons pe_non (pa_cons (pv 1) pa_nil))))) pss_nil) (pss_cons (ps_asg (cal G hr pass0 (pa_cons (pv 0) (pa_cons (pe_op op_add (pv 1) pe_int) (pa_cons (pe_op op_sub (pv 2) pe_int) pa_nil)))) (pg_tup rfl (pgs_cons (pg_name (i := 4) sc_kind_from.nd rfl (.inl rfl)) (pgs_cons (pg_name (i := 1) sc_kind_from.nd rfl (.inl rfl)) pgs_nil)))) (pss_cons (ps_set (i := 5) sc_kind_from.nd rfl (.inl rfl) (pe_kget DS (pe_glob (v := .ref (He.ga K "SIGNS")) rfl T.i_SIGNS rfl) (cal GW hr pass0 (pa_cons (pv 0) (pa_cons (pv 1) pa_nil))) ⟨rfl, rfl, rfl, rfl⟩)) (pss_cons (ps_if (PW.pt (pw_or (pt_cmp (pc_isN (pv 4))) (pw_or1 (pt_cmp (pc_isN (pv 5)))))) (pss_one (ps_ret (pe_tup (pa_cons pe_non (pa_cons (pv 1) pa_nil))))) pss_nil) (pss_cons (ps_asg (cal G hr pass0 (pa_cons (pv 0) (pa_cons (pe_op op_add (pv 1) pe_int) (pa_cons (pe_op op_sub (pv 2) pe_int) pa_nil)))) (pg_tup rfl (pgs_cons (pg_name (i := 6) sc_kind_from.nd rfl (.inl rfl)) (pgs_cons (pg_name (i := 1) sc_kind_from.nd rfl (.inl rfl)) pgs_nil)))) (pss_cons (ps_if (PW.pt (pw_or (pt_cmp (pc_isN (pv 6))) (pw_or1 (pt_cmpR op_ne (cal GW hr pass0 (pa_cons (pv 0) (pa_cons (pv 1) pa_nil))) pe_str (nomark _))))) (pss_one (ps_ret (pe_tup (pa_cons pe_non (pa_cons (pv 1) pa_nil))))) pss_nil) (pss_one (ps_ret (pe_tup (pa_cons (pe_tup (pa_cons (pv 5) (pa_cons (pv 4) (pa_cons (pv 6) pa_nil)))) (pa_cons (pe_op op_add (pv 1) pe_int) pa_nil)))))))))))))), ?_⟩
    have three : k = .one ∨ (∃ m, k = .mark m) ∨ ∃ (c d : Kd) (sg wd : Str), toks k = ("(" : Str) :: (toks c ++ sg :: (toks d ++ [(")" : Str)])) ∧ k.depth = 1 + max c.depth d.depth ∧ (∃ u, PySem.W.nsIn K (He.ga K "SIGNS") sg = some (some u) ∧ RelV (.str wd) u) ∧
        (∀ H' p x y, SqT K H' p [.str wd, x, y] → KdAt K H' c x → KdAt K H' d y → KdAt K H' k (.ref p)) := by
      cases k with
      | one => exact .inl rfl
      | mark m => exact .inr (.inl ⟨m, rfl⟩)
      | to c d => exact .inr (.inr ⟨c, d, "->", "to", rfl, rfl, T.v_SIGNS_to, fun H' p x y t hx hy => ⟨p, x, y, rfl, t, hx, hy⟩⟩)
      | both c d => exact .inr (.inr ⟨c, d, "*", "both", rfl, rfl, T.v_SIGNS_both, fun H' p x y t hx hy => ⟨p, x, y, rfl, t, hx, hy⟩⟩)
    rcases three with rfl | ⟨m, rfl⟩ | ⟨c, d, sg, wd, ht, hdp, hsg, hmk⟩
    · have w0 : ws[i]? = some ("1" : Str) := drop_get hd
      exact ⟨_, rfl, _, rfl, a, ws, i, _, rfl, .of hw, w0, _, rfl, rfl, _, rfl, ifT str_eq ⟨_, rfl, _, _, rfl, rfl, sz2, fun p hp => q p _ _ (same_new hp _) (.of upd_same) (one_at T _)⟩⟩
    · have w0 : ws[i]? = some (mstr m) := drop_get hd
      refine ⟨_, rfl, _, rfl, a, ws, i, _, rfl, .of hw, w0, _, rfl, rfl, _, rfl, ifF (str_ne (mstr_ne1 m)) ⟨_, rfl, _, rfl, .inl ⟨m, rfl, _, rfl, ifT rfl ⟨_, rfl, sz2, fun p hp => ⟨_, rfl, _, _, rfl, rfl, sz2, fun p2 hp2 => ?_⟩⟩⟩⟩⟩
      exact q p2 (.ref p) _ ((same_new hp _).trans (same_new hp2 _)) (.of upd_same) ⟨p, rfl, (same_new hp2 _).tup (.of upd_same)⟩
    · have w0 : ws[i]? = some ("(" : Str) := drop_get (by rw [hd, ht]; rfl)
      have d1 : ws.drop (i + 1) = toks c ++ (sg :: (toks d ++ [(")" : Str)]) ++ rest) := by
        have := drop_more (l := ws) (m := [("(" : Str)]) (r := (toks c ++ sg :: (toks d ++ [(")" : Str)])) ++ rest) (i := i) (by rw [hd, ht]; rfl)
        rw [show i + 1 = i + [("(" : Str)].length from rfl, this, List.append_assoc]
      have d2 := drop_more d1
      have w2 : ws[i + 1 + (toks c).length]? = some sg := drop_get (r := toks d ++ [(")" : Str)] ++ rest) (by rw [d2]; rfl)
      have d3 : ws.drop (i + 1 + (toks c).length + 1) = toks d ++ ([(")" : Str)] ++ rest) := by
        have := drop_more (l := ws) (m := [sg]) (r := toks d ++ [(")" : Str)] ++ rest) (i := i + 1 + (toks c).length) (by rw [d2]; rfl)
        rw [show i + 1 + (toks c).length + 1 = i + 1 + (toks c).length + [sg].length from rfl, this, List.append_assoc]
      have d4 := drop_more d3
      have w4 : ws[i + 1 + (toks c).length + 1 + (toks d).length]? = some (")" : Str) := drop_get (r := rest) (by rw [d4]; rfl)
      have em : i + (toks k).length = i + 1 + (toks c).length + 1 + (toks d).length + 1 := by
        rw [ht]
        simp only [List.length_cons, List.length_append, List.length_nil]
        omega
      obtain ⟨u, hu, ru⟩ := hsg
      refine ⟨_, rfl, _, rfl, a, ws, i, _, rfl, .of hw, w0, ?_⟩
      refine ⟨_, rfl, rfl, _, rfl, ifF (str_ne (by decide +kernel)) ?_⟩
      refine ⟨_, rfl, _, rfl, .inr ⟨rfl, _, rfl, ifF rfl ?_⟩⟩
      refine ⟨_, rfl, rfl, _, rfl, ifF (by rw [str_eq]; rfl) ⟨_, rfl, rfl, _, rfl, ifF (decide_eq_false fun z => ?_) ?_⟩⟩
      · have := V.int.inj z
        omega
      refine ⟨_, rfl, _, rfl, _, _, rfl, rfl, _, rfl, _, _, rfl, rfl, a, ws, i + 1, r - 1, c, _, rfl, hw, d1, by omega, by omega, fun t1 y1 H1 s1 ht1 hy1 => ?_⟩
      refine ⟨t1, _, rfl, ht1, rfl, _, _, rfl, _, _, rfl, rfl, ?_⟩
      have hw1 := s1 _ _ hw
      refine ⟨_, rfl, _, rfl, a, ws, _, sg, rfl, .of hw1, w2, _, _, _, rfl, hu, ru, ?_⟩
      obtain ⟨ay, ry⟩ : ∃ ay, y1 = .ref ay := by
        obtain ⟨b, _, e, _⟩ := hy1.tagged
        exact ⟨b, e⟩
      subst ry
      refine ⟨_, rfl, _, rfl, ifF rfl ⟨_, rfl, _, rfl, ifF rfl ?_⟩⟩
      refine ⟨_, rfl, _, rfl, _, _, rfl, rfl, _, rfl, _, _, rfl, rfl, a, ws, i + 1 + (toks c).length + 1, r - 1, d, _, rfl, hw1, d3, by omega, by omega, fun t2 y2 H2 s2 ht2 hy2 => ?_⟩
      refine ⟨t2, _, rfl, ht2, rfl, _, _, rfl, _, _, rfl, rfl, ?_⟩
      obtain ⟨bz, ry⟩ : ∃ b, y2 = .ref b := by
        obtain ⟨b, _, e, _⟩ := hy2.tagged
        exact ⟨b, e⟩
      subst ry
      refine ⟨_, rfl, _, rfl, ifF rfl ⟨_, rfl, _, rfl, a, ws, _, _, rfl, .of (s2 _ _ hw1), w4, rfl, _, rfl, ifF (by rw [str_eq]; rfl) ?_⟩⟩
      refine ⟨_, rfl, _, rfl, _, rfl, sz3, fun p hp => ⟨_, rfl, _, _, rfl, rfl, sz2, fun p2 hp2 => ?_⟩⟩
      have u1 := same_new hp (.tup [.str wd, .ref ay, .ref bz])
      have u2 := same_new hp2 (.tup [.ref p, .int ((i + 1 + (toks c).length + 1 + (toks d).length : Nat) + 1)])
      refine q p2 (.ref p) _ (s1.trans (s2.trans (u1.trans u2))) ?_ (hmk _ p _ _ (u2.tup (.of upd_same)) (hy1.same (s2.trans (u1.trans u2))) (hy2.same (u1.trans u2)))
      rw [em]
      exact .of upd_same
end
end KF

set_option Elab.async false
set_option linter.all false
set_option maxRecDepth 100000
set_option maxHeartbeats 4000000
namespace KF
open PySem PySem.Spec L2 TL
section
variable {P : Program} {w : World} {K : PySem.W.Frag} {mg : Str → Option Value} {base : Heap}
/-! ### has_form, is_kind, of kinds -/
def spHasForm (K : PySem.W.Frag) (n : Nat) : Sp := fun vs H Q _ => ∃ (v : V) (k : Kd) (r : Int), vs = [v, .int r] ∧ KdAt K H k v ∧ (k.depth : Int) ≤ r ∧ k.depth < n ∧ Ret H Q fun _ u => u = .bl true
theorem kit_tt : PySem.W.kitOne K (.type "tuple") (.type "tuple") = some true := kit_ty (by decide +kernel)
theorem kit_ss : PySem.W.kitOne K (.type "str") (.type "str") = some true := kit_ty (by decide +kernel)
theorem ok_hasForm (T : Tx w K mg) : ∀ n, Df P w K mg base CX0 (n + 1) "has_form" ["thing", "room"] [] (spHasForm K n)
  | 0 => df_none T.d_has_form T.g_has_form (fun _ _ _ _ _ _ us hl => match us, hl with | [_, _], _ => rfl) fun vs H Q E ⟨_, _, _, _, _, _, h, _⟩ => absurd h (Nat.not_lt_zero _)
  | n + 1 => by
    have G := ok_hasForm T n
    have GM := (ok_isMark (P := P) (base := base) T).mono (show 1 ≤ n + 1 by omega)
    refine df0 T.d_has_form T.g_has_form sc_has_form (fun _ _ _ _ _ _ us hl => match us, hl with | [_, _], _ => rfl) (fun vs H Q E h => ?_) (fun cdv A outer s H vs Q E hr h => ?_)
    · obtain ⟨v, k, r, rfl, _⟩ := h
      rfl
    obtain ⟨v, k, r, rfl, hk, hd, hn, q⟩ := h
    refine ⟨_, (pss_cons (ps_if (PW.pt (pw_or (pt_not (pt_val (pe_callB call_isi rfl T.n_isinstance (by decide +kernel) (pa_cons (pv 0) (pa_cons (pe_bltn (v := .ty "tuple") rfl T.n_tuple (by decide +kernel) rfl) pa_nil))))) (pw_or1 (pt_cmpR op_lt (pv 1) pe_int (nomark _))))) (pss_one (ps_ret pe_bl)) pss_nil) (pss_cons (ps_if (pt_cmpR op_eq (pe_callB call_len_seq rfl T.n_len PySem.boot_len (pa_cons (pv 0) pa_nil)) pe_int (nomark _)) (pss_one (ps_ret (pe_cmpR (op_eqK hr.u) (pv 0) (pe_glob (v := .ref (He.ga K "ONE")) rfl T.i_ONE rfl) (nomark _)))) pss_nil) (pss_cons (ps_if (pt_cmpR op_eq (pe_callB call_len_seq rfl T.n_len PySem.boot_len (pa_cons (pv 0) pa_nil)) pe_int (nomark _)) (pss_one (ps_ret (pe_and (pe_tag (pv 0) mono_var) (pe_and (pe_callB call_isi rfl T.n_isinstance (by decide +kernel) (pa_cons (pv_at 0 1) (pa_cons (pe_bltn (v := .ty "str") rfl T.n_str (by decide +kernel) rfl) pa_nil))) (pe_one (cal GM hr pass0 (pa_cons (pv_at 0 1) pa_nil))))))) pss_nil) (pss_cons (ps_if (PW.pt (pw_or (pt_cmpR op_ne (pe_callB call_len_seq rfl T.n_len PySem.boot_len (pa_cons (pv 0) pa_nil)) pe_int (nomark _)) (pw_or1 (pt_nin2 (pv 0) mono_var)))) (pss_one (ps_ret pe_bl)) pss_nil) (pss_one (ps_ret (pe_and (cal G hr pass0 (pa_cons (pv_at 0 1) (pa_cons (pe_op op_sub (pv 1) pe_int) pa_nil))) (pe_one (cal G hr pass0 (pa_cons (pv_at 0 2) (pa_cons (pe_op op_sub (pv 1) pe_int) pa_nil))))))))))), ?_⟩
    obtain ⟨a0, xs0, rfl, t0⟩ := hk.tagged
    refine ⟨_, rfl, _, _, _, _, true, rfl, .ty "tuple", sqt_ty t0, kit_tt, _, rfl, ifF rfl ⟨_, rfl, _, _, rfl, rfl, _, rfl, ifF (decide_eq_false (by omega)) ?_⟩⟩
    cases k with
    | one =>
      obtain ⟨a, e, t⟩ := hk
      cases e
      exact ⟨_, rfl, _, _, rfl, .inr t, rfl, _, rfl, ifT rfl ⟨_, rfl, .one, .one, ⟨_, rfl, t⟩, one_at T H, by decide, q.at rfl⟩⟩
    | mark m =>
      obtain ⟨a, e, t⟩ := hk
      cases e
      refine ⟨_, rfl, _, _, rfl, .inr t, rfl, _, rfl, ifF rfl ⟨_, rfl, _, _, rfl, .inr t, rfl, _, rfl, ifT rfl ?_⟩⟩
      refine ⟨_, rfl, a0, _, _, rfl, t, true, congrArg V.bl (decide_eq_true rfl), ifT rfl ⟨_, rfl, a0, _, _, rfl, t, rfl, _, _, _, _, true, rfl, .ty "str", .base (.str _), kit_ss, true, rfl, ifT rfl ⟨_, rfl, a0, _, _, rfl, t, rfl, _, rfl, .inl ⟨m, rfl, q.at rfl⟩⟩⟩⟩
    | to c d =>
      obtain ⟨a, y, z, e, t, hy, hz⟩ := hk
      cases e
      have hd' : ((1 + max c.depth d.depth : Nat) : Int) ≤ r := hd
      have hn' : 1 + max c.depth d.depth < n + 1 := hn
      refine ⟨_, rfl, _, _, rfl, .inr t, rfl, _, rfl, ifF rfl ⟨_, rfl, _, _, rfl, .inr t, rfl, _, rfl, ifF rfl ?_⟩⟩
      refine ⟨_, rfl, _, _, rfl, .inr t, rfl, _, rfl, ifF rfl ⟨_, rfl, a0, _, _, rfl, t, fun H1 s1 => ifF (by decide +kernel) ?_⟩⟩
      refine ⟨_, rfl, a0, _, _, rfl, s1.tup t, rfl, _, rfl, _, _, rfl, rfl, y, c, r - 1, rfl, hy.same s1, by omega, by omega, fun u H2 s2 e2 => ?_⟩
      subst e2
      refine ⟨true, rfl, ifT rfl ⟨_, rfl, a0, _, _, rfl, s2.tup (s1.tup t), rfl, _, rfl, _, _, rfl, rfl, z, d, r - 1, rfl, hz.same (s1.trans s2), by omega, by omega, (q.mono s1).mono s2⟩⟩
    | both c d =>
      obtain ⟨a, y, z, e, t, hy, hz⟩ := hk
      cases e
      have hd' : ((1 + max c.depth d.depth : Nat) : Int) ≤ r := hd
      have hn' : 1 + max c.depth d.depth < n + 1 := hn
      refine ⟨_, rfl, _, _, rfl, .inr t, rfl, _, rfl, ifF rfl ⟨_, rfl, _, _, rfl, .inr t, rfl, _, rfl, ifF rfl ?_⟩⟩
      refine ⟨_, rfl, _, _, rfl, .inr t, rfl, _, rfl, ifF rfl ⟨_, rfl, a0, _, _, rfl, t, fun H1 s1 => ifF (by decide +kernel) ?_⟩⟩
      refine ⟨_, rfl, a0, _, _, rfl, s1.tup t, rfl, _, rfl, _, _, rfl, rfl, y, c, r - 1, rfl, hy.same s1, by omega, by omega, fun u H2 s2 e2 => ?_⟩
      subst e2
      refine ⟨true, rfl, ifT rfl ⟨_, rfl, a0, _, _, rfl, s2.tup (s1.tup t), rfl, _, rfl, _, _, rfl, rfl, z, d, r - 1, rfl, hz.same (s1.trans s2), by omega, by omega, (q.mono s1).mono s2⟩⟩
def spIsKind (K : PySem.W.Frag) : Sp := fun vs H Q _ => ∃ v k, vs = [v] ∧ KdAt K H k v ∧ k.depth ≤ 12 ∧ k.leaves ≤ 24 ∧ Ret H Q fun _ u => u = .bl true
theorem ok_isKind (T : Tx w K mg) : Df P w K mg base CX0 20 "is_kind" ["thing"] [] (spIsKind K) := by
  have GF := (ok_hasForm (P := P) (base := base) T 13).mono (show 14 ≤ 19 by omega)
  have GL := (ok_leaves (P := P) (base := base) T 13).mono (show 13 ≤ 19 by omega)
  obtain ⟨t1, g1⟩ := T.i_MOST_DEPTH
  obtain ⟨t2, g2⟩ := T.i_MOST_LEAVES
  refine df0 T.d_is_kind T.g_is_kind sc_is_kind (fun _ _ _ _ _ _ us hl => match us, hl with | [_], _ => rfl) (fun vs H Q E h => ?_) (fun cdv A outer s H vs Q E hr h => ?_)
  · obtain ⟨v, k, rfl, _⟩ := h
    rfl
  obtain ⟨v, k, rfl, hk, hd, hl, q⟩ := h
  refine ⟨_, (pss_one (ps_ret (pe_and (cal GF hr pass0 (pa_cons (pv 0) (pa_cons (pe_glob (v := .int 12) rfl g1 ⟨_, rfl⟩) pa_nil))) (pe_one (pe_cmpR op_le (cal GL hr pass0 (pa_cons (pv 0) pa_nil)) (pe_glob (v := .int 24) rfl g2 ⟨_, rfl⟩) (nomark _)))))), ?_⟩
  refine ⟨_, rfl, v, k, 12, rfl, hk, by omega, by omega, fun u H1 s1 e => ?_⟩
  subst e
  exact ⟨true, rfl, ifT rfl ⟨_, rfl, v, k, rfl, hk.same s1, by omega, _, _, rfl, rfl, (q.mono s1).at (congrArg V.bl (decide_eq_true (by omega)))⟩⟩
/-! ### read_kind -/
def spReadKind (K : PySem.W.Frag) : Sp := fun vs H Q _ => ∃ k, vs = [.str (shown k)] ∧ k.depth ≤ 12 ∧ k.leaves ≤ 24 ∧ Ret H Q fun H' u => KdAt K H' k u
theorem ok_readKind (T : Tx w K mg) : Df P w K mg base CX0 21 "read_kind" ["text"] [] (spReadKind K) := by
  have GF := (ok_kindFrom (P := P) (base := base) T 13).mono (show 14 ≤ 20 by omega)
  have GK := (ok_isKind (P := P) (base := base) T)
  obtain ⟨t1, g1⟩ := T.i_DEEPEST
  refine df0 T.d_read_kind T.g_read_kind sc_read_kind (fun _ _ _ _ _ _ us hl => match us, hl with | [_], _ => rfl) (fun vs H Q E h => ?_) (fun cdv A outer s H vs Q E hr h => ?_)
  · obtain ⟨k, rfl, _⟩ := h
    rfl
  obtain ⟨k, rfl, hd, hl, q⟩ := h
  have l1 := shown_len k
  have l2 := toks_len k
  refine ⟨_, (pss_cons (ps_set (i := 1) sc_read_kind.nd rfl (.inl rfl) (pe_split (pv 0) pe_str)) (pss_cons (ps_asg (cal GF hr pass0 (pa_cons (pv 1) (pa_cons pe_int (pa_cons (pe_glob (v := .int 12) rfl g1 ⟨_, rfl⟩) pa_nil)))) (pg_tup rfl (pgs_cons (pg_name (i := 2) sc_read_kind.nd rfl (.inl rfl)) (pgs_cons (pg_name (i := 3) sc_read_kind.nd rfl (.inl rfl)) pgs_nil)))) (pss_cons (ps_if (PW.pt (pw_or (pt_cmp (pc_isN (pv 2))) (pw_or (pt_cmpR op_lt (pv 3) (pe_callB call_len_seq rfl T.n_len PySem.boot_len (pa_cons (pv 1) pa_nil)) (nomark _)) (pw_or1 (pt_not (pt_val (cal GK hr pass0 (pa_cons (pv 2) pa_nil)))))))) (pss_one (ps_never)) pss_nil) (pss_one (ps_ret (pv 2)))))), ?_⟩
  refine ⟨_, rfl, ⟨_, rfl⟩, _, _, rfl, rfl, by decide +kernel, small (by omega), ?_⟩
  rw [split_shown]
  intro p hp
  refine ⟨_, rfl, p, toks k, 0, 12, k, [], rfl, upd_same, by simp, by omega, by omega, fun t y H1 s1 ht hy => ?_⟩
  refine ⟨t, _, rfl, ht, rfl, _, _, rfl, _, _, rfl, rfl, ?_⟩
  obtain ⟨b, _, e, _⟩ := hy.tagged
  subst e
  have hw := s1 _ _ (upd_same (H := H) (a := p) (o := .lst ((toks k).map V.str)))
  refine ⟨_, rfl, _, rfl, ifF rfl ⟨_, rfl, _, rfl, p, _, rfl, .inl (.of hw), _, _, rfl, rfl, _, rfl, ifF (decide_eq_false ?_) ?_⟩⟩
  · rw [List.length_map]
    omega
  refine ⟨_, rfl, _, k, rfl, hy, hd, hl, fun u H2 s2 e => ?_⟩
  subst e
  exact ⟨true, rfl, ifF rfl ⟨_, rfl, q _ _ (((same_new hp _).trans s1).trans s2) (hy.same s2)⟩⟩
end
end KF

set_option Elab.async false
set_option linter.all false
set_option maxRecDepth 100000
set_option maxHeartbeats 4000000
namespace KF
open PySem PySem.Spec L2 TL
/-! ### parts of programs -/
def inner : Pg → List Pg
  | .name _ => []
  | .take _ _ p => [p]
  | .give p q => [p, q]
  | .pair p q => [p, q]
  | .first p => [p]
  | .second p => [p]
  | .thing => []
def parts : Pg → Nat
  | .name _ => 1
  | .take _ _ p => 1 + parts p
  | .give p q => 1 + (parts p + parts q)
  | .pair p q => 1 + (parts p + parts q)
  | .first p => 1 + parts p
  | .second p => 1 + parts p
  | .thing => 1
theorem inner_deep {p q : Pg} (h : q ∈ inner p) : q.deep < p.deep := by
  cases p <;> simp [inner] at h
  case take x k p => subst h; exact Nat.lt_succ_self _
  case first p => subst h; exact Nat.lt_succ_self _
  case second p => subst h; exact Nat.lt_succ_self _
  case give a b => rcases h with rfl | rfl; exact Nat.lt_succ_of_le (Nat.le_max_left _ _); exact Nat.lt_succ_of_le (Nat.le_max_right _ _)
  case pair a b => rcases h with rfl | rfl; exact Nat.lt_succ_of_le (Nat.le_max_left _ _); exact Nat.lt_succ_of_le (Nat.le_max_right _ _)
theorem inner_len (p : Pg) : (inner p).length ≤ 2 := by cases p <;> simp [inner]
theorem parts_inner (p : Pg) : (1 : Int) + ((inner p).map fun q => (parts q : Int)).sum = (parts p : Int) := by
  cases p <;> simp [inner, parts]
theorem deep_inner (p : Pg) : (match ((inner p).map fun q => ((1 + q.deep : Nat) : Int)) with | [] => (0 : Int) | n :: r => r.foldl max n) = (p.deep : Int) := by
  cases p with
  | name x => rfl
  | thing => rfl
  | take x k p => exact congrArg (Nat.cast (R := Int)) (Nat.add_comm 1 p.deep)
  | first p => exact congrArg (Nat.cast (R := Int)) (Nat.add_comm 1 p.deep)
  | second p => exact congrArg (Nat.cast (R := Int)) (Nat.add_comm 1 p.deep)
  | give p q => show max ((1 + p.deep : Nat) : Int) ((1 + q.deep : Nat) : Int) = ((max p.deep q.deep + 1 : Nat) : Int); omega
  | pair p q => show max ((1 + p.deep : Nat) : Int) ((1 + q.deep : Nat) : Int) = ((max p.deep q.deep + 1 : Nat) : Int); omega
/-! ### max(.., default=d) of whole numbers -/
section
variable {X : Cx}
theorem dp_ints {K : PySem.W.Frag} {H : Hp} : ∀ ns : List Int, DpAll K H (ns.map V.int) (ns.map PyData.int)
  | [] => .nil
  | n :: ns => .cons (.int n) (dp_ints ns)
def rMaxDf (K : PySem.W.Frag) : List V → List V → Hp → VK → Prop := fun xs zs H Q => ∃ (a : Addr) (ns : List Int) (d : V), xs = [V.ref a] ∧ zs = [d] ∧ SqL K H a (ns.map V.int) ∧ match ns with
  | [] => Q d H
  | n :: r => Q (.int (r.foldl max n)) H
theorem depth_ints : ∀ ns : List Int, PyData.depthAll (ns.map PyData.int) = 0
  | [] => by rw [List.map_nil, dp_nil]
  | n :: ns => by rw [List.map_cons, dp_cons, depth_ints ns, PyData.depth]; rfl
theorem cr_maxDf (hc : X.calm = true) (hu : X.A.units + 1 < cLine) : CallRK X (.builtin "max") ["default"] (rMaxDf X.K) := by
  intro pins s σ H xs zs us ws Q I rx rz h
  obtain ⟨a, ns, d, rfl, rfl, hs, q⟩ := h
  rw [Vals.ref1 rx]
  obtain ⟨u, rfl, rd⟩ := vals1 rz
  obtain ⟨its, rv, hl, _⟩ := I.list hs
  obtain ⟨as, hr⟩ := Dp.readsAll I _ _ its (dp_ints ns) rv
  show wpAny _ _ (call (.builtin "max") [.ref a] [(Str.ofString "default", u)]) _ _ s
  refine PySem.W.max_list_default (xs := ns.map PyData.int) (I.ok.hd hc) hl.isList hr ⟨?_, ?_⟩ (by rw [depth_ints]; exact hu) (fun e h' tk hk => ?_) fun y ys i v h' tk bs e hv hr' hk => ?_
  · intro x hx y hy
    obtain ⟨i, _, rfl⟩ := List.mem_map.mp hx
    obtain ⟨j, _, rfl⟩ := List.mem_map.mp hy
    rfl
  · intro x hx
    obtain ⟨i, _, rfl⟩ := List.mem_map.mp hx
    intro z
    cases z
  · cases ns with
    | cons n r => cases e
    | nil => exact ⟨d, H, I.kept hk, rd, q⟩
  · cases ns with
    | nil => cases e
    | cons n r =>
      obtain ⟨rfl, rfl⟩ : PyData.int n = y ∧ r.map PyData.int = ys := List.cons.inj e
      rw [PySem.W.maxD_ints] at hr'
      cases hr' with
      | int i t => exact ⟨.int _, H, I.kept hk, ⟨t, rfl⟩, q⟩
end
section
variable {P : Program} {w : World} {K : PySem.W.Frag} {mg : Str → Option Value} {base : Heap}
/-! ### inner -/
def spInner (K : PySem.W.Frag) : Sp := fun vs H Q _ => ∃ v p, vs = [v] ∧ PgAt K H p v ∧ RtL K H Q (PgAt K) (inner p)
theorem ok_inner (T : Tx w K mg) : Df P w K mg base CX0 1 "inner" ["program"] [] (spInner K) := by
  refine df0 T.d_inner T.g_inner sc_inner (fun _ _ _ _ _ _ us hl => match us, hl with | [_], _ => rfl) (fun vs H Q E h => ?_) (fun cdv A outer s H vs Q E hr h => ?_)
  · obtain ⟨v, p, rfl, _⟩ := h
    rfl
  obtain ⟨v, p, rfl, hp, q⟩ := h
  refine ⟨_, (pss_cons (ps_if (pt_tag (pv 0) mono_var) (pss_one (ps_ret (pe_lst (pa_cons (pv_at 0 3) pa_nil)))) pss_nil) (pss_cons (ps_if (pt_in4 (pv 0) mono_var) (pss_one (ps_ret (pe_callTy call_list_of rfl T.n_list (by decide +kernel) (pa_cons (pe_slice sl_tup (pv 0) (po_some pe_int) po_none) pa_nil)))) pss_nil) (pss_one (ps_ret (pe_lst pa_nil))))), ?_⟩
  cases p with
  | name x =>
    obtain ⟨a, rfl, t⟩ := hp
    exact ⟨_, rfl, a, _, _, rfl, t, ifF (by decide +kernel) ⟨_, rfl, a, _, _, rfl, t, fun H1 s1 => ifF (by decide +kernel) ⟨sz0, fun p hp => q.laid s1 hp fun _ _ => trivial⟩⟩⟩
  | thing =>
    obtain ⟨a, rfl, t⟩ := hp
    exact ⟨_, rfl, a, _, _, rfl, t, ifF (by decide +kernel) ⟨_, rfl, a, _, _, rfl, t, fun H1 s1 => ifF (by decide +kernel) ⟨sz0, fun p hp => q.laid s1 hp fun _ _ => trivial⟩⟩⟩
  | take x k p =>
    obtain ⟨a, y, z, rfl, t, hy, hz⟩ := hp
    exact ⟨_, rfl, a, _, _, rfl, t, ifT (by decide +kernel) ⟨_, rfl, a, _, _, rfl, t, rfl, sz1, fun b hb => q.laid (.refl H) hb fun H'' x => ⟨hz.ts x.ts, trivial⟩⟩⟩
  | give p r =>
    obtain ⟨a, y, z, rfl, t, hy, hz⟩ := hp
    refine ⟨_, rfl, a, _, _, rfl, t, ifF (by decide +kernel) ⟨_, rfl, a, _, _, rfl, t, fun H1 s1 => ifT (by decide +kernel) ⟨_, rfl, _, rfl, a, _, rfl, s1.tup t, by intro e; exact absurd e.1 (by show ¬ (1 = 0); decide), fun b hb => ⟨b, _, rfl, .inr (.of upd_same), fun l hl => ?_⟩⟩⟩⟩
    exact q.laid (s1.trans (same_new hb _)) hl fun H'' x => ⟨hy.ts x.ts, hz.ts x.ts, trivial⟩
  | pair p r =>
    obtain ⟨a, y, z, rfl, t, hy, hz⟩ := hp
    refine ⟨_, rfl, a, _, _, rfl, t, ifF (by decide +kernel) ⟨_, rfl, a, _, _, rfl, t, fun H1 s1 => ifT (by decide +kernel) ⟨_, rfl, _, rfl, a, _, rfl, s1.tup t, by intro e; exact absurd e.1 (by show ¬ (1 = 0); decide), fun b hb => ⟨b, _, rfl, .inr (.of upd_same), fun l hl => ?_⟩⟩⟩⟩
    exact q.laid (s1.trans (same_new hb _)) hl fun H'' x => ⟨hy.ts x.ts, hz.ts x.ts, trivial⟩
  | first p =>
    obtain ⟨a, y, rfl, t, hy⟩ := hp
    refine ⟨_, rfl, a, _, _, rfl, t, ifF (by decide +kernel) ⟨_, rfl, a, _, _, rfl, t, fun H1 s1 => ifT (by decide +kernel) ⟨_, rfl, _, rfl, a, _, rfl, s1.tup t, by intro e; exact absurd e.1 (by show ¬ (1 = 0); decide), fun b hb => ⟨b, _, rfl, .inr (.of upd_same), fun l hl => ?_⟩⟩⟩⟩
    exact q.laid (s1.trans (same_new hb _)) hl fun H'' x => ⟨hy.ts x.ts, trivial⟩
  | second p =>
    obtain ⟨a, y, rfl, t, hy⟩ := hp
    refine ⟨_, rfl, a, _, _, rfl, t, ifF (by decide +kernel) ⟨_, rfl, a, _, _, rfl, t, fun H1 s1 => ifT (by decide +kernel) ⟨_, rfl, _, rfl, a, _, rfl, s1.tup t, by intro e; exact absurd e.1 (by show ¬ (1 = 0); decide), fun b hb => ⟨b, _, rfl, .inr (.of upd_same), fun l hl => ?_⟩⟩⟩⟩
    exact q.laid (s1.trans (same_new hb _)) hl fun H'' x => ⟨hy.ts x.ts, trivial⟩
/-! ### a list of numbers, one for each of a list of programs -/
theorem lc_nums {σ : L2.St} {H H1 : Hp} {D b1 : Addr} {l1 : List V} {ps : List Pg} {f : Pg → Int} {i : Nat} {te : TE} {Qd : Hp → Prop} (s1 : Same H H1) (g1 : H1 b1 = some (.lst l1)) (r1 : ∀ H'', Nx K H H1 H'' → All2 (PgAt K H'') ps l1) (hz : ps.length ≤ 1000000) (hD : H1 D = none)
    (hw : ∀ v : V, wipe ((wipe σ [i]).set i (some v)) [i] = wipe σ [i])
    (hh : ∀ (p : Pg) (v : V) (H2 : Hp) (Q : VK), p ∈ ps → Same H1 H2 → PgAt K H2 p v → (∀ H3, Same H2 H3 → Q (.int (f p)) H3) → te ((wipe σ [i]).set i (some v)) H2 Q)
    (hd : ∀ H2, Same H1 H2 → H2 D = some (.lst ((ps.map f).map V.int)) → Qd H2) :
    ∃ W : Nat → Nat → Hp → Prop, (∃ m, W 0 m (upd H1 D (.lst []))) ∧ ∀ i' m H, W i' m H →
      ((Itl K b1).stop i' H ∧ Qd H) ∨ ((Itl K b1).go i' H ∧ ∃ Nx : Hp → Prop, (∀ H', Nx H' → ∃ m', m' < m ∧ W (i' + 1) m' H') ∧ ∀ x H', (Itl K b1).yld i' H x H' → gName i x (wipe σ [i]) H' fun σ2 H2 => wipe σ2 [i] = wipe σ [i] ∧ tYes σ2 H2 fun b H3 =>
        if b = true then te σ2 H3 fun y H4 => ∃ acc, H4 D = some (.lst acc) ∧ acc.length < sizeLine ∧ Nx (upd H4 D (.lst (acc ++ [y]))) else Nx H3) := by
  have m1 := (r1 H1 (.self s1)).length
  refine lc_build (K := K) (walk_list (xs := l1)) (fun _ n v => v = V.int n) (ps.map f) (by rw [List.length_map]; exact m1.symm) (by omega) hD (fun H s => .of (s _ _ g1)) (fun j b x H2 H3 Q2 hb s2 hY q2 => ?_) (fun H2 ys s2 gD rD => ?_)
  · obtain ⟨rfl, hx⟩ := hY
    obtain ⟨e, he, rfl⟩ := get_map hb
    obtain ⟨x', hx', pe⟩ := (r1 H3 (.same s1 s2)).get he
    obtain rfl : x' = x := Option.some.inj (hx'.symm.trans hx)
    refine ⟨hw _, hh e _ H3 Q2 (List.mem_of_getElem? he) s2 pe fun H4 s4 => q2 _ H4 s4 fun _ _ => rfl⟩
  · have e := All2.eqmap (rD H2 (.self s2))
    exact hd H2 s2 (by rw [gD, e])
/-! ### parts_of, deep_of -/
def spParts (K : PySem.W.Frag) (n : Nat) : Sp := fun vs H Q _ => ∃ v p, vs = [v] ∧ PgAt K H p v ∧ p.deep < n ∧ Ret H Q fun _ u => u = .int (parts p)
theorem ok_parts (T : Tx w K mg) : ∀ n, Df P w K mg base CX0 (n + 1) "parts_of" ["program"] [] (spParts K n)
  | 0 => df_none T.d_parts_of T.g_parts_of (fun _ _ _ _ _ _ us hl => match us, hl with | [_], _ => rfl) fun vs H Q E ⟨_, _, _, _, h, _⟩ => absurd h (Nat.not_lt_zero _)
  | n + 1 => by
    have G := ok_parts T n
    have GI := (ok_inner (P := P) (base := base) T).mono (show 1 ≤ n + 1 by omega)
    refine df0 T.d_parts_of T.g_parts_of sc_parts_of (fun _ _ _ _ _ _ us hl => match us, hl with | [_], _ => rfl) (fun vs H Q E h => ?_) (fun cdv A outer s H vs Q E hr h => ?_)
    · obtain ⟨v, p, rfl, _⟩ := h
      rfl
    obtain ⟨v, p, rfl, hp, hn, q⟩ := h
    refine ⟨_, (pss_one (ps_ret (pe_op op_add pe_int (pe_callB (cr_sum rfl) rfl T.n_sum (by decide +kernel) (pa_cons
      (pe_lc (own := [("part", 1)]) (g := gName 1) (tt := tYes) (te := tCall (spParts K n) [] E0 (tCons (tVar 1) tNil)) rfl sc_parts_of.nd (pi_list (cal GI hr pass0 (pa_cons (pv 0) pa_nil))) (blkOk_by (own := [("part", 1)]) (N := ["program", "part"]) (sc := defScope s_parts_of) (by decide +kernel))
        (fun _ _ _ _ _ => pg_name (i := 1) sc_parts_of.nd rfl (Or.inl rfl)) (fun _ _ _ _ _ => pts_nil) (fun _ _ _ _ _ => cal G hr pass0 (pa_cons (pv 1) pa_nil))) pa_nil))))), ?_⟩
    refine ⟨_, rfl, v, p, rfl, hp, fun b1 l1 H1 s1 n1 g1 r1 => ⟨b1, rfl, ⟨_, .of g1⟩, fun D hD => ?_⟩⟩
    refine lc_nums (f := fun q => (parts q : Int)) s1 g1 r1 (by have := inner_len p; omega) hD (fun _ => rfl) (fun r x H2 Q2 hm s2 hx q2 => ?_) fun H2 s2 gD => ?_
    · have := inner_deep hm
      exact ⟨_, rfl, x, r, rfl, hx, by omega, fun u H3 s3 e => by rw [e]; exact q2 H3 s3⟩
    · exact ⟨D, _, rfl, .of gD, 1, _, rfl, rfl, (q.mono (s1.trans s2)).at (congrArg V.int (parts_inner p))⟩
def spDeep (K : PySem.W.Frag) (n : Nat) : Sp := fun vs H Q _ => ∃ v p, vs = [v] ∧ PgAt K H p v ∧ p.deep < n ∧ Ret H Q fun _ u => u = .int p.deep
theorem ok_deep (T : Tx w K mg) : ∀ n, Df P w K mg base CX0 (n + 1) "deep_of" ["program"] [] (spDeep K n)
  | 0 => df_none T.d_deep_of T.g_deep_of (fun _ _ _ _ _ _ us hl => match us, hl with | [_], _ => rfl) fun vs H Q E ⟨_, _, _, _, h, _⟩ => absurd h (Nat.not_lt_zero _)
  | n + 1 => by
    have G := ok_deep T n
    have GI := (ok_inner (P := P) (base := base) T).mono (show 1 ≤ n + 1 by omega)
    refine df0 T.d_deep_of T.g_deep_of sc_deep_of (fun _ _ _ _ _ _ us hl => match us, hl with | [_], _ => rfl) (fun vs H Q E h => ?_) (fun cdv A outer s H vs Q E hr h => ?_)
    · obtain ⟨v, p, rfl, _⟩ := h
      rfl
    obtain ⟨v, p, rfl, hp, hn, q⟩ := h
    refine ⟨_, (pss_one (ps_ret (pe_callBK (cr_maxDf rfl hr.u1) rfl T.n_max (by decide +kernel) (pa_cons
      (pe_lc (own := [("part", 1)]) (g := gName 1) (tt := tYes) (te := tOp (rI0 fun i j => .int (i + j)) (tC (.int 1)) (tCall (spDeep K n) [] E0 (tCons (tVar 1) tNil))) rfl sc_deep_of.nd (pi_list (cal GI hr pass0 (pa_cons (pv 0) pa_nil))) (blkOk_by (own := [("part", 1)]) (N := ["program", "part"]) (sc := defScope s_deep_of) (by decide +kernel))
        (fun _ _ _ _ _ => pg_name (i := 1) sc_deep_of.nd rfl (Or.inl rfl)) (fun _ _ _ _ _ => pts_nil) (fun _ _ _ _ _ => pe_op op_add pe_int (cal G hr pass0 (pa_cons (pv 1) pa_nil)))) pa_nil) (pk_cons pe_int pk_nil)))), ?_⟩
    refine ⟨_, rfl, v, p, rfl, hp, fun b1 l1 H1 s1 n1 g1 r1 => ⟨b1, rfl, ⟨_, .of g1⟩, fun D hD => ?_⟩⟩
    refine lc_nums (f := fun q => ((1 + q.deep : Nat) : Int)) s1 g1 r1 (by have := inner_len p; omega) hD (fun _ => rfl) (fun r x H2 Q2 hm s2 hx q2 => ?_) fun H2 s2 gD => ?_
    · have := inner_deep hm
      refine ⟨_, rfl, x, r, rfl, hx, by omega, fun u H3 s3 e => ?_⟩
      subst e
      exact ⟨_, _, rfl, rfl, q2 H3 s3⟩
    · have e := deep_inner p
      refine ⟨D, _, _, rfl, rfl, .of gD, ?_⟩
      have qq := (q.mono (s1.trans s2)).at (v := .int p.deep) rfl
      rw [← e] at qq
      split <;> rename_i z <;> rw [z] at qq <;> exact qq
end
end KF

set_option Elab.async false
set_option linter.all false
set_option maxRecDepth 100000
set_option maxHeartbeats 4000000
namespace KF
open PySem PySem.Spec L2 TL
/-! ### lists against [] -/
section
variable {X : Cx}
def rEqNil (K : PySem.W.Frag) : R2 := fun x y H Q => ∃ a b ds ws, x = .ref a ∧ y = .ref b ∧ SqL K H a ws ∧ DpAll K H ws ds ∧ PyData.canLayAll0 ds = true ∧ SqL K H b [] ∧ Q (.bl ws.isEmpty) H
theorem dpAll_len {K : PySem.W.Frag} {H : Hp} : ∀ {ws : List V} {ds : List PyData}, DpAll K H ws ds → ws.isEmpty = ds.isEmpty
  | _, _, .nil => rfl
  | _, _, .cons _ _ => rfl
theorem ev_nil (ds : List PyData) : PyData.eqv (.list ds) (.list []) = ds.isEmpty := by
  cases ds with
  | nil => rw [PyData.eqv, PyData.eqvAll]; rfl
  | cons d r => rw [PyData.eqv, PyData.eqvAll]; rfl
theorem op_eqNil (hu : X.A.units + 64 < cLine) : OpR X (compareOp .Eq) (rEqNil X.K) := by
  intro pins s σ H x y v u Q I rx ry h
  obtain ⟨a, b, ds, ws, rfl, rfl, ha, hd, hl, hb, q⟩ := h
  obtain ⟨as, r1⟩ := Dp.reads I (.list ds) _ v (.lst ha hd) rx
  obtain ⟨bs, r2⟩ := Dp.reads I (.list []) _ u (.lst hb .nil) ry
  refine SeqAt.compareEq_reads r1 r2 (by rw [PyData.canLay0]; exact hl) (by rw [PyData.canLay0, PyData.canLayAll0]) ?_ ⟨.bl _, H, I, rfl, by rw [ev_nil, ← dpAll_len hd]; exact q⟩
  have : (PyData.list []).depth = 1 := by rw [PyData.depth, dp_nil]
  rw [this]
  omega
def rNeNil (K : PySem.W.Frag) : R2 := fun x y H Q => ∃ a b ds ws, x = .ref a ∧ y = .ref b ∧ SqL K H a ws ∧ DpAll K H ws ds ∧ PyData.canLayAll0 ds = true ∧ SqL K H b [] ∧ Q (.bl (!ws.isEmpty)) H
theorem op_neNil (hu : X.A.units + 64 < cLine) : OpR X (compareOp .NotEq) (rNeNil X.K) := by
  intro pins s σ H x y v u Q I rx ry h
  obtain ⟨a, b, ds, ws, rfl, rfl, ha, hd, hl, hb, q⟩ := h
  obtain ⟨as, r1⟩ := Dp.reads I (.list ds) _ v (.lst ha hd) rx
  obtain ⟨bs, r2⟩ := Dp.reads I (.list []) _ u (.lst hb .nil) ry
  refine SeqAt.compareNe_reads r1 r2 (by rw [PyData.canLay0]; exact hl) (by rw [PyData.canLay0, PyData.canLayAll0]) ?_ ⟨.bl _, H, I, rfl, by rw [ev_nil, ← dpAll_len hd]; exact q⟩
  have : (PyData.list []).depth = 1 := by rw [PyData.depth, dp_nil]
  rw [this]
  omega
theorem All2.dp {α : Type} {K : PySem.W.Frag} {H : Hp} {R : α → V → Prop} {f : α → PyData} (h : ∀ x v, R x v → Dp K H v (f x)) : ∀ {l : List α} {ws : List V}, All2 R l ws → DpAll K H ws (l.map f)
  | [], [], _ => .nil
  | [], _ :: _, h' => h'.elim
  | _ :: _, [], h' => h'.elim
  | _ :: _, _ :: _, h' => .cons (h _ _ h'.1) (All2.dp h h'.2)
theorem lays_all {α : Type} {f : α → PyData} (h : ∀ x, (f x).canLay0 = true) : ∀ l : List α, PyData.canLayAll0 (l.map f) = true
  | [] => by rw [List.map_nil, PyData.canLayAll0]
  | x :: l => by rw [List.map_cons, PyData.canLayAll0, h, lays_all h l]; rfl
theorem All2.nil_iff {α : Type} {R : α → V → Prop} : ∀ {l : List α} {ws : List V}, All2 R l ws → ws.isEmpty = l.isEmpty
  | [], [], _ => rfl
  | [], _ :: _, h' => h'.elim
  | _ :: _, [], h' => h'.elim
  | _ :: _, _ :: _, _ => rfl
end
/-! ### places -/
def natV (l : List Nat) : List V := l.map fun n : Nat => V.int (n : Int)
theorem dp_nats {K : PySem.W.Frag} {H : Hp} : ∀ l : List Nat, DpAll K H (natV l) (l.map fun n : Nat => PyData.int (n : Int))
  | [] => .nil
  | n :: l => .cons (.int _) (dp_nats l)
theorem lay_nats : ∀ l : List Nat, PyData.canLayAll0 (l.map fun n : Nat => PyData.int (n : Int)) = true
  | [] => by rw [List.map_nil, PyData.canLayAll0]
  | n :: l => by rw [List.map_cons, PyData.canLayAll0, lay_nats l, PyData.canLay0]; rfl
theorem natV_get {l : List Nat} {i n : Nat} (h : l[i]? = some n) : (natV l)[i]? = some (.int n) := by
  unfold natV
  rw [List.getElem?_map, h]; rfl
def partAt : Pg → List Nat → Option Pg
  | p, [] => some p
  | p, i :: r => match (inner p)[i]? with
    | some q => partAt q r
    | none => none
def withInner : Pg → List Pg → Pg
  | .take x k _, [q] => .take x k q
  | .give _ _, [a, b] => .give a b
  | .pair _ _, [a, b] => .pair a b
  | .first _, [a] => .first a
  | .second _, [a] => .second a
  | p, _ => p
def withPart (p : Pg) (pl : List Nat) (q : Pg) : Pg := match pl with
  | [] => q
  | i :: r => match (inner p)[i]? with
    | some s => withInner p ((inner p).set i (withPart s r q))
    | none => p
theorem partAt_snoc : ∀ {pl : List Nat} {p q : Pg} {i : Nat}, partAt p pl = some q → partAt p (pl ++ [i]) = (inner q)[i]?
  | [], p, q, i, h => by
    cases h
    show (match (inner p)[i]? with | some q => partAt q [] | none => none) = _
    cases (inner p)[i]? <;> rfl
  | j :: pl, p, q, i, h => by
    show (match (inner p)[j]? with | some q => partAt q (pl ++ [i]) | none => none) = _
    have h' : (match (inner p)[j]? with | some q => partAt q pl | none => none) = some q := h
    cases z : (inner p)[j]? with
    | none => rw [z] at h'; cases h'
    | some r => rw [z] at h'; exact partAt_snoc h'
theorem partAt_take {p q : Pg} : ∀ {pl : List Nat}, partAt p pl = some q → ∀ i, i ≤ pl.length → ∃ r, partAt p (pl.take i) = some r ∧ partAt r (pl.drop i) = some q
  | pl, h, 0, _ => ⟨p, rfl, h⟩
  | [], h, i + 1, hi => absurd hi (by simp)
  | j :: pl, h, i + 1, hi => by
    have h' : (match (inner p)[j]? with | some q => partAt q pl | none => none) = some q := h
    cases z : (inner p)[j]? with
    | none => rw [z] at h'; cases h'
    | some r =>
      rw [z] at h'
      obtain ⟨s, e1, e2⟩ := partAt_take h' i (by simpa using hi)
      refine ⟨s, ?_, e2⟩
      show (match (inner p)[j]? with | some q => partAt q (pl.take i) | none => none) = _
      rw [z]; exact e1
section
variable {P : Program} {w : World} {K : PySem.W.Frag} {mg : Str → Option Value} {base : Heap}
/-! ### part_at -/
def spPartAt (K : PySem.W.Frag) : Sp := fun vs H Q _ => ∃ (v : V) (p : Pg) (a : Addr) (pl : List Nat) (q : Pg), vs = [v, .ref a] ∧ PgAt K H p v ∧ H a = some (.lst (natV pl)) ∧ partAt p pl = some q ∧ Ret H Q fun H' u => PgAt K H' q u
theorem ok_partAt (T : Tx w K mg) : Df P w K mg base CX0 2 "part_at" ["program", "place"] [] (spPartAt K) := by
  have GI := ok_inner (P := P) (base := base) T
  refine df0 T.d_part_at T.g_part_at sc_part_at (fun _ _ _ _ _ _ us hl => match us, hl with | [_, _], _ => rfl) (fun vs H Q E h => ?_) (fun cdv A outer s H vs Q E hr h => ?_)
  · obtain ⟨v, p, a, pl, q, rfl, _⟩ := h
    rfl
  obtain ⟨v, p, a, pl, r, rfl, hp, hpl, he, q⟩ := h
  refine ⟨_, (pss_cons (ps_for PassesOwn.never rfl (pi_list (pv 1)) (pg_name (i := 2) sc_part_at.nd rfl (Or.inl rfl))
      (pss_cons (ps_set (i := 3) sc_part_at.nd rfl (.inl rfl) (cal GI hr pass0 (pa_cons (pv 0) pa_nil))) (pss_cons (ps_if (pt_not (pt_chain op_le op_lt pe_int (pv 2) (pe_callB call_len_seq rfl T.n_len PySem.boot_len (pa_cons (pv 3) pa_nil)))) (pss_one (ps_ret pe_non)) pss_nil) (pss_one (ps_set (i := 0) sc_part_at.nd rfl (.inl rfl) (pe_ix ix_list (pv 3) (pv 2) (fun _ _ => rfl))))))) (pss_one (ps_ret (pv 0)))), ?_⟩
  refine ⟨_, rfl, a, rfl, ⟨_, .of hpl⟩, for_list (xs := natV pl) (fun i σ H1 => Same H H1 ∧ ∃ p1 v1 z2 z3, σ = [some v1, some (.ref a), z2, z3] ∧ PgAt K H1 p1 v1 ∧ partAt p (pl.take i) = some p1 ∧ partAt p1 (pl.drop i) = some r) ⟨.refl H, p, v, _, _, rfl, hp, rfl, he⟩ (fun i σ H1 _ h => .of (h.1 _ _ hpl)) ?_ ?_⟩
  · rintro i x σ H1 hx ⟨s1, p1, v1, z2, z3, rfl, hp1, e1, e2⟩
    obtain ⟨n, hn, rfl⟩ : ∃ n, pl[i]? = some n ∧ x = V.int n := by
      unfold natV at hx
      obtain ⟨n, h1, h2⟩ := get_map hx
      exact ⟨n, h1, h2⟩
    have hi : i < pl.length := (List.getElem?_eq_some_iff.mp hn).1
    have hdr : pl.drop i = n :: pl.drop (i + 1) := by
      rw [List.drop_eq_getElem_cons hi]
      congr 1
      exact (List.getElem?_eq_some_iff.mp hn).2
    obtain ⟨p2, h2, e3⟩ : ∃ p2, (inner p1)[n]? = some p2 ∧ partAt p2 (pl.drop (i + 1)) = some r := by
      rw [hdr] at e2
      have e2' : (match (inner p1)[n]? with | some q => partAt q (pl.drop (i + 1)) | none => none) = some r := e2
      cases z : (inner p1)[n]? with
      | none => rw [z] at e2'; cases e2'
      | some p2 => rw [z] at e2'; exact ⟨p2, rfl, e2'⟩
    refine ⟨_, rfl, v1, p1, rfl, hp1, fun b ws H2 s2 n2 g2 r2 => ?_⟩
    have a2 := r2 H2 (.self s2)
    obtain ⟨v2, hv2, hp2⟩ := a2.get h2
    have hl : n < ws.length := (List.getElem?_eq_some_iff.mp hv2).1
    refine ⟨_, rfl, _, _, rfl, rfl, true, congrArg V.bl (decide_eq_true (by omega)), ifT rfl ⟨_, rfl, b, _, rfl, .inl (.of g2), _, _, rfl, rfl, true, congrArg V.bl (decide_eq_true (by omega)), ifF rfl ?_⟩⟩
    refine ⟨_, rfl, _, rfl, b, _, _, _, rfl, rfl, .of g2, atI_nat hv2, s1.trans s2, p2, v2, _, _, rfl, hp2, ?_, e3⟩
    have et : pl.take (i + 1) = pl.take i ++ [n] := by rw [List.take_succ, hn]; rfl
    rw [et, partAt_snoc e1, h2]
  · rintro σ H1 ⟨s1, p1, v1, z2, z3, rfl, hp1, e1, e2⟩
    have el : (natV pl).length = pl.length := List.length_map _
    rw [el, List.drop_length] at e2
    cases e2
    exact ⟨_, rfl, q.of s1 hp1⟩
/-! ### with_inner, with_part -/
def spWithInner (K : PySem.W.Frag) : Sp := fun vs H Q _ => ∃ (v : V) (p : Pg) (a : Addr) (ws : List V) (qs : List Pg), vs = [v, .ref a] ∧ PgAt K H p v ∧ H a = some (.lst ws) ∧ All2 (PgAt K H) qs ws ∧ qs.length = (inner p).length ∧ Ret H Q fun H' u => PgAt K H' (withInner p qs) u
theorem PgAt.dpl {K : PySem.W.Frag} {H : Hp} {qs : List Pg} {ws : List V} (h : All2 (PgAt K H) qs ws) : DpAll K H ws (qs.map Pg.dat) := All2.dp (f := Pg.dat) (fun _ _ => PgAt.dp) h
theorem ok_withInner (T : Tx w K mg) : Df P w K mg base CX0 1 "with_inner" ["program", "some"] [] (spWithInner K) := by
  refine df0 T.d_with_inner T.g_with_inner sc_with_inner (fun _ _ _ _ _ _ us hl => match us, hl with | [_, _], _ => rfl) (fun vs H Q E h => ?_) (fun cdv A outer s H vs Q E hr h => ?_)
  · obtain ⟨v, p, a, ws, qs, rfl, _⟩ := h
    rfl
  obtain ⟨v, p, b, ws, qs, rfl, hp, hb, hq, hn, q⟩ := h
  refine ⟨_, (pss_cons (ps_if (pt_tag (pv 0) mono_var) (pss_one (ps_ret (pe_tup (pa_cons (pv_at 0 0) (pa_cons (pv_at 0 1) (pa_cons (pv_at 0 2) (pa_cons (pe_atL 0 (pv 1) mono_var) pa_nil))))))) pss_nil) (pss_cons (ps_if (pt_cmpR (op_eqNil hr.u64) (pv 1) (pe_lst pa_nil) (nomark _)) (pss_one (ps_ret (pv 0))) pss_nil) (pss_one (ps_ret (pe_op op_catT (pe_tup (pa_cons (pv_at 0 0) pa_nil)) (pe_callTy call_tuple_of rfl T.n_tuple (by decide +kernel) (pa_cons (pv 1) pa_nil))))))), ?_⟩
  cases p with
  | name x =>
    obtain ⟨a, rfl, t⟩ := hp
    match qs, ws, hn, hq with
    | [], [], _, _ =>
    exact ⟨_, rfl, a, _, _, rfl, t, ifF (by decide +kernel) ⟨_, rfl, sz0, fun c hc => ⟨b, c, [], _, rfl, rfl, .of (same_new hc _ _ _ hb), .nil, rfl, .of upd_same, true, rfl, ifT rfl ⟨_, rfl, q.of (same_new hc _) ⟨a, rfl, (same_new hc _).tup t⟩⟩⟩⟩⟩
  | thing =>
    obtain ⟨a, rfl, t⟩ := hp
    match qs, ws, hn, hq with
    | [], [], _, _ =>
    exact ⟨_, rfl, a, _, _, rfl, t, ifF (by decide +kernel) ⟨_, rfl, sz0, fun c hc => ⟨b, c, [], _, rfl, rfl, .of (same_new hc _ _ _ hb), .nil, rfl, .of upd_same, true, rfl, ifT rfl ⟨_, rfl, q.of (same_new hc _) ⟨a, rfl, (same_new hc _).tup t⟩⟩⟩⟩⟩
  | take x k p =>
    obtain ⟨a, y, z, rfl, t, hy, hz⟩ := hp
    match qs, ws, hn, hq with
    | [r], [u], _, hq =>
    refine ⟨_, rfl, a, _, _, rfl, t, ifT (by decide +kernel) ⟨_, rfl, a, _, _, rfl, t, rfl, _, rfl, a, _, _, rfl, t, rfl, _, rfl, a, _, _, rfl, t, rfl, _, rfl, b, _, _, rfl, .of hb, rfl, sz4, fun c hc => ?_⟩⟩
    exact q.of (same_new hc _) ⟨c, _, _, rfl, .of upd_same, hy.same (same_new hc _), hq.1.same (same_new hc _)⟩
  | give p1 p2 =>
    obtain ⟨a, y, z, rfl, t, hy, hz⟩ := hp
    match qs, ws, hn, hq with
    | [r1, r2], [u1, u2], _, hq =>
    refine ⟨_, rfl, a, _, _, rfl, t, ifF (by decide +kernel) ⟨_, rfl, sz0, fun c hc => ⟨b, c, _, _, rfl, rfl, .of (same_new hc _ _ _ hb), PgAt.dpl (hq.imp fun _ _ h => h.same (same_new hc _)) , lays_all Pg.lays _, .of upd_same, false, rfl, ifF rfl ?_⟩⟩⟩
    refine ⟨_, rfl, a, _, _, rfl, (same_new hc _).tup t, rfl, sz1, fun d hd => ⟨_, rfl, b, _, rfl, .inl ⟨.of (same_new hd _ _ _ (same_new hc _ _ _ hb)), fun e he => ⟨d, e, _, _, rfl, rfl, .of (same_new he _ _ _ upd_same), .of upd_same, by simp, (by show 3 ≤ sizeLine; decide), (fun z => by cases z), fun _ g hg => ?_⟩⟩⟩⟩
    have s4 := (same_new hc (.lst [])).trans ((same_new hd (.tup [.str "give"])).trans ((same_new he (.tup [u1, u2])).trans (same_new hg (.tup ([.str "give"] ++ [u1, u2])))))
    exact q.of s4 ⟨g, u1, u2, rfl, .of upd_same, hq.1.same s4, hq.2.1.same s4⟩
  | pair p1 p2 =>
    obtain ⟨a, y, z, rfl, t, hy, hz⟩ := hp
    match qs, ws, hn, hq with
    | [r1, r2], [u1, u2], _, hq =>
    refine ⟨_, rfl, a, _, _, rfl, t, ifF (by decide +kernel) ⟨_, rfl, sz0, fun c hc => ⟨b, c, _, _, rfl, rfl, .of (same_new hc _ _ _ hb), PgAt.dpl (hq.imp fun _ _ h => h.same (same_new hc _)) , lays_all Pg.lays _, .of upd_same, false, rfl, ifF rfl ?_⟩⟩⟩
    refine ⟨_, rfl, a, _, _, rfl, (same_new hc _).tup t, rfl, sz1, fun d hd => ⟨_, rfl, b, _, rfl, .inl ⟨.of (same_new hd _ _ _ (same_new hc _ _ _ hb)), fun e he => ⟨d, e, _, _, rfl, rfl, .of (same_new he _ _ _ upd_same), .of upd_same, by simp, (by show 3 ≤ sizeLine; decide), (fun z => by cases z), fun _ g hg => ?_⟩⟩⟩⟩
    have s4 := (same_new hc (.lst [])).trans ((same_new hd (.tup [.str "pair"])).trans ((same_new he (.tup [u1, u2])).trans (same_new hg (.tup ([.str "pair"] ++ [u1, u2])))))
    exact q.of s4 ⟨g, u1, u2, rfl, .of upd_same, hq.1.same s4, hq.2.1.same s4⟩
  | first p1 =>
    obtain ⟨a, y, rfl, t, hy⟩ := hp
    match qs, ws, hn, hq with
    | [r1], [u1], _, hq =>
    refine ⟨_, rfl, a, _, _, rfl, t, ifF (by decide +kernel) ⟨_, rfl, sz0, fun c hc => ⟨b, c, _, _, rfl, rfl, .of (same_new hc _ _ _ hb), PgAt.dpl (hq.imp fun _ _ h => h.same (same_new hc _)) , lays_all Pg.lays _, .of upd_same, false, rfl, ifF rfl ?_⟩⟩⟩
    refine ⟨_, rfl, a, _, _, rfl, (same_new hc _).tup t, rfl, sz1, fun d hd => ⟨_, rfl, b, _, rfl, .inl ⟨.of (same_new hd _ _ _ (same_new hc _ _ _ hb)), fun e he => ⟨d, e, _, _, rfl, rfl, .of (same_new he _ _ _ upd_same), .of upd_same, by simp, (by show 2 ≤ sizeLine; decide), (fun z => by cases z), fun _ g hg => ?_⟩⟩⟩⟩
    have s4 := (same_new hc (.lst [])).trans ((same_new hd (.tup [.str "first"])).trans ((same_new he (.tup [u1])).trans (same_new hg (.tup ([.str "first"] ++ [u1])))))
    exact q.of s4 ⟨g, u1, rfl, .of upd_same, hq.1.same s4⟩
  | second p1 =>
    obtain ⟨a, y, rfl, t, hy⟩ := hp
    match qs, ws, hn, hq with
    | [r1], [u1], _, hq =>
    refine ⟨_, rfl, a, _, _, rfl, t, ifF (by decide +kernel) ⟨_, rfl, sz0, fun c hc => ⟨b, c, _, _, rfl, rfl, .of (same_new hc _ _ _ hb), PgAt.dpl (hq.imp fun _ _ h => h.same (same_new hc _)) , lays_all Pg.lays _, .of upd_same, false, rfl, ifF rfl ?_⟩⟩⟩
    refine ⟨_, rfl, a, _, _, rfl, (same_new hc _).tup t, rfl, sz1, fun d hd => ⟨_, rfl, b, _, rfl, .inl ⟨.of (same_new hd _ _ _ (same_new hc _ _ _ hb)), fun e he => ⟨d, e, _, _, rfl, rfl, .of (same_new he _ _ _ upd_same), .of upd_same, by simp, (by show 2 ≤ sizeLine; decide), (fun z => by cases z), fun _ g hg => ?_⟩⟩⟩⟩
    have s4 := (same_new hc (.lst [])).trans ((same_new hd (.tup [.str "second"])).trans ((same_new he (.tup [u1])).trans (same_new hg (.tup ([.str "second"] ++ [u1])))))
    exact q.of s4 ⟨g, u1, rfl, .of upd_same, hq.1.same s4⟩
/-! ### with_part -/
theorem withInner_len (p : Pg) (qs : List Pg) : True := trivial
def spWithPart (K : PySem.W.Frag) (n : Nat) : Sp := fun vs H Q _ => ∃ (v u : V) (p r q : Pg) (a : Addr) (pl : List Nat), vs = [v, .ref a, u] ∧ PgAt K H p v ∧ H a = some (.lst (natV pl)) ∧ partAt p pl = some r ∧ PgAt K H q u ∧ pl.length < n ∧ Ret H Q fun H' u => PgAt K H' (withPart p pl q) u
theorem All2.set {α : Type} {R : α → V → Prop} {x : α} {v : V} (h : R x v) : ∀ {l : List α} {ws : List V} (i : Nat), All2 R l ws → All2 R (l.set i x) (ws.set i v)
  | [], [], _, _ => trivial
  | [], _ :: _, _, h' => h'.elim
  | _ :: _, [], _, h' => h'.elim
  | _ :: _, _ :: _, 0, h' => ⟨h, h'.2⟩
  | _ :: _, _ :: _, i + 1, h' => ⟨h'.1, All2.set h i h'.2⟩
theorem ok_withPart (T : Tx w K mg) : ∀ n, Df P w K mg base CX0 (n + 1) "with_part" ["program", "place", "part"] [] (spWithPart K n)
  | 0 => df_none T.d_with_part T.g_with_part (fun _ _ _ _ _ _ us hl => match us, hl with | [_, _, _], _ => rfl) fun vs H Q E ⟨_, _, _, _, _, _, _, _, _, _, _, _, h, _⟩ => absurd h (Nat.not_lt_zero _)
  | n + 1 => by
    have G := ok_withPart T n
    have GI := (ok_inner (P := P) (base := base) T).mono (show 1 ≤ n + 1 by omega)
    have GW := (ok_withInner (P := P) (base := base) T).mono (show 1 ≤ n + 1 by omega)
    refine df0 T.d_with_part T.g_with_part sc_with_part (fun _ _ _ _ _ _ us hl => match us, hl with | [_, _, _], _ => rfl) (fun vs H Q E h => ?_) (fun cdv A outer s H vs Q E hr h => ?_)
    · obtain ⟨v, u, p, r, q, a, pl, rfl, _⟩ := h
      rfl
    obtain ⟨v, u, p, r, q0, a, pl, rfl, hp, ha, he, hq, hn, q⟩ := h
    refine ⟨_, (pss_cons (ps_if (pt_cmpR (op_eqNil hr.u64) (pv 1) (pe_lst pa_nil) (nomark _)) (pss_one (ps_ret (pv 2))) pss_nil) (pss_cons (ps_set (i := 3) sc_with_part.nd rfl (.inl rfl) (cal GI hr pass0 (pa_cons (pv 0) pa_nil))) (pss_cons (ps_asg (cal G hr pass0 (pa_cons (pe_ix ix_list (pv 3) (pe_atL 0 (pv 1) mono_var) (fun _ _ => rfl)) (pa_cons (pe_slice sl_list (pv 1) (po_some pe_int) po_none) (pa_cons (pv 2) pa_nil)))) (pg_sub (pv 3) (pe_atL 0 (pv 1) mono_var) set_list)) (pss_one (ps_ret (cal GW hr pass0 (pa_cons (pv 0) (pa_cons (pv 3) pa_nil)))))))), ?_⟩
    refine ⟨_, rfl, sz0, fun c hc => ⟨a, c, _, _, rfl, rfl, .of (same_new hc _ _ _ ha), dp_nats pl, lay_nats pl, .of upd_same, _, rfl, ?_⟩⟩
    have s0 := same_new hc (.lst [])
    cases pl with
    | nil => exact ifT rfl ⟨_, rfl, q.of s0 (hq.same s0)⟩
    | cons i pl =>
      have he' : (match (inner p)[i]? with | some q => partAt q pl | none => none) = some r := he
      cases hi : (inner p)[i]? with
      | none => rw [hi] at he'; cases he'
      | some p1 =>
        rw [hi] at he'
        refine ifF rfl ⟨_, rfl, v, p, rfl, hp.same s0, fun b ws H1 s1 n1 g1 r1 => ?_⟩
        have a1 := r1 H1 (.self s1)
        obtain ⟨v1, hv1, hp1⟩ := a1.get hi
        have ha1 := s1 _ _ (s0 _ _ ha)
        refine ⟨_, rfl, _, rfl, a, _, _, rfl, .of ha1, rfl, b, _, _, _, rfl, rfl, .of g1, atI_nat hv1, ?_⟩
        refine ⟨_, rfl, _, rfl, a, _, rfl, .of ha1, fun d hd => ?_⟩
        have s2 := same_new hd (.lst (cutV (natV (i :: pl)) (some 1) none))
        refine ⟨_, rfl, v1, u, p1, r, q0, d, pl, rfl, hp1.same s2, ?_, he', hq.same (s0.trans (s1.trans s2)), ?_, fun u2 H2 s3 hu2 => ?_⟩
        · rw [upd_same]
          congr 2
          show ((natV (i :: pl)).drop 1).take _ = natV pl
          show (natV pl).take ((natV (i :: pl)).length - 1) = natV pl
          exact List.take_of_length_le (by simp [natV])
        · have : (i :: pl).length < n + 1 := hn
          simpa using this
        have g2 := s3 _ _ (s2 _ _ g1)
        have ha2 := s3 _ _ (s2 _ _ ha1)
        have hl : i < ws.length := (List.getElem?_eq_some_iff.mp hv1).1
        refine ⟨_, rfl, _, rfl, a, _, _, rfl, .of ha2, rfl, b, ws, i, i, rfl, rfl, g2, ?_, ?_⟩
        · unfold ixN
          rw [if_pos (by omega), if_pos (by omega)]
          rfl
        have all1 : All2 (PgAt K (upd H2 b (.lst (ws.set i u2)))) ((inner p).set i (withPart p1 pl q0)) (ws.set i u2) := by
          have ts : TS K H2 (upd H2 b (.lst (ws.set i u2))) := But.ts (But.upd b H2 _) g2 rfl
          exact (All2.set hu2 i (a1.imp fun _ _ h => h.same (s2.trans s3))).imp fun _ _ h => h.ts ts
        have tsH : TS K H1 (upd H2 b (.lst (ws.set i u2))) := (s2.trans s3).ts.trans (But.ts (But.upd b H2 _) g2 rfl)
        have sm : Same H (upd H2 b (.lst (ws.set i u2))) := fun x o hx => by
          have h1 := s0 _ _ hx
          rw [upd_ne (ne_of_none h1 n1)]
          exact s3 _ _ (s2 _ _ (s1 _ _ h1))
        refine ⟨_, rfl, _, rfl, v, p, b, _, _, rfl, (hp.same (s0.trans s1)).ts tsH, upd_same, all1, by rw [List.length_set], fun u3 H3 s4 hu3 => q _ _ (sm.trans s4) ?_⟩
        have e : withPart p (i :: pl) q0 = withInner p ((inner p).set i (withPart p1 pl q0)) := by
          rw [withPart, hi]
        rw [e]
        exact hu3
end
end KF

set_option Elab.async false
set_option linter.all false
set_option maxRecDepth 100000
set_option maxHeartbeats 4000000
namespace KF
open PySem PySem.Spec L2 TL
/-! ### kinds of programs -/
abbrev Ctx := List (Nm × Kd)
def knownAs (l : Ctx) (x : Nm) : Option Kd := (l.reverse.find? fun q => decide (q.1 = x)).map (·.2)
def kindHere (l : Ctx) : Pg → List Kd → Option Kd
  | .name x, _ => knownAs l x
  | .take _ k _, [a] => some (.to k a)
  | .pair _ _, [a, b] => some (.both a b)
  | .thing, _ => some .one
  | .give _ _, [.to c d, b] => if c = b then some d else none
  | .first _, [.both a _] => some a
  | .second _, [.both _ b] => some b
  | _, _ => none
def kindIn (l : Ctx) : Pg → Option Kd
  | .name x => knownAs l x
  | .take x k p => (kindIn (l ++ [(x, k)]) p).map (Kd.to k)
  | .give p q => match kindIn l p, kindIn l q with
    | some (.to c d), some b => if c = b then some d else none
    | _, _ => none
  | .pair p q => match kindIn l p, kindIn l q with
    | some a, some b => some (.both a b)
    | _, _ => none
  | .first p => match kindIn l p with
    | some (.both a _) => some a
    | _ => none
  | .second p => match kindIn l p with
    | some (.both _ b) => some b
    | _ => none
  | .thing => some .one
/-- the names known within a program, one part down -/
def ctxOf (l : Ctx) : Pg → Ctx
  | .take x k _ => l ++ [(x, k)]
  | _ => l
theorem kindIn_inner {l : Ctx} {p : Pg} {k : Kd} (h : kindIn l p = some k) : ∃ ks, ks.length = (inner p).length ∧ (∀ (i : Nat) q c, (inner p)[i]? = some q → ks[i]? = some c → kindIn (ctxOf l p) q = some c) ∧ kindHere (ctxOf l p) p ks = some k ∧ (∀ x, p ≠ .name x → True) := by
  cases p with
  | name x => exact ⟨[], rfl, by intro i q c e; simp [inner] at e, h, fun _ _ => trivial⟩
  | thing => exact ⟨[], rfl, by intro i q c e; simp [inner] at e, h, fun _ _ => trivial⟩
  | take x c p =>
    have h' : (kindIn (l ++ [(x, c)]) p).map (Kd.to c) = some k := h
    cases z : kindIn (l ++ [(x, c)]) p with
    | none => rw [z] at h'; cases h'
    | some a =>
      rw [z] at h'
      refine ⟨[a], rfl, fun i q c' e1 e2 => ?_, h', fun _ _ => trivial⟩
      cases i with
      | zero => cases e1; cases e2; exact z
      | succ i => simp [inner] at e1
  | give p q =>
    have h' : (match kindIn l p, kindIn l q with | some (.to c d), some b => if c = b then some d else none | _, _ => none) = some k := h
    cases z1 : kindIn l p with
    | none => rw [z1] at h'; cases h'
    | some a =>
      cases z2 : kindIn l q with
      | none => rw [z1, z2] at h'; cases a <;> cases h'
      | some b =>
        rw [z1, z2] at h'
        refine ⟨[a, b], rfl, fun i r c' e1 e2 => ?_, (by cases a <;> first | exact h' | cases h'), fun _ _ => trivial⟩
        match i, e1, e2 with
        | 0, e1, e2 => cases e1; cases e2; exact z1
        | 1, e1, e2 => cases e1; cases e2; exact z2
  | pair p q =>
    have h' : (match kindIn l p, kindIn l q with | some a, some b => some (Kd.both a b) | _, _ => none) = some k := h
    cases z1 : kindIn l p with
    | none => rw [z1] at h'; cases h'
    | some a =>
      cases z2 : kindIn l q with
      | none => rw [z1, z2] at h'; cases h'
      | some b =>
        rw [z1, z2] at h'
        refine ⟨[a, b], rfl, fun i r c' e1 e2 => ?_, h', fun _ _ => trivial⟩
        match i, e1, e2 with
        | 0, e1, e2 => cases e1; cases e2; exact z1
        | 1, e1, e2 => cases e1; cases e2; exact z2
  | first p =>
    have h' : (match kindIn l p with | some (.both a _) => some a | _ => none) = some k := h
    cases z1 : kindIn l p with
    | none => rw [z1] at h'; cases h'
    | some a =>
      rw [z1] at h'
      refine ⟨[a], rfl, fun i r c' e1 e2 => ?_, (by cases a <;> first | exact h' | cases h'), fun _ _ => trivial⟩
      match i, e1, e2 with
      | 0, e1, e2 => cases e1; cases e2; exact z1
  | second p =>
    have h' : (match kindIn l p with | some (.both _ b) => some b | _ => none) = some k := h
    cases z1 : kindIn l p with
    | none => rw [z1] at h'; cases h'
    | some a =>
      rw [z1] at h'
      refine ⟨[a], rfl, fun i r c' e1 e2 => ?_, (by cases a <;> first | exact h' | cases h'), fun _ _ => trivial⟩
      match i, e1, e2 with
      | 0, e1, e2 => cases e1; cases e2; exact z1
theorem here_give {l : Ctx} {p q : Pg} {ks : List Kd} {k : Kd} (h : kindHere l (.give p q) ks = some k) : ∃ c, ks = [.to c k, c] := by
  match ks with
  | [] => cases h
  | [a] => cases a <;> cases h
  | [a, b] =>
    cases a with
    | to c d =>
      have h' : (if c = b then some d else none) = some k := h
      by_cases e : c = b
      · rw [if_pos e] at h'
        cases h'
        exact ⟨c, by rw [e]⟩
      · rw [if_neg e] at h'; cases h'
    | one => cases h
    | mark m => cases h
    | both c d => cases h
  | a :: b :: c :: r => cases a <;> cases h
theorem here_take {l : Ctx} {x : Nm} {c : Kd} {p : Pg} {ks : List Kd} {k : Kd} (h : kindHere l (.take x c p) ks = some k) : ∃ a, ks = [a] ∧ k = .to c a := by
  match ks with
  | [] => cases h
  | [a] => cases h; exact ⟨a, rfl, rfl⟩
  | a :: b :: r => cases h
theorem here_pair {l : Ctx} {p q : Pg} {ks : List Kd} {k : Kd} (h : kindHere l (.pair p q) ks = some k) : ∃ a b, ks = [a, b] ∧ k = .both a b := by
  match ks with
  | [] => cases h
  | [a] => cases h
  | [a, b] => cases h; exact ⟨a, b, rfl, rfl⟩
  | a :: b :: c :: r => cases h
theorem here_first {l : Ctx} {p : Pg} {ks : List Kd} {k : Kd} (h : kindHere l (.first p) ks = some k) : ∃ b, ks = [.both k b] := by
  match ks with
  | [] => cases h
  | [a] => cases a <;> cases h; exact ⟨_, rfl⟩
  | a :: b :: r => cases a <;> cases h
theorem here_second {l : Ctx} {p : Pg} {ks : List Kd} {k : Kd} (h : kindHere l (.second p) ks = some k) : ∃ a, ks = [.both a k] := by
  match ks with
  | [] => cases h
  | [a] => cases a <;> cases h; exact ⟨_, rfl⟩
  | a :: b :: r => cases a <;> cases h
theorem All2.one {α : Type} {R : α → V → Prop} {a : α} {us : List V} (h : All2 R [a] us) : ∃ u, us = [u] ∧ R a u := by
  match us, h with
  | [u], h => exact ⟨u, rfl, h.1⟩
theorem All2.two {α : Type} {R : α → V → Prop} {a b : α} {us : List V} (h : All2 R [a, b] us) : ∃ u v, us = [u, v] ∧ R a u ∧ R b v := by
  match us, h with
  | [u, v], h => exact ⟨u, v, rfl, h.1, h.2.1⟩
section
variable {P : Program} {w : World} {K : PySem.W.Frag} {mg : Str → Option Value} {base : Heap}
/-! ### known_as -/
def spKnownAs (K : PySem.W.Frag) : Sp := fun vs H Q _ => ∃ (a : Addr) (x : Nm) (l : Ctx) (ws : List V) (k : Kd), vs = [.ref a, .str x.str] ∧ H a = some (.lst ws) ∧ All2 (NmAt K H) l ws ∧ knownAs l x = some k ∧ ∀ v, KdAt K H k v → Q v H
theorem ok_knownAs (T : Tx w K mg) : Df P w K mg base CX0 1 "known_as" ["known", "name"] [] (spKnownAs K) := by
  refine df0 T.d_known_as T.g_known_as sc_known_as (fun _ _ _ _ _ _ us hl => match us, hl with | [_, _], _ => rfl) (fun vs H Q E h => ?_) (fun cdv A outer s H vs Q E hr h => ?_)
  · obtain ⟨a, x, l, ws, k, rfl, _⟩ := h
    rfl
  obtain ⟨a, x, l, ws, k, rfl, ha, hl, hk, q⟩ := h
  refine ⟨_, (pss_cons (ps_for PassesOwn.never rfl (pi_reversed rfl T.n_reversed (pa_cons (pv 0) pa_nil)) (pg_tup rfl (pgs_cons (pg_name (i := 2) sc_known_as.nd rfl (Or.inl rfl)) (pgs_cons (pg_name (i := 3) sc_known_as.nd rfl (Or.inl rfl)) pgs_nil)))
      (pss_one (ps_if (pt_cmpR op_eq (pv 2) (pv 1) (nomark _)) (pss_one (ps_ret (pv 3))) pss_nil))) (pss_one (ps_ret pe_non))), ?_⟩
  have el := hl.length
  refine ⟨_, rfl, a, ws, rfl, .of ha, for_it walk_rev (fun i σ H1 => H1 = H ∧ (∃ z2 z3, σ = [some (.ref a), some (.str x.str), z2, z3]) ∧ ∀ (j : Nat) q, j < i → l.reverse[j]? = some q → q.1 ≠ x) ⟨rfl, ⟨_, _, rfl⟩, fun _ _ h => absurd h (Nat.not_lt_zero _)⟩ (fun i σ H1 _ h => by rw [h.1]; exact .of ha) ?_ ?_⟩
  · rintro i v σ H1 H2 hi ⟨rfl, ⟨z2, z3, rfl⟩, hn⟩ ⟨rfl, hv⟩
    obtain ⟨q1, hq, t, y, rfl, ht, hy⟩ := hl.getV hv
    have hrev : l.reverse[i]? = some q1 := by
      rw [List.getElem?_reverse (by omega), ← el]
      exact hq
    refine ⟨t, _, rfl, ht, rfl, _, _, rfl, _, _, rfl, rfl, ?_⟩
    refine ⟨_, rfl, _, rfl, rfl, _, rfl, ?_⟩
    rw [dec_str, Nm.eq_iff]
    by_cases e : q1.1 = x
    · refine ifT (decide_eq_true e) ⟨_, rfl, q _ ?_⟩
      have fd : l.reverse.find? (fun q => decide (q.1 = x)) = some q1 := by
        rw [List.find?_eq_some_iff_getElem]
        obtain ⟨hlt, hget⟩ := List.getElem?_eq_some_iff.mp hrev
        refine ⟨decide_eq_true e, i, hlt, hget, fun j hj => ?_⟩
        have := hn j l.reverse[j] hj (List.getElem?_eq_getElem _)
        show (!decide ((l.reverse[j]).1 = x)) = true
        rw [decide_eq_false this]
        rfl
      unfold knownAs at hk
      rw [fd] at hk
      obtain rfl : q1.2 = k := Option.some.inj hk
      exact hy
    · refine ifF (decide_eq_false e) ⟨rfl, ⟨_, _, rfl⟩, fun j q2 hj h2 => ?_⟩
      by_cases e2 : j = i
      · subst e2
        rw [hrev] at h2
        cases h2
        exact e
      · exact hn j q2 (by omega) h2
  · rintro σ H1 ⟨rfl, _, hn⟩
    exfalso
    unfold knownAs at hk
    cases fd : l.reverse.find? (fun q => decide (q.1 = x)) with
    | none => rw [fd] at hk; cases hk
    | some q1 =>
      obtain ⟨h1, i, hlt, hget, _⟩ := List.find?_eq_some_iff_getElem.mp fd
      exact hn i q1 (by rw [List.length_reverse] at hlt; omega) (List.getElem?_eq_some_iff.mpr ⟨hlt, hget⟩) (of_decide_eq_true h1)
/-! ### kind_here -/
def spKindHere (K : PySem.W.Frag) : Sp := fun vs H Q _ => ∃ (a b : Addr) (v : V) (p : Pg) (l : Ctx) (ws us : List V) (ks : List Kd) (k : Kd), vs = [.ref a, v, .ref b] ∧ H a = some (.lst ws) ∧ All2 (NmAt K H) l ws ∧ PgAt K H p v ∧ H b = some (.lst us) ∧ All2 (KdAt K H) ks us ∧
  kindHere l p ks = some k ∧ (∀ c ∈ ks, c.depth ≤ 300) ∧ Ret H Q fun H' u => KdAt K H' k u
theorem ok_kindHere (T : Tx w K mg) : Df P w K mg base CX0 2 "kind_here" ["known", "program", "some"] [] (spKindHere K) := by
  have GK := ok_knownAs (P := P) (base := base) T
  refine df0 T.d_kind_here T.g_kind_here sc_kind_here (fun _ _ _ _ _ _ us hl => match us, hl with | [_, _, _], _ => rfl) (fun vs H Q E h => ?_) (fun cdv A outer s H vs Q E hr h => ?_)
  · obtain ⟨a, b, v, p, l, ws, us, ks, k, rfl, _⟩ := h
    rfl
  obtain ⟨a, b, v, p, l, ws, us, ks, k, rfl, ha, hl, hp, hb, hk, he, hd, q⟩ := h
  refine ⟨_, (pss_cons (ps_set (i := 3) sc_kind_here.nd rfl (.inl rfl) (pv_at 1 0)) (pss_cons (ps_if (pt_cmpR op_eq (pv 3) pe_str (nomark _)) (pss_one (ps_ret (cal GK hr pass0 (pa_cons (pv 0) (pa_cons (pv_at 1 1) pa_nil))))) pss_nil) (pss_cons (ps_if (pt_cmpR op_eq (pv 3) pe_str (nomark _)) (pss_one (ps_ret (pe_tup (pa_cons pe_str (pa_cons (pv_at 1 2) (pa_cons (pe_atL 0 (pv 2) mono_var) pa_nil)))))) pss_nil) (pss_cons (ps_if (pt_cmpR op_eq (pv 3) pe_str (nomark _)) (pss_one (ps_ret (pe_tup (pa_cons pe_str (pa_cons (pe_atL 0 (pv 2) mono_var) (pa_cons (pe_atL 1 (pv 2) mono_var) pa_nil)))))) pss_nil) (pss_cons (ps_if (pt_cmpR op_eq (pv 3) pe_str (nomark _)) (pss_one (ps_ret (pe_glob (v := .ref (He.ga K "ONE")) rfl T.i_ONE rfl))) pss_nil) (pss_cons (ps_if (pt_cmpR op_eq (pv 3) pe_str (nomark _)) (pss_one (ps_ret (pv_at 1 1))) pss_nil) (pss_cons (ps_if (pt_cmpR op_eq (pv 3) pe_str (nomark _)) (pss_cons (ps_if (PW.pt (pw_and (pt_tag (pe_atL 0 (pv 2) mono_var) (mono_atL mono_var)) (pw_and1 (pt_cmpR (op_eqK hr.u) (pe_at 1 (pe_atL 0 (pv 2) mono_var) (mono_atL mono_var)) (pe_atL 1 (pv 2) mono_var) (nomark _))))) (pss_one (ps_ret (pe_at 2 (pe_atL 0 (pv 2) mono_var) (mono_atL mono_var)))) pss_nil) (pss_one (ps_ret pe_non))) pss_nil) (pss_cons (ps_if (pt_ntag (pe_atL 0 (pv 2) mono_var) (mono_atL mono_var)) (pss_one (ps_ret pe_non)) pss_nil) (pss_one (ps_ret (pe_ix ix_tup (pe_atL 0 (pv 2) mono_var) (pe_op op_add pe_int (pe_callTy call_int1 rfl T.n_int (by decide +kernel) (pa_cons (pe_cmpR op_eq (pv 3) pe_str (nomark _)) pa_nil))) (fun _ _ => rfl)))))))))))), ?_⟩
  have no : ∀ {s t : Str} {A B : Prop}, decide (s = t) = false → B → if decide (V.str s = V.str t) = true then A else B := fun h b => ifF (str_ne h) b
  cases p with
  | name x =>
    obtain ⟨c, rfl, t⟩ := hp
    exact ⟨_, rfl, c, _, _, rfl, t, rfl, _, rfl, rfl, _, rfl, ifT str_eq ⟨_, rfl, _, rfl, c, _, _, rfl, t, rfl, a, x, l, ws, k, rfl, ha, hl, he, fun v hv => q.at hv⟩⟩
  | thing =>
    obtain ⟨c, rfl, t⟩ := hp
    obtain rfl : Kd.one = k := Option.some.inj he
    exact ⟨_, rfl, c, _, _, rfl, t, rfl, _, rfl, rfl, _, rfl, no (by decide +kernel) ⟨_, rfl, rfl, _, rfl, no (by decide +kernel) ⟨_, rfl, rfl, _, rfl, no (by decide +kernel) ⟨_, rfl, rfl, _, rfl, ifT str_eq (q.at (one_at T H))⟩⟩⟩⟩
  | take x c p =>
    obtain ⟨d, y, z, rfl, t, hy, hz⟩ := hp
    obtain ⟨k1, rfl, rfl⟩ := here_take he
    obtain ⟨u1, rfl, hk1⟩ := hk.one
    refine ⟨_, rfl, d, _, _, rfl, t, rfl, _, rfl, rfl, _, rfl, no (by decide +kernel) ⟨_, rfl, rfl, _, rfl, ifT str_eq ⟨_, rfl, d, _, _, rfl, t, rfl, _, rfl, b, _, _, rfl, .of hb, rfl, sz3, fun p hp => ?_⟩⟩⟩
    exact q.of (same_new hp _) ⟨p, _, _, rfl, .of upd_same, hy.same (same_new hp _), hk1.same (same_new hp _)⟩
  | pair p1 p2 =>
    obtain ⟨d, y, z, rfl, t, hy, hz⟩ := hp
    obtain ⟨k1, k2, rfl, rfl⟩ := here_pair he
    obtain ⟨u1, u2, rfl, hk1, hk2⟩ := hk.two
    refine ⟨_, rfl, d, _, _, rfl, t, rfl, _, rfl, rfl, _, rfl, no (by decide +kernel) ⟨_, rfl, rfl, _, rfl, no (by decide +kernel) ⟨_, rfl, rfl, _, rfl, ifT str_eq ⟨_, rfl, b, _, _, rfl, .of hb, rfl, _, rfl, b, _, _, rfl, .of hb, rfl, sz3, fun p hp => ?_⟩⟩⟩⟩
    exact q.of (same_new hp _) ⟨p, _, _, rfl, .of upd_same, hk1.same (same_new hp _), hk2.same (same_new hp _)⟩
  | give p1 p2 =>
    obtain ⟨d, y, z, rfl, t, hy, hz⟩ := hp
    obtain ⟨k1, rfl⟩ := here_give he
    obtain ⟨u1, u2, rfl, hk1, hk2⟩ := hk.two
    obtain ⟨f, f1, f2, rfl, tf, h1, h2⟩ := hk1
    refine ⟨_, rfl, d, _, _, rfl, t, rfl, _, rfl, rfl, _, rfl, no (by decide +kernel) ⟨_, rfl, rfl, _, rfl, no (by decide +kernel) ⟨_, rfl, rfl, _, rfl, no (by decide +kernel) ⟨_, rfl, rfl, _, rfl, no (by decide +kernel) ⟨_, rfl, rfl, _, rfl, no (by decide +kernel) ⟨_, rfl, rfl, _, rfl, ifT str_eq ?_⟩⟩⟩⟩⟩⟩
    refine ⟨_, rfl, b, _, _, rfl, .of hb, rfl, f, _, _, rfl, tf, ifT (by decide +kernel) ?_⟩
    refine ⟨_, rfl, b, _, _, rfl, .of hb, rfl, f, _, _, rfl, tf, rfl, _, rfl, b, _, _, rfl, .of hb, rfl, k1, k1, h1, hk2, ?_, _, rfl, ifT (decide_eq_true rfl) ?_⟩
    · have := hd k1 (by simp)
      omega
    exact ⟨_, rfl, b, _, _, rfl, .of hb, rfl, f, _, _, rfl, tf, rfl, q.at h2⟩
  | first p1 =>
    obtain ⟨d, y, rfl, t, hy⟩ := hp
    obtain ⟨k3, rfl⟩ := here_first he
    obtain ⟨u1, rfl, hk1⟩ := hk.one
    obtain ⟨f, f1, f2, rfl, tf, h1, h2⟩ := hk1
    refine ⟨_, rfl, d, _, _, rfl, t, rfl, _, rfl, rfl, _, rfl, no (by decide +kernel) ⟨_, rfl, rfl, _, rfl, no (by decide +kernel) ⟨_, rfl, rfl, _, rfl, no (by decide +kernel) ⟨_, rfl, rfl, _, rfl, no (by decide +kernel) ⟨_, rfl, rfl, _, rfl, no (by decide +kernel) ⟨_, rfl, rfl, _, rfl, no (by decide +kernel) ?_⟩⟩⟩⟩⟩⟩
    refine ⟨_, rfl, b, _, _, rfl, .of hb, rfl, f, _, _, rfl, tf, ifF (by decide +kernel) ?_⟩
    refine ⟨_, rfl, b, _, _, rfl, .of hb, rfl, _, rfl, rfl, .inr ⟨_, rfl, _, _, rfl, rfl, f, _, _, _, rfl, rfl, tf, ?_, q.at h1⟩⟩
    rw [str_ne (by decide +kernel)]
    exact atI_nat (j := 1) rfl
  | second p1 =>
    obtain ⟨d, y, rfl, t, hy⟩ := hp
    obtain ⟨k1, rfl⟩ := here_second he
    obtain ⟨u1, rfl, hk1⟩ := hk.one
    obtain ⟨f, f1, f2, rfl, tf, h1, h2⟩ := hk1
    refine ⟨_, rfl, d, _, _, rfl, t, rfl, _, rfl, rfl, _, rfl, no (by decide +kernel) ⟨_, rfl, rfl, _, rfl, no (by decide +kernel) ⟨_, rfl, rfl, _, rfl, no (by decide +kernel) ⟨_, rfl, rfl, _, rfl, no (by decide +kernel) ⟨_, rfl, rfl, _, rfl, no (by decide +kernel) ⟨_, rfl, rfl, _, rfl, no (by decide +kernel) ?_⟩⟩⟩⟩⟩⟩
    refine ⟨_, rfl, b, _, _, rfl, .of hb, rfl, f, _, _, rfl, tf, ifF (by decide +kernel) ?_⟩
    refine ⟨_, rfl, b, _, _, rfl, .of hb, rfl, _, rfl, rfl, .inr ⟨_, rfl, _, _, rfl, rfl, f, _, _, _, rfl, rfl, tf, ?_, q.at h2⟩⟩
    rw [str_eq]
    exact atI_nat (j := 2) rfl
end
end KF

set_option Elab.async false
set_option linter.all false
set_option maxRecDepth 100000
set_option maxHeartbeats 4000000
namespace KF
open PySem PySem.Spec L2 TL
/-- a block by its first statement, and what holds behind it -/
theorem cut {X : Cx} {st : Stmt} {rest : List Stmt} {t1 : L2.TS} {D : Ends} {σ : L2.St} {H : Hp} (R : L2.St → Hp → Prop) (h1 : PS X st t1) (h2 : ∃ t2, PSs X rest t2 ∧ ∀ σ' H', R σ' H' → t2 D σ' H')
    (h3 : ∀ N : L2.St → Hp → Prop, (∀ σ' H', R σ' H' → N σ' H') → t1 { D with nx := N } σ H) : ∃ t, PSs X (st :: rest) t ∧ t D σ H := by
  obtain ⟨t2, p2, q2⟩ := h2
  exact ⟨_, pss_cons h1 p2, h3 _ q2⟩
/-! ### how deep kinds get -/
theorem knownAs_mem {l : Ctx} {x : Nm} {k : Kd} (h : knownAs l x = some k) : (x, k) ∈ l := by
  unfold knownAs at h
  cases fd : l.reverse.find? (fun q => decide (q.1 = x)) with
  | none => rw [fd] at h; cases h
  | some q =>
    rw [fd] at h
    obtain rfl : q.2 = k := Option.some.inj h
    have m := List.mem_reverse.mp (List.mem_of_find?_eq_some fd)
    have e := of_decide_eq_true (List.find?_some (p := fun q : Nm × Kd => decide (q.1 = x)) fd)
    rw [← e]
    exact m
theorem kindIn_depth {D : Nat} : ∀ {p : Pg} {l : Ctx} {k : Kd}, (∀ q ∈ l, q.2.depth ≤ D) → p.kdeep ≤ D → kindIn l p = some k → k.depth ≤ D + p.deep
  | .name x, l, k, hl, _, h => by
    have := hl _ (knownAs_mem h)
    show k.depth ≤ D + 0
    exact this
  | .thing, l, k, _, _, h => by
    obtain rfl : Kd.one = k := Option.some.inj h
    exact Nat.zero_le _
  | .take x c p, l, k, hl, hp, h => by
    obtain ⟨ks, e1, e2, e3, _⟩ := kindIn_inner h
    obtain ⟨a, rfl, rfl⟩ := here_take e3
    have hp' : max (c.depth + 1) p.kdeep ≤ D := hp
    have ha : kindIn (l ++ [(x, c)]) p = some a := e2 0 p a rfl rfl
    have := kindIn_depth (D := D) (p := p) (fun q hq => by
      rcases List.mem_append.mp hq with hq | hq
      · exact hl q hq
      · simp at hq; subst hq; show c.depth ≤ D; omega) (by omega) ha
    show 1 + max c.depth a.depth ≤ D + (p.deep + 1)
    omega
  | .give p q, l, k, hl, hp, h => by
    obtain ⟨ks, e1, e2, e3, _⟩ := kindIn_inner h
    obtain ⟨c, rfl⟩ := here_give e3
    have hp' : max p.kdeep q.kdeep ≤ D := hp
    have := kindIn_depth (D := D) (p := p) hl (by omega) (e2 0 p _ rfl rfl)
    have this' : 1 + max c.depth k.depth ≤ D + p.deep := this
    show k.depth ≤ D + (max p.deep q.deep + 1)
    omega
  | .pair p q, l, k, hl, hp, h => by
    obtain ⟨ks, e1, e2, e3, _⟩ := kindIn_inner h
    obtain ⟨a, b, rfl, rfl⟩ := here_pair e3
    have hp' : max p.kdeep q.kdeep ≤ D := hp
    have h1 := kindIn_depth (D := D) (p := p) hl (by omega) (e2 0 p _ rfl rfl)
    have h2 := kindIn_depth (D := D) (p := q) hl (by omega) (e2 1 q _ rfl rfl)
    show 1 + max a.depth b.depth ≤ D + (max p.deep q.deep + 1)
    omega
  | .first p, l, k, hl, hp, h => by
    obtain ⟨ks, e1, e2, e3, _⟩ := kindIn_inner h
    obtain ⟨b, rfl⟩ := here_first e3
    have := kindIn_depth (D := D) (p := p) hl hp (e2 0 p _ rfl rfl)
    have this' : 1 + max k.depth b.depth ≤ D + p.deep := this
    show k.depth ≤ D + (p.deep + 1)
    omega
  | .second p, l, k, hl, hp, h => by
    obtain ⟨ks, e1, e2, e3, _⟩ := kindIn_inner h
    obtain ⟨b, rfl⟩ := here_second e3
    have := kindIn_depth (D := D) (p := p) hl hp (e2 0 p _ rfl rfl)
    have this' : 1 + max b.depth k.depth ≤ D + p.deep := this
    show k.depth ≤ D + (p.deep + 1)
    omega
theorem inner_kdeep {p q : Pg} (h : q ∈ inner p) : q.kdeep ≤ p.kdeep := by
  cases p <;> simp [inner] at h
  case take x k p => subst h; exact Nat.le_max_right _ _
  case first p => subst h; exact Nat.le_refl _
  case second p => subst h; exact Nat.le_refl _
  case give a b => rcases h with rfl | rfl; exact Nat.le_max_left _ _; exact Nat.le_max_right _ _
  case pair a b => rcases h with rfl | rfl; exact Nat.le_max_left _ _; exact Nat.le_max_right _ _
section
variable {P : Program} {w : World} {K : PySem.W.Frag} {mg : Str → Option Value} {base : Heap}
/-! ### kind_within -/
def spKindWithin (K : PySem.W.Frag) (n : Nat) : Sp := fun vs H Q _ => ∃ (a b : Addr) (v : V) (p : Pg) (l : Ctx) (ws : List V) (pl : List Nat) (k : Kd), vs = [.ref a, v, .ref b] ∧ H a = some (.lst ws) ∧ All2 (NmAt K H) l ws ∧ PgAt K H p v ∧ H b = some (.lst (natV pl)) ∧
  kindIn l p = some k ∧ (∀ q ∈ l, q.2.depth ≤ 100) ∧ p.kdeep ≤ 100 ∧ p.deep ≤ 150 ∧ p.deep < n ∧ ws.length + n ≤ 10000 ∧ pl.length + n ≤ 10000 ∧ Ret H Q fun H' u => KdAt K H' k u
theorem tag_take (p : Pg) : (∃ x c r, p = .take x c r) ∨ decide (p.tag = "take") = false := by
  cases p with
  | take x c r => exact .inl ⟨x, c, r, rfl⟩
  | _ => exact .inr (by show decide (Str.ofString _ = _) = false; decide +kernel)
theorem ok_kindWithin (T : Tx w K mg) : ∀ n, Df P w K mg base CX0 (n + 2) "kind_within" ["known", "program", "place"] [] (spKindWithin K n)
  | 0 => df_none T.d_kind_within T.g_kind_within (fun _ _ _ _ _ _ us hl => match us, hl with | [_, _, _], _ => rfl) fun vs H Q E ⟨_, _, _, _, _, _, _, _, _, _, _, _, _, _, _, _, _, h, _⟩ => absurd h (Nat.not_lt_zero _)
  | n + 1 => by
    have G := ok_kindWithin T n
    have GI := (ok_inner (P := P) (base := base) T).mono (show 1 ≤ n + 2 by omega)
    have GH := (ok_kindHere (P := P) (base := base) T).mono (show 2 ≤ n + 2 by omega)
    refine df0 T.d_kind_within T.g_kind_within sc_kind_within (fun _ _ _ _ _ _ us hl => match us, hl with | [_, _, _], _ => rfl) (fun vs H Q E h => ?_) (fun cdv A outer s H vs Q E hr h => ?_)
    · obtain ⟨a, b, v, p, l, ws, pl, k, rfl, _⟩ := h
      rfl
    obtain ⟨a, b, v, p, l, ws, pl, k, rfl, ha, hl, hp, hb, hk, hld, hkd, hpd, hn, hz1, hz2, q⟩ := h
    refine cut (fun σ' H' => ∃ a' ws', σ' = [some (.ref a'), some v, some (.ref b), none, none, none, none] ∧ Same H H' ∧ H' a' = some (.lst ws') ∧ All2 (NmAt K H') (ctxOf l p) ws')
      (ps_if (pt_tag (pv 1) mono_var) (pss_one (ps_set (i := 0) sc_kind_within.nd rfl (.inr rfl) (pe_op op_cat (pv 0) (pe_lst (pa_cons (pe_tup (pa_cons (pv_at 1 1) (pa_cons (pv_at 1 2) pa_nil))) pa_nil))))) pss_nil)
      ⟨_, (pss_cons (ps_setLc (i := 3) (own := [("k", 5), ("part", 6)]) (g := gTup K 2 (gCons (gName 5) (gCons (gName 6) gNil))) (tt := tYes) (te := tCall (spKindWithin K n) [] E0 (tCons (tVar 0) (tCons (tVar 6) (tCons (tOp rCat (tVar 2) (tLst (tCons (tVar 5) tNil))) tNil)))) rfl sc_kind_within.nd rfl rfl (sw_true rfl rfl rfl (by decide +kernel)) (pi_enum rfl T.n_enumerate (pa_cons (cal GI hr pass0 (pa_cons (pv 1) pa_nil)) pa_nil)) (blkOk_by (own := [("k", 5), ("part", 6)]) (N := ["known", "program", "place", "some", "found", "k", "part"]) (sc := defScope s_kind_within) (by decide +kernel))
          (fun _ _ _ _ _ => pg_tup rfl (pgs_cons (pg_name (i := 5) sc_kind_within.nd rfl (Or.inl rfl)) (pgs_cons (pg_name (i := 6) sc_kind_within.nd rfl (Or.inl rfl)) pgs_nil))) (fun _ _ _ _ _ => pts_nil)
          (fun _ _ _ _ _ => cal G hr pass0 (pa_cons (pv 0) (pa_cons (pv 6) (pa_cons (pe_op op_cat (pv 2) (pe_lst (pa_cons (pv 5) pa_nil))) pa_nil))))) (pss_cons (ps_set (i := 4) sc_kind_within.nd rfl (.inl rfl) (cal GH hr pass0 (pa_cons (pv 0) (pa_cons (pv 1) (pa_cons (pv 3) pa_nil))))) (pss_cons (ps_if (pt_cmp (pc_isN (pv 4))) (pss_one (ps_never)) pss_nil) (pss_one (ps_ret (pv 4)))))), ?_⟩ ?_
    · rintro σ' H1 ⟨a', ws', rfl, s1, ga, la⟩
      obtain ⟨ks, ek, ec, eh, _⟩ := kindIn_inner hk
      have hld' : ∀ q ∈ ctxOf l p, q.2.depth ≤ 100 := by
        rcases tag_take p with ⟨x, c, r, rfl⟩ | ht
        · intro q hq
          have hkd' : max (c.depth + 1) r.kdeep ≤ 100 := hkd
          rcases List.mem_append.mp (show q ∈ l ++ [(x, c)] from hq) with hq | hq
          · exact hld q hq
          · simp at hq; subst hq; show c.depth ≤ 100; omega
        · have e : ctxOf l p = l := by cases p <;> first | rfl | exact absurd ht (by show ¬ decide (Str.ofString "take" = Str.ofString "take") = false; decide +kernel)
          rw [e]; exact hld
      have hlen : ws'.length ≤ ws.length + 1 := by
        rw [la.length, hl.length]
        cases p <;> simp [ctxOf]
      have hksd : ∀ c ∈ ks, c.depth ≤ 300 := by
        intro c hc
        obtain ⟨i, hi⟩ := List.mem_iff_getElem?.mp hc
        have hil : i < (inner p).length := by rw [← ek]; exact (List.getElem?_eq_some_iff.mp hi).1
        have hq := List.getElem?_eq_getElem hil
        have m := List.getElem_mem hil
        have e := ec i _ c hq hi
        have d1 := kindIn_depth (D := 100) hld' (Nat.le_trans (inner_kdeep m) hkd) e
        have d2 := inner_deep m
        omega
      refine ⟨_, rfl, v, p, rfl, hp.same s1, fun b1 l1 H2 s2 n2 g2 r2 => ⟨b1, l1, rfl, .of g2, fun D hD => ?_⟩⟩
      have a1 := r2 H2 (.self s2)
      have m1 := a1.length
      have s12 := s1.trans s2
      refine lc_build (K := K) (walk_enum (xs := l1)) (KdAt K) ks (by rw [ek]; exact m1.symm) (by have := inner_len p; omega) hD (fun H s => .of (s _ _ g2)) (fun i c x H3 H4 Q2 hb2 s3 hY q2 => ?_) (fun H3 ys s3 gD rD => ?_)
      · obtain ⟨t, xi, xv, rfl, ht, rfl, ei, ev⟩ := hY
        cases ei
        have hil : i < (inner p).length := by rw [← ek]; exact (List.getElem?_eq_some_iff.mp hb2).1
        have hq := List.getElem?_eq_getElem hil
        have m := List.getElem_mem hil
        obtain ⟨x', hx', pe⟩ := (r2 H3 (.same s2 s3)).get hq
        obtain rfl : x' = xv := Option.some.inj (hx'.symm.trans ev)
        have sT := same_new ht (.tup [.int (i : Nat), x'])
        refine ⟨t, _, rfl, .of upd_same, rfl, _, _, rfl, _, _, rfl, rfl, rfl, ?_⟩
        have ga4 := sT _ _ (s3 _ _ (s2 _ _ ga))
        have hb4 := sT _ _ (s3 _ _ (s12 _ _ hb))
        refine ⟨_, rfl, _, rfl, _, rfl, _, rfl, sz1, fun c1 hc1 => ⟨b, c1, _, _, rfl, rfl, same_new hc1 _ _ _ hb4, upd_same, ?_, fun c2 hc2 => ?_⟩⟩
        · show (natV pl).length + 1 ≤ sizeLine
          have : (natV pl).length = pl.length := List.length_map _
          exact small (by omega)
        have s5 := same_new hc1 (.lst [.int (i : Nat)])
        have s6 := same_new hc2 (.lst (natV pl ++ [.int (i : Nat)]))
        have s36 := sT.trans (s5.trans s6)
        have d2 := inner_deep m
        have d3 := inner_kdeep m
        refine ⟨a', c2, x', _, ctxOf l p, ws', pl ++ [i], c, rfl, s6 _ _ (s5 _ _ ga4), la.imp fun _ _ h => h.same (s2.trans (s3.trans s36)), pe.same s36, ?_, ec i _ c hq hb2, hld', by omega, by omega, by omega, by omega, by rw [List.length_append]; show pl.length + 1 + n ≤ _; omega, fun u H7 s7 hu => q2 _ _ (s36.trans s7) fun H'' x => hu.ts (x.all (s36.trans s7))⟩
        rw [upd_same]
        unfold natV
        rw [List.map_append]
        rfl
      · have kk := rD H3 (.self s3)
        refine ⟨_, rfl, _, rfl, _, rfl, a', D, v, p, ctxOf l p, ws', ys, ks, k, rfl, s3 _ _ (s2 _ _ ga), la.imp fun _ _ h => h.same (s2.trans s3), hp.same (s12.trans s3), gD, kk, eh, hksd, fun u H4 s4 hu => ?_⟩
        obtain ⟨ua, _, rfl, _⟩ := hu.tagged
        exact ⟨_, rfl, _, rfl, ifF rfl ⟨_, rfl, q _ _ ((s12.trans s3).trans s4) hu⟩⟩
    · intro N hN
      rcases tag_take p with ⟨x, c, r, rfl⟩ | ht
      · obtain ⟨t, y, z, rfl, ht, hy, hz⟩ := hp
        refine ⟨_, rfl, t, _, _, rfl, ht, ifT (by decide +kernel) ⟨_, rfl, _, rfl, t, _, _, rfl, ht, rfl, _, rfl, t, _, _, rfl, ht, rfl, sz2, fun c1 hc1 => ⟨sz1, fun c2 hc2 => ?_⟩⟩⟩
        have s1 := same_new hc1 (.tup [.str x.str, y])
        have s2 := same_new hc2 (.lst [.ref c1])
        refine ⟨a, c2, _, _, rfl, rfl, s2 _ _ (s1 _ _ ha), upd_same, ?_, fun c3 hc3 => hN _ _ ⟨c3, ws ++ [.ref c1], rfl, ?_, upd_same, ?_⟩⟩
        · show ws.length + 1 ≤ sizeLine
          exact small (by omega)
        · exact s1.trans (s2.trans (same_new hc3 _))
        · have s3 := same_new hc3 (.lst (ws ++ [.ref c1]))
          have s23 := s2.trans s3
          exact (hl.imp fun _ _ h => h.same (s1.trans s23)).snoc ⟨c1, y, rfl, s23.tup (.of upd_same), hy.same (s1.trans s23)⟩
      · obtain ⟨t, xs, rfl, htg⟩ := hp.tagged
        have e : ctxOf l p = l := by cases p <;> first | rfl | exact absurd ht (by show ¬ decide (Str.ofString "take" = Str.ofString "take") = false; decide +kernel)
        exact ⟨_, rfl, t, _, _, rfl, htg, ifF ht (hN _ _ ⟨a, ws, rfl, .refl H, ha, by rw [e]; exact hl⟩)⟩
def spKindOf (K : PySem.W.Frag) : Sp := fun vs H Q _ => ∃ (a : Addr) (v : V) (p : Pg) (l : Ctx) (ws : List V) (k : Kd), vs = [.ref a, v] ∧ H a = some (.lst ws) ∧ All2 (NmAt K H) l ws ∧ PgAt K H p v ∧
  kindIn l p = some k ∧ (∀ q ∈ l, q.2.depth ≤ 100) ∧ p.kdeep ≤ 100 ∧ p.deep ≤ 100 ∧ l.length ≤ 100 ∧ Ret H Q fun H' u => KdAt K H' k u
theorem ok_kindOf (T : Tx w K mg) : Df P w K mg base CX0 104 "kind_of" ["row", "program"] [] (spKindOf K) := by
  have G := (ok_kindWithin (P := P) (base := base) T 101)
  refine df0 T.d_kind_of T.g_kind_of sc_kind_of (fun _ _ _ _ _ _ us hl => match us, hl with | [_, _], _ => rfl) (fun vs H Q E h => ?_) (fun cdv A outer s H vs Q E hr h => ?_)
  · obtain ⟨a, v, p, l, ws, k, rfl, _⟩ := h
    rfl
  obtain ⟨a, v, p, l, ws, k, rfl, ha, hl, hp, hk, hld, hkd, hpd, hll, q⟩ := h
  refine ⟨_, (pss_one (ps_ret (cal G hr pass0 (pa_cons (pe_callTy call_list_of rfl T.n_list (by decide +kernel) (pa_cons (pv 0) pa_nil)) (pa_cons (pv 1) (pa_cons (pe_lst pa_nil) pa_nil)))))), ?_⟩
  refine ⟨_, rfl, a, ws, rfl, .inl (.of ha), fun c hc => ⟨_, rfl, sz0, fun d hd => ?_⟩⟩
  have s1 := same_new hc (.lst ws)
  have s2 := same_new hd (.lst [])
  have := hl.length
  exact ⟨c, d, v, p, l, ws, [], k, rfl, s2 _ _ upd_same, hl.imp fun _ _ h => h.same (s1.trans s2), hp.same (s1.trans s2), upd_same, hk, hld, hkd, by omega, by omega, by omega, by simp, q.mono (s1.trans s2)⟩
end
end KF

set_option Elab.async false
set_option linter.all false
set_option maxRecDepth 100000
set_option maxHeartbeats 4000000
namespace KF
open PySem PySem.Spec L2 TL
/-! ### tidied -/
def tidGo (T : List Nm) (x : Nm) : Nat → Nm
  | 0 => x
  | n + 1 => if T[n]? = some x then .x n else tidGo T x n
def tidN (T : List Nm) (x : Nm) : Nm := tidGo T x T.length
def tid (T : List Nm) : Pg → Pg
  | .name x => .name (tidN T x)
  | .take x k p => .take (.x T.length) k (tid (T ++ [x]) p)
  | .give p q => .give (tid T p) (tid T q)
  | .pair p q => .pair (tid T p) (tid T q)
  | .first p => .first (tid T p)
  | .second p => .second (tid T p)
  | .thing => .thing
theorem tidGo_lt {T : List Nm} {x : Nm} : ∀ {n : Nat}, (∀ j, j < n → T[j]? ≠ some x) → tidGo T x n = x
  | 0, _ => rfl
  | n + 1, h => by rw [tidGo, if_neg (h n (Nat.lt_succ_self n)), tidGo_lt fun j hj => h j (Nat.lt_succ_of_lt hj)]
theorem tidGo_at {T : List Nm} {x : Nm} {k : Nat} (hk : T[k]? = some x) : ∀ {n : Nat}, k < n → (∀ j, k < j → j < n → T[j]? ≠ some x) → tidGo T x n = .x k
  | 0, h, _ => absurd h (Nat.not_lt_zero _)
  | n + 1, h, hn => by
    rw [tidGo]
    by_cases e : k = n
    · subst e; rw [if_pos hk]
    · rw [if_neg (hn n (by omega) (Nat.lt_succ_self n)), tidGo_at hk (by omega) fun j h1 h2 => hn j h1 (by omega)]
def nmsV (T : List Nm) : List V := T.map fun x => V.str x.str
theorem nmsV_get {T : List Nm} {i : Nat} {x : Nm} (h : T[i]? = some x) : (nmsV T)[i]? = some (.str x.str) := by
  unfold nmsV
  rw [List.getElem?_map, h]; rfl
theorem tid_inner (T : List Nm) (p : Pg) (h : decide (p.tag = "take") = false) (h2 : ∀ x, p ≠ .name x) : withInner p ((inner p).map (tid T)) = tid T p := by
  cases p with
  | take x k p => exact absurd h (by show ¬ decide (Str.ofString "take" = Str.ofString "take") = false; decide +kernel)
  | name x => exact absurd rfl (h2 x)
  | _ => rfl
theorem log_small {n : Nat} (h : n ≤ 100000) : ((n : Nat) : Int).natAbs.log2 < 1920 := by
  show n.log2 < 1920
  by_cases z : n = 0
  · subst z; decide
  · have := (Nat.log2_lt z (k := 17)).mpr (by omega)
    omega
theorem xstr_small {n : Nat} (h : n ≤ 100000) : (Str.ofString "x").length + (Str.ofString (toString ((n : Nat) : Int))).length ≤ sizeLine := by
  have e : (Str.ofString (toString ((n : Nat) : Int))).length = (numL n).length := by rw [len_tl, tl_num]
  have := numL_len (n := n) (k := 6) (by decide) (by omega)
  rw [e, len_lit]
  show 1 + _ ≤ _
  exact small (by omega)
/-! ### a list of programs, each of a list of programs turned -/
theorem lc_pgs {K : PySem.W.Frag} {σ : L2.St} {H H1 : Hp} {D b1 : Addr} {l1 : List V} {ps : List Pg} {f : Pg → Pg} {i : Nat} {te : TE} {Qd : Hp → Prop} (s1 : Same H H1) (g1 : H1 b1 = some (.lst l1)) (r1 : ∀ H'', Nx K H H1 H'' → All2 (PgAt K H'') ps l1) (hz : ps.length ≤ 1000000) (hD : H1 D = none)
    (hw : ∀ v : V, wipe ((wipe σ [i]).set i (some v)) [i] = wipe σ [i])
    (hh : ∀ (p : Pg) (v : V) (H2 : Hp) (Q : VK), p ∈ ps → Same H1 H2 → PgAt K H2 p v → (∀ u H3, Same H2 H3 → PgAt K H3 (f p) u → Q u H3) → te ((wipe σ [i]).set i (some v)) H2 Q)
    (hd : ∀ H2 ys, Same H1 H2 → H2 D = some (.lst ys) → All2 (PgAt K H2) (ps.map f) ys → Qd H2) :
    ∃ W : Nat → Nat → Hp → Prop, (∃ m, W 0 m (upd H1 D (.lst []))) ∧ ∀ i' m H, W i' m H →
      ((Itl K b1).stop i' H ∧ Qd H) ∨ ((Itl K b1).go i' H ∧ ∃ Nx : Hp → Prop, (∀ H', Nx H' → ∃ m', m' < m ∧ W (i' + 1) m' H') ∧ ∀ x H', (Itl K b1).yld i' H x H' → gName i x (wipe σ [i]) H' fun σ2 H2 => wipe σ2 [i] = wipe σ [i] ∧ tYes σ2 H2 fun b H3 =>
        if b = true then te σ2 H3 fun y H4 => ∃ acc, H4 D = some (.lst acc) ∧ acc.length < sizeLine ∧ Nx (upd H4 D (.lst (acc ++ [y]))) else Nx H3) := by
  have m1 := (r1 H1 (.self s1)).length
  refine lc_build (K := K) (walk_list (xs := l1)) (PgAt K) (ps.map f) (by rw [List.length_map]; exact m1.symm) (by omega) hD (fun H s => .of (s _ _ g1)) (fun j b x H2 H3 Q2 hb s2 hY q2 => ?_) (fun H2 ys s2 gD rD => hd H2 ys s2 gD (rD H2 (.self s2)))
  obtain ⟨rfl, hx⟩ := hY
  obtain ⟨e, he, rfl⟩ := get_map hb
  obtain ⟨x', hx', pe⟩ := (r1 H3 (.same s1 s2)).get he
  obtain rfl : x' = x := Option.some.inj (hx'.symm.trans hx)
  exact ⟨hw _, hh e _ H3 Q2 (List.mem_of_getElem? he) s2 pe fun u H4 s4 hu => q2 _ H4 s4 fun H'' x => hu.ts (x.all s4)⟩
section
variable {P : Program} {w : World} {K : PySem.W.Frag} {mg : Str → Option Value} {base : Heap}
def spTidW (K : PySem.W.Frag) (n : Nat) : Sp := fun vs H Q _ => ∃ (a : Addr) (v : V) (p : Pg) (T : List Nm), vs = [v, .ref a] ∧ H a = some (.lst (nmsV T)) ∧ PgAt K H p v ∧ p.deep < n ∧ T.length + n ≤ 10000 ∧ Ret H Q fun H' u => PgAt K H' (tid T p) u
theorem tag_name (p : Pg) : (∃ x, p = .name x) ∨ (decide (p.tag = "name") = false ∧ ∀ x, p ≠ .name x) := by
  cases p with
  | name x => exact .inl ⟨x, rfl⟩
  | _ => exact .inr ⟨by show decide (Str.ofString _ = _) = false; decide +kernel, fun x z => by cases z⟩
theorem ok_tidW (T : Tx w K mg) : ∀ n, Df P w K mg base CX0 (n + 1) "tidied_within" ["program", "taken"] [] (spTidW K n)
  | 0 => df_none T.d_tidied_within T.g_tidied_within (fun _ _ _ _ _ _ us hl => match us, hl with | [_, _], _ => rfl) fun vs H Q E ⟨_, _, _, _, _, _, _, h, _⟩ => absurd h (Nat.not_lt_zero _)
  | n + 1 => by
    have G := ok_tidW T n
    have GI := (ok_inner (P := P) (base := base) T).mono (show 1 ≤ n + 1 by omega)
    have GW := (ok_withInner (P := P) (base := base) T).mono (show 1 ≤ n + 1 by omega)
    refine df0 T.d_tidied_within T.g_tidied_within sc_tidied_within (fun _ _ _ _ _ _ us hl => match us, hl with | [_, _], _ => rfl) (fun vs H Q E h => ?_) (fun cdv A outer s H vs Q E hr h => ?_)
    · obtain ⟨a, v, p, T, rfl, _⟩ := h
      rfl
    obtain ⟨a, v, p, Tk, rfl, ha, hp, hn, hz, q⟩ := h
    have lenT : (nmsV Tk).length = Tk.length := List.length_map _
    refine ⟨_, (pss_cons (ps_if (pt_tag (pv 0) mono_var) (pss_cons (ps_for PassesOwn.never rfl (pi_revR rfl T.n_reversed (prg_1 rfl T.n_range (pe_callB call_len_seq rfl T.n_len PySem.boot_len (pa_cons (pv 1) pa_nil)))) (pg_name (i := 2) sc_tidied_within.nd rfl (Or.inl rfl))
          (pss_one (ps_if (pt_cmpR op_eq (pe_ix ix_list (pv 1) (pv 2) (fun _ _ => rfl)) (pv_at 0 1) (nomark _)) (pss_one (ps_ret (pe_tup (pa_cons pe_str (pa_cons (pe_op op_add_str pe_str (pe_callTy call_str_int rfl T.n_str (by decide +kernel) (pa_cons (pv 2) pa_nil))) pa_nil))))) pss_nil))) (pss_one (ps_ret (pv 0)))) pss_nil) (pss_cons (ps_if (pt_tag (pv 0) mono_var) (pss_cons (ps_set (i := 3) sc_tidied_within.nd rfl (.inl rfl) (cal G hr pass0 (pa_cons (pv_at 0 3) (pa_cons (pe_op op_cat (pv 1) (pe_lst (pa_cons (pv_at 0 1) pa_nil))) pa_nil)))) (pss_one (ps_ret (pe_tup (pa_cons pe_str (pa_cons (pe_op op_add_str pe_str (pe_callTy call_str_int rfl T.n_str (by decide +kernel) (pa_cons (pe_callB call_len_seq rfl T.n_len PySem.boot_len (pa_cons (pv 1) pa_nil)) pa_nil))) (pa_cons (pv_at 0 2) (pa_cons (pv 3) pa_nil)))))))) pss_nil) (pss_one (ps_ret (cal GW hr pass0 (pa_cons (pv 0) (pa_cons (pe_lc (own := [("part", 4)]) (g := gName 4) (tt := tYes) (te := tCall (spTidW K n) [] E0 (tCons (tVar 4) (tCons (tVar 1) tNil))) rfl sc_tidied_within.nd (pi_list (cal GI hr pass0 (pa_cons (pv 0) pa_nil))) (blkOk_by (own := [("part", 4)]) (N := ["program", "taken", "k", "body", "part"]) (sc := defScope s_tidied_within) (by decide +kernel))
        (fun _ _ _ _ _ => pg_name (i := 4) sc_tidied_within.nd rfl (Or.inl rfl)) (fun _ _ _ _ _ => pts_nil) (fun _ _ _ _ _ => cal G hr pass0 (pa_cons (pv 4) (pa_cons (pv 1) pa_nil)))) pa_nil))))))), ?_⟩
    rcases tag_name p with ⟨x, rfl⟩ | ⟨tn, nn⟩
    · obtain ⟨t, rfl, ht⟩ := hp
      refine ⟨_, rfl, t, _, _, rfl, ht, ifT (by decide +kernel) ⟨_, rfl, _, _, rfl, .inl (.of ha), ?_⟩⟩
      rw [lenT]
      refine ⟨_, rfl, by omega, by omega, by omega, by omega, for_it walk_rangeC (fun i σ H1 => H1 = H ∧ (∃ z2 z3 z4, σ = [some (.ref t), some (.ref a), z2, z3, z4]) ∧ ∀ j, Tk.length - i ≤ j → j < Tk.length → Tk[j]? ≠ some x) ⟨rfl, ⟨_, _, _, rfl⟩, fun j h1 h2 => absurd h2 (by omega)⟩ (fun _ _ _ _ _ => trivial) ?_ ?_⟩
      · rintro i y σ H1 H2 hi ⟨rfl, ⟨z2, z3, z4, rfl⟩, hno⟩ ⟨rfl, rfl⟩
        have hi' : i < Tk.length := by omega
        have ek : (0 : Int) + (((((Tk.length : Nat) : Int) - 0).toNat : Nat) : Int) - 1 + (i : Nat) * -1 = ((Tk.length - 1 - i : Nat) : Int) := by omega
        show gName 2 (V.int ((0 : Int) + (((((Tk.length : Nat) : Int) - 0).toNat : Nat) : Int) - 1 + (i : Nat) * -1)) _ _ _
        rw [ek]
        have hget := List.getElem?_eq_getElem (l := Tk) (i := Tk.length - 1 - i) (by omega)
        refine ⟨_, rfl, _, rfl, a, _, _, _, rfl, rfl, .of ha, atI_nat (nmsV_get hget), _, rfl, t, _, _, rfl, ht, rfl, rfl, _, rfl, ?_⟩
        rw [dec_str, Nm.eq_iff]
        by_cases e : Tk[Tk.length - 1 - i] = x
        · refine ifT (decide_eq_true e) ⟨_, rfl, _, rfl, log_small (by omega), _, _, rfl, rfl, xstr_small (by omega), sz2, fun c hc => q.of (same_new hc _) ⟨c, rfl, ?_⟩⟩
          have et : tidN Tk x = .x (Tk.length - 1 - i) := tidGo_at (by rw [hget, e]) (by omega) fun j h1 h2 => hno j (by omega) h2
          rw [et]
          exact .of upd_same
        · refine ifF (decide_eq_false e) ⟨rfl, ⟨_, _, _, rfl⟩, fun j h1 h2 => ?_⟩
          by_cases ej : j = Tk.length - 1 - i
          · subst ej
            rw [hget]
            exact fun z => e (Option.some.inj z)
          · exact hno j (by omega) h2
      · rintro σ H1 ⟨rfl, ⟨z2, z3, z4, rfl⟩, hno⟩
        have et : tidN Tk x = x := tidGo_lt fun j hj => hno j (by omega) hj
        exact ⟨_, rfl, q.at (by rw [tid, et]; exact ⟨t, rfl, ht⟩)⟩
    · obtain ⟨t0, xs0, ev, ht0⟩ := hp.tagged
      refine ⟨_, rfl, t0, _, _, ev, ht0, ifF tn ?_⟩
      rcases tag_take p with ⟨x, c, r, rfl⟩ | tt
      · obtain ⟨t, y, z, rfl, ht, hy, hz'⟩ := hp
        have hn' : r.deep + 1 < n + 1 := hn
        refine ⟨_, rfl, t, _, _, rfl, ht, ifT (by decide +kernel) ⟨_, rfl, t, _, _, rfl, ht, rfl, _, rfl, _, rfl, t, _, _, rfl, ht, rfl, sz1, fun c1 hc1 => ?_⟩⟩
        have s1 := same_new hc1 (.lst [.str x.str])
        refine ⟨a, c1, _, _, rfl, rfl, s1 _ _ ha, upd_same, by show (nmsV Tk).length + 1 ≤ sizeLine; exact small (by omega), fun c2 hc2 => ?_⟩
        have s2 := same_new hc2 (.lst (nmsV Tk ++ [.str x.str]))
        refine ⟨c2, z, r, Tk ++ [x], rfl, by rw [upd_same]; unfold nmsV; rw [List.map_append]; rfl, hz'.same (s1.trans s2), by omega, by rw [List.length_append]; show Tk.length + 1 + n ≤ _; omega, fun u H3 s3 hu => ?_⟩
        have s13 := s1.trans (s2.trans s3)
        refine ⟨_, rfl, _, _, rfl, .inl (.of (s13 _ _ ha)), _, rfl, by rw [lenT]; exact log_small (by omega), ?_⟩
        rw [lenT]
        refine ⟨_, _, rfl, rfl, xstr_small (by omega), _, rfl, t, _, _, rfl, s13.tup ht, rfl, _, rfl, sz4, fun c3 hc3 => ?_⟩
        exact q.of (s13.trans (same_new hc3 _)) ⟨c3, y, u, rfl, .of upd_same, hy.same (s13.trans (same_new hc3 _)), hu.same (same_new hc3 _)⟩
      · refine ⟨_, rfl, t0, _, _, ev, ht0, ifF tt ⟨_, rfl, _, rfl, v, p, rfl, hp, fun b1 l1 H1 s1 n1 g1 r1 => ⟨b1, rfl, ⟨_, .of g1⟩, fun D hD => ?_⟩⟩⟩
        refine lc_pgs (f := tid Tk) s1 g1 r1 (by have := inner_len p; omega) hD (fun _ => rfl) (fun r x H2 Q2 hm s2 hx q2 => ?_) fun H2 ys s2 gD rD => ?_
        · have := inner_deep hm
          exact ⟨_, rfl, _, rfl, a, x, r, Tk, rfl, s2 _ _ (s1 _ _ ha), hx, by omega, by omega, fun u H3 s3 hu => q2 u H3 s3 hu⟩
        · refine ⟨v, p, D, ys, _, rfl, hp.same (s1.trans s2), gD, rD, by rw [List.length_map], fun u H3 s3 hu => q _ _ ((s1.trans s2).trans s3) ?_⟩
          rw [tid_inner Tk p tt nn] at hu
          exact hu
def spTidied (K : PySem.W.Frag) (n : Nat) : Sp := fun vs H Q _ => ∃ (v : V) (p : Pg), vs = [v] ∧ PgAt K H p v ∧ p.deep < n ∧ n ≤ 1000 ∧ Ret H Q fun H' u => PgAt K H' (tid [] p) u
theorem ok_tidied (T : Tx w K mg) (n : Nat) : Df P w K mg base CX0 (n + 2) "tidied" ["program"] [] (spTidied K n) := by
  have G := (ok_tidW (P := P) (base := base) T n)
  refine df0 T.d_tidied T.g_tidied sc_tidied (fun _ _ _ _ _ _ us hl => match us, hl with | [_], _ => rfl) (fun vs H Q E h => ?_) (fun cdv A outer s H vs Q E hr h => ?_)
  · obtain ⟨v, p, rfl, _⟩ := h
    rfl
  obtain ⟨v, p, rfl, hp, hn, hz, q⟩ := h
  refine ⟨_, (pss_one (ps_ret (cal G hr pass0 (pa_cons (pv 0) (pa_cons (pe_lst pa_nil) pa_nil))))), ?_⟩
  exact ⟨_, rfl, sz0, fun c hc => ⟨c, v, p, [], rfl, upd_same, hp.same (same_new hc _), hn, by show 0 + n ≤ _; omega, q.mono (same_new hc _)⟩⟩
end
end KF

set_option Elab.async false
set_option linter.all false
set_option maxRecDepth 100000
set_option maxHeartbeats 4000000
namespace KF
open PySem PySem.Spec L2 TL
/-! ### where a program can step -/
def isTake : Pg → Bool
  | .take _ _ _ => true
  | _ => false
def isPair : Pg → Bool
  | .pair _ _ => true
  | _ => false
def canStep : Pg → Bool
  | .give p _ => isTake p
  | .first p => isPair p
  | .second p => isPair p
  | _ => false
def stepPl : Pg → List (List Nat)
  | .name _ => []
  | .thing => []
  | .take _ _ p => (stepPl p).map (0 :: ·)
  | .give p q => (if isTake p then [[]] else []) ++ ((stepPl p).map (0 :: ·) ++ (stepPl q).map (1 :: ·))
  | .pair p q => (stepPl p).map (0 :: ·) ++ (stepPl q).map (1 :: ·)
  | .first p => (if isPair p then [[]] else []) ++ (stepPl p).map (0 :: ·)
  | .second p => (if isPair p then [[]] else []) ++ (stepPl p).map (0 :: ·)
def plFrom : Nat → List (List (List Nat)) → List (List Nat)
  | _, [] => []
  | k, x :: xs => x.map (k :: ·) ++ plFrom (k + 1) xs
theorem plFrom_snoc (x : List (List Nat)) : ∀ (xs : List (List (List Nat))) (k : Nat), plFrom k (xs ++ [x]) = plFrom k xs ++ x.map ((k + xs.length) :: ·)
  | [], k => by simp [plFrom]
  | y :: xs, k => by
    have e : k + 1 + xs.length = k + (y :: xs).length := by rw [List.length_cons]; omega
    show y.map (k :: ·) ++ plFrom (k + 1) (xs ++ [x]) = y.map (k :: ·) ++ plFrom (k + 1) xs ++ _
    rw [plFrom_snoc x xs (k + 1), e, List.append_assoc]
theorem stepPl_inner (p : Pg) : stepPl p = (if canStep p then [[]] else []) ++ plFrom 0 ((inner p).map stepPl) := by
  cases p <;> simp [stepPl, canStep, inner, plFrom] <;> rfl
theorem stepPl_len (p : Pg) : (stepPl p).length ≤ parts p := by
  induction p with
  | name x => exact Nat.zero_le _
  | thing => exact Nat.zero_le _
  | take x k p h => simp only [stepPl, List.length_map, parts]; omega
  | give p q h1 h2 => simp only [stepPl, List.length_map, List.length_append, parts]; split <;> simp <;> omega
  | pair p q h1 h2 => simp only [stepPl, List.length_map, List.length_append, parts]; omega
  | first p h => simp only [stepPl, List.length_map, List.length_append, parts]; split <;> simp <;> omega
  | second p h => simp only [stepPl, List.length_map, List.length_append, parts]; split <;> simp <;> omega
theorem inner_parts {p q : Pg} (h : q ∈ inner p) : parts q < parts p := by
  cases p <;> simp [inner] at h
  case take x k p => subst h; simp [parts]
  case first p => subst h; simp [parts]
  case second p => subst h; simp [parts]
  case give a b => rcases h with rfl | rfl <;> simp [parts] <;> omega
  case pair a b => rcases h with rfl | rfl <;> simp [parts] <;> omega
theorem plFrom_room {p : Pg} {i : Nat} (h : i < (inner p).length) : (plFrom 0 (((inner p).map stepPl).take i)).length + parts (inner p)[i] + 1 ≤ parts p := by
  cases p with
  | name x => exact absurd h (Nat.not_lt_zero _)
  | thing => exact absurd h (Nat.not_lt_zero _)
  | take x k p =>
    obtain rfl : i = 0 := by have h' : i < 1 := h; omega
    show 0 + parts p + 1 ≤ 1 + parts p
    omega
  | first p =>
    obtain rfl : i = 0 := by have h' : i < 1 := h; omega
    show 0 + parts p + 1 ≤ 1 + parts p
    omega
  | second p =>
    obtain rfl : i = 0 := by have h' : i < 1 := h; omega
    show 0 + parts p + 1 ≤ 1 + parts p
    omega
  | give p r =>
    have h' : i < 2 := h
    have l := stepPl_len p
    match i, h, h' with
    | 0, _, _ => show 0 + parts p + 1 ≤ 1 + (parts p + parts r); omega
    | 1, _, _ => show ((stepPl p).map (0 :: ·) ++ []).length + parts r + 1 ≤ 1 + (parts p + parts r); rw [List.append_nil, List.length_map]; omega
  | pair p r =>
    have h' : i < 2 := h
    have l := stepPl_len p
    match i, h, h' with
    | 0, _, _ => show 0 + parts p + 1 ≤ 1 + (parts p + parts r); omega
    | 1, _, _ => show ((stepPl p).map (0 :: ·) ++ []).length + parts r + 1 ≤ 1 + (parts p + parts r); rw [List.append_nil, List.length_map]; omega
theorem tag_isTake (p : Pg) : decide (p.tag = "take") = isTake p := by
  cases p with
  | take x k p => show decide (Str.ofString _ = Str.ofString _) = true; decide +kernel
  | pair p q => show decide (Str.ofString _ = Str.ofString _) = false; decide +kernel
  | _ => show decide (Str.ofString _ = Str.ofString _) = false; decide +kernel
theorem tag_isPair (p : Pg) : decide (p.tag = "pair") = isPair p := by
  cases p with
  | take x k p => show decide (Str.ofString _ = Str.ofString _) = false; decide +kernel
  | pair p q => show decide (Str.ofString _ = Str.ofString _) = true; decide +kernel
  | _ => show decide (Str.ofString _ = Str.ofString _) = false; decide +kernel
/-- the places in a list of the heap, apart from the list itself -/
def PlF (fa : Addr) (H : Hp) (pl : List Nat) (v : V) : Prop := ∃ a, v = .ref a ∧ a ≠ fa ∧ H a = some (.lst (natV pl))
theorem PlF.but {fa : Addr} {H H' : Hp} (h : But fa H H') {pl : List Nat} {v : V} : PlF fa H pl v → PlF fa H' pl v := fun ⟨a, e, n, q⟩ => ⟨a, e, n, h _ _ n q⟩
/-- e[0] in ('a', 'b') as a value -/
theorem pe_in2 {X : Cx} {e : Expr} {te : TE} {p1 p2 p4 : Pos} {t1 t2 : Str} {j j1 j2 x1} {q1 q2 q3 : Pos} (h : PE X e te) (m : Mono te) : PE X (.Compare (.Subscript e (.Constant (.int 0) j p1) p2) [.In] [.Tuple [.Constant (.str t1) j1 q1, .Constant (.str t2) j2 q2] x1 q3] p4)
    (fun σ H Q => te σ H fun x H1 => ∃ a s xs, x = .ref a ∧ SqT X.K H1 a (.str s :: xs) ∧ ∀ H2, Same H1 H2 → Q (.bl (decide (s ∈ [t1, t2]))) H2) :=
  pe_imp (pe_cmpR op_in_seq (pe_at 0 h m) (pe_tup (pa_cons pe_str (pa_cons pe_str pa_nil))) rfl) fun σ H Q q => m σ H _ _ (fun v H' ⟨a, s, xs, e1, e2, q⟩ =>
    ⟨a, _, _, e1, e2, rfl, (by show 2 ≤ sizeLine; decide), fun p hp => ⟨p, [t1, t2].map V.str, rfl, .inr (.of upd_same), rfl, flat_strs' _, by rw [inV_strs]; exact q _ (same_new hp _)⟩⟩) q
theorem tyL {K : PySem.W.Frag} {H : Hp} {a : Addr} {xs : List V} (h : H a = some (.lst xs)) : tyV K "list" (.ref a) H := .inl ⟨rfl, xs, .of h⟩
section
variable {P : Program} {w : World} {K : PySem.W.Frag} {mg : Str → Option Value} {base : Heap}
def spCan (K : PySem.W.Frag) : Sp := fun vs H Q _ => ∃ v p, vs = [v] ∧ PgAt K H p v ∧ Ret H Q fun _ u => u = .bl (canStep p)
theorem ok_can (T : Tx w K mg) : Df P w K mg base CX0 1 "can_step" ["part"] [] (spCan K) := by
  refine df0 T.d_can_step T.g_can_step sc_can_step (fun _ _ _ _ _ _ us hl => match us, hl with | [_], _ => rfl) (fun vs H Q E h => ?_) (fun cdv A outer s H vs Q E hr h => ?_)
  · obtain ⟨v, p, rfl, _⟩ := h
    rfl
  obtain ⟨v, p, rfl, hp, q⟩ := h
  refine ⟨_, (pss_cons (ps_if (pt_tag (pv 0) mono_var) (pss_one (ps_ret (pe_tag (pv_at 0 1) (mono_at mono_var)))) pss_nil) (pss_one (ps_ret (pe_and (pe_in2 (pv 0) mono_var) (pe_one (pe_tag (pv_at 0 1) (mono_at mono_var))))))), ?_⟩
  cases p with
  | name x =>
    obtain ⟨a, rfl, t⟩ := hp
    exact ⟨_, rfl, a, _, _, rfl, t, ifF (by decide +kernel) ⟨_, rfl, a, _, _, rfl, t, fun H2 s2 => ⟨_, rfl, ifF (by decide +kernel) (q.of s2 rfl)⟩⟩⟩
  | thing =>
    obtain ⟨a, rfl, t⟩ := hp
    exact ⟨_, rfl, a, _, _, rfl, t, ifF (by decide +kernel) ⟨_, rfl, a, _, _, rfl, t, fun H2 s2 => ⟨_, rfl, ifF (by decide +kernel) (q.of s2 rfl)⟩⟩⟩
  | take x k p =>
    obtain ⟨a, y, z, rfl, t, _⟩ := hp
    exact ⟨_, rfl, a, _, _, rfl, t, ifF (by decide +kernel) ⟨_, rfl, a, _, _, rfl, t, fun H2 s2 => ⟨_, rfl, ifF (by decide +kernel) (q.of s2 rfl)⟩⟩⟩
  | pair p1 p2 =>
    obtain ⟨a, y, z, rfl, t, _⟩ := hp
    exact ⟨_, rfl, a, _, _, rfl, t, ifF (by decide +kernel) ⟨_, rfl, a, _, _, rfl, t, fun H2 s2 => ⟨_, rfl, ifF (by decide +kernel) (q.of s2 rfl)⟩⟩⟩
  | give p1 p2 =>
    obtain ⟨a, y, z, rfl, t, hy, hz⟩ := hp
    obtain ⟨b, xs, rfl, tb⟩ := hy.tagged
    refine ⟨_, rfl, a, _, _, rfl, t, ifT (by decide +kernel) ⟨_, rfl, a, _, _, rfl, t, rfl, b, _, _, rfl, tb, ?_⟩⟩
    rw [tag_isTake]
    exact q.at rfl
  | first p1 =>
    obtain ⟨a, y, rfl, t, hy⟩ := hp
    obtain ⟨b, xs, rfl, tb⟩ := hy.tagged
    refine ⟨_, rfl, a, _, _, rfl, t, ifF (by decide +kernel) ⟨_, rfl, a, _, _, rfl, t, fun H2 s2 => ⟨_, rfl, ifT (by decide +kernel) ⟨_, rfl, a, _, _, rfl, s2.tup t, rfl, b, _, _, rfl, s2.tup tb, ?_⟩⟩⟩⟩
    rw [tag_isPair]
    exact q.of s2 rfl
  | second p1 =>
    obtain ⟨a, y, rfl, t, hy⟩ := hp
    obtain ⟨b, xs, rfl, tb⟩ := hy.tagged
    refine ⟨_, rfl, a, _, _, rfl, t, ifF (by decide +kernel) ⟨_, rfl, a, _, _, rfl, t, fun H2 s2 => ⟨_, rfl, ifT (by decide +kernel) ⟨_, rfl, a, _, _, rfl, s2.tup t, rfl, b, _, _, rfl, s2.tup tb, ?_⟩⟩⟩⟩
    rw [tag_isPair]
    exact q.of s2 rfl
def spPut (K : PySem.W.Frag) (n : Nat) : Sp := fun vs H Q _ => ∃ (v : V) (b fa : Addr) (p : Pg) (pl : List Nat) (ws : List V) (pls : List (List Nat)), vs = [v, .ref b, .ref fa] ∧ PgAt K H p v ∧ H b = some (.lst (natV pl)) ∧ b ≠ fa ∧ H fa = some (.lst ws) ∧ All2 (PlF fa H) pls ws ∧
  p.deep < n ∧ pl.length + n ≤ 10000 ∧ pls.length + parts p ≤ 100000 ∧ ∀ H' ws', But fa H H' → H' fa = some (.lst ws') → All2 (PlF fa H') (pls ++ (stepPl p).map (pl ++ ·)) ws' → Q .non H'
theorem ok_put (T : Tx w K mg) : ∀ n, Df P w K mg base CX0 (n + 1) "put_places" ["part", "place", "found"] [] (spPut K n)
  | 0 => df_none T.d_put_places T.g_put_places (fun _ _ _ _ _ _ us hl => match us, hl with | [_, _, _], _ => rfl) fun vs H Q E ⟨_, _, _, _, _, _, _, _, _, _, _, _, _, h, _⟩ => absurd h (Nat.not_lt_zero _)
  | n + 1 => by
    have G := ok_put T n
    have GI := (ok_inner (P := P) (base := base) T).mono (show 1 ≤ n + 1 by omega)
    have GC := (ok_can (P := P) (base := base) T).mono (show 1 ≤ n + 1 by omega)
    refine df0 T.d_put_places T.g_put_places sc_put_places (fun _ _ _ _ _ _ us hl => match us, hl with | [_, _, _], _ => rfl) (fun vs H Q E h => ?_) (fun cdv A outer s H vs Q E hr h => ?_)
    · obtain ⟨v, b, fa, p, pl, ws, pls, rfl, _⟩ := h
      rfl
    obtain ⟨v, b, fa, p, pl, ws, pls, rfl, hp, hb, nb, hf, hl, hn, hz1, hz2, q⟩ := h
    refine cut (fun σ' H' => σ' = [some v, some (.ref b), some (.ref fa), none, none] ∧ But fa H H' ∧ ∃ ws1, H' fa = some (.lst ws1) ∧ All2 (PlF fa H') (pls ++ if canStep p then [pl] else []) ws1)
      (ps_if (pt_val (cal GC hr pass0 (pa_cons (pv 0) pa_nil))) (pss_one (ps_expr (pe_bm PySem.F.plainAttrs_list PySem.F.slot_list_append PySem.F.type_list_append mt_append (pv 2) (pa_cons (pv 1) pa_nil)))) pss_nil)
      ⟨_, (pss_one (ps_for PassesOwn.never rfl (pi_enum rfl T.n_enumerate (pa_cons (cal GI hr pass0 (pa_cons (pv 0) pa_nil)) pa_nil)) (pg_tup rfl (pgs_cons (pg_name (i := 3) sc_put_places.nd rfl (Or.inl rfl)) (pgs_cons (pg_name (i := 4) sc_put_places.nd rfl (Or.inl rfl)) pgs_nil)))
        (pss_one (ps_expr (cal G hr pass0 (pa_cons (pv 4) (pa_cons (pe_op op_cat (pv 1) (pe_lst (pa_cons (pv 3) pa_nil))) (pa_cons (pv 2) pa_nil)))))))), ?_⟩ ?_
    · rintro σ' H1 ⟨rfl, u1, ws1, f1, l1⟩
      have hp1 := hp.ts (But.ts u1 hf rfl)
      have hlen : (pls ++ if canStep p then [pl] else []).length ≤ pls.length + 1 := by rw [List.length_append]; split <;> simp
      refine ⟨_, rfl, v, p, rfl, hp1, fun b1 li H2 s2 n2 g2 r2 => ⟨b1, li, rfl, .of g2, ?_⟩⟩
      have a2 := r2 H2 (.self s2)
      have m2 := a2.length
      have nf : b1 ≠ fa := by rintro rfl; rw [n2] at f1; cases f1
      have hp2 := hp1.same s2
      have f2 := s2 _ _ f1
      have u2 : But fa H H2 := u1.same s2
      refine for_it walk_enum (fun i σ H3 => But fa H2 H3 ∧ (∃ z3 z4, σ = [some v, some (.ref b), some (.ref fa), z3, z4]) ∧ ∃ ws3, H3 fa = some (.lst ws3) ∧ All2 (PlF fa H3) ((pls ++ if canStep p then [pl] else []) ++ (plFrom 0 (((inner p).map stepPl).take i)).map (pl ++ ·)) ws3)
        ⟨But.of (.refl _), ⟨_, _, rfl⟩, ws1, f2, ?_⟩ (fun i σ H3 _ h => .of (h.1 _ _ nf g2)) ?_ ?_
      · rw [List.take_zero]
        show All2 _ (_ ++ []) _
        rw [List.append_nil]
        exact l1.imp fun _ _ h => h.but (But.of s2)
      · rintro i x σ H3 H4 hi ⟨u3, ⟨z3, z4, rfl⟩, ws3, f3, l3⟩ hY
        obtain ⟨t, xi, xv, rfl, ht, rfl, ei, ev⟩ := hY
        cases ei
        have hil : i < (inner p).length := by rw [← m2]; exact hi
        have hq := List.getElem?_eq_getElem hil
        have m := List.getElem_mem hil
        have a3 := a2.imp fun _ _ h => h.ts (But.ts u3 f2 rfl)
        obtain ⟨x', hx', pe⟩ := a3.get hq
        obtain rfl : x' = xv := Option.some.inj (hx'.symm.trans ev)
        have sT := same_new ht (.tup [.int (i : Nat), x'])
        refine ⟨t, _, rfl, .of upd_same, rfl, _, _, rfl, _, _, rfl, rfl, _, rfl, _, rfl, _, rfl, sz1, fun c1 hc1 => ?_⟩
        have s5 := same_new hc1 (.lst [.int (i : Nat)])
        have hb5 := s5 _ _ (sT _ _ (u3 _ _ nb (s2 _ _ (u1 _ _ nb hb))))
        refine ⟨b, c1, _, _, rfl, rfl, hb5, upd_same, ?_, fun c2 hc2 => ⟨_, rfl, ?_⟩⟩
        · show (natV pl).length + 1 ≤ sizeLine
          have : (natV pl).length = pl.length := List.length_map _
          exact small (by omega)
        have s6 := same_new hc2 (.lst (natV pl ++ [.int (i : Nat)]))
        have s36 := sT.trans (s5.trans s6)
        have f6 := s36 _ _ f3
        have d1 := inner_deep m
        have d2 := inner_parts m
        have hex : c2 ≠ fa := by rintro rfl; rw [s5 _ _ (sT _ _ f3)] at hc2; cases hc2
        refine ⟨x', c2, fa, (inner p)[i], pl ++ [i], ws3, _, rfl, pe.same s36, ?_, hex, f6, l3.imp fun _ _ h => h.but (But.of s36), by omega, by rw [List.length_append]; show pl.length + 1 + n ≤ _; omega, ?_, fun H7 ws7 u7 f7 l7 => ?_⟩
        · rw [upd_same]
          unfold natV
          rw [List.map_append]
          rfl
        · have e1 : (plFrom 0 (((inner p).map stepPl).take i)).length + parts (inner p)[i] + 1 ≤ parts p := by
            exact plFrom_room hil
          rw [List.length_append, List.length_map]
          omega
        · refine ⟨(u3.same s36).trans u7, ⟨_, _, rfl⟩, ws7, f7, ?_⟩
          have et : ((inner p).map stepPl).take (i + 1) = ((inner p).map stepPl).take i ++ [stepPl (inner p)[i]] := by
            rw [List.take_succ, List.getElem?_map, hq]; rfl
          have el : (((inner p).map stepPl).take i).length = i := by rw [List.length_take, List.length_map]; omega
          rw [et, plFrom_snoc, el, Nat.zero_add, List.map_append, List.map_map, ← List.append_assoc]
          have ef : ((fun x => pl ++ x) ∘ fun x => i :: x) = fun x => pl ++ [i] ++ x := by funext x; simp
          rw [ef]
          exact l7
      · rintro σ H3 ⟨u3, ⟨z3, z4, rfl⟩, ws3, f3, l3⟩
        refine q H3 ws3 (u2.trans u3) f3 ?_
        have e := stepPl_inner p
        rw [show li.length = ((inner p).map stepPl).length by rw [List.length_map]; exact m2, List.take_length] at l3
        rw [e, List.map_append, ← List.append_assoc]
        have e2 : (if canStep p = true then [[]] else []).map (pl ++ ·) = (if canStep p = true then [pl] else []) := by split <;> simp
        rw [e2]
        exact l3
    · intro N hN
      refine ⟨_, rfl, v, p, rfl, hp, fun u H1 s1 e => ?_⟩
      subst e
      refine ⟨_, rfl, ?_⟩
      have f1 := s1 _ _ hf
      have l1 : All2 (PlF fa H1) pls ws := hl.imp fun _ _ h => h.but (But.of s1)
      refine if2 (fun hc => ?_) fun hc => ?_
      · refine ⟨_, rfl, tyL f1, _, rfl, fa, ws, _, rfl, rfl, f1, ?_, hN _ _ ⟨rfl, (But.of s1).trans (But.upd _ _ _), _, upd_same, ?_⟩⟩
        · rw [hl.length]; exact small' (by omega)
        · rw [hc]
          exact (l1.imp fun _ _ h => h.but (But.upd _ _ _)).snoc ⟨b, rfl, nb, by rw [upd_ne nb]; exact s1 _ _ hb⟩
      · refine hN _ _ ⟨rfl, But.of s1, ws, f1, ?_⟩
        rw [hc]
        show All2 _ (pls ++ []) _
        rw [List.append_nil]
        exact l1
def PlAt (H : Hp) (pl : List Nat) (v : V) : Prop := ∃ a, v = .ref a ∧ H a = some (.lst (natV pl))
theorem PlAt.same {H H' : Hp} (h : Same H H') {pl : List Nat} {v : V} : PlAt H pl v → PlAt H' pl v := fun ⟨a, e, q⟩ => ⟨a, e, h _ _ q⟩
def spStepPl (K : PySem.W.Frag) (n : Nat) : Sp := fun vs H Q _ => ∃ v p, vs = [v] ∧ PgAt K H p v ∧ p.deep < n ∧ n ≤ 1000 ∧ parts p ≤ 10000 ∧ ∀ a ws H', Same H H' → H' a = some (.lst ws) → All2 (PlAt H') (stepPl p) ws → Q (.ref a) H'
theorem ok_stepPl (T : Tx w K mg) (n : Nat) : Df P w K mg base CX0 (n + 2) "step_places" ["program"] [] (spStepPl K n) := by
  have G := (ok_put (P := P) (base := base) T n)
  refine df0 T.d_step_places T.g_step_places sc_step_places (fun _ _ _ _ _ _ us hl => match us, hl with | [_], _ => rfl) (fun vs H Q E h => ?_) (fun cdv A outer s H vs Q E hr h => ?_)
  · obtain ⟨v, p, rfl, _⟩ := h
    rfl
  obtain ⟨v, p, rfl, hp, hn, hz1, hz2, q⟩ := h
  refine ⟨_, (pss_cons (ps_set (i := 1) sc_step_places.nd rfl (.inl rfl) (pe_lst pa_nil)) (pss_cons (ps_expr (cal G hr pass0 (pa_cons (pv 0) (pa_cons (pe_lst pa_nil) (pa_cons (pv 1) pa_nil))))) (pss_one (ps_ret (pv 1))))), ?_⟩
  refine ⟨sz0, fun fa hf => ⟨_, rfl, sz0, fun c hc => ⟨_, rfl, ?_⟩⟩⟩
  have s1 := same_new hf (.lst [])
  have s2 := same_new hc (.lst [])
  have nc : c ≠ fa := by rintro rfl; rw [upd_same] at hc; cases hc
  refine ⟨v, c, fa, p, [], [], [], rfl, hp.same (s1.trans s2), upd_same, nc, s2 _ _ upd_same, trivial, hn, by show 0 + n ≤ _; omega, by show 0 + parts p ≤ _; omega, fun H' ws' u f l => ⟨_, rfl, q fa ws' H' (fun b o hb => u _ _ (ne_of_none hb hf) (s2 _ _ (s1 _ _ hb))) f ?_⟩⟩
  have e : ([] : List (List Nat)) ++ (stepPl p).map ([] ++ ·) = stepPl p := by simp
  rw [e] at l
  exact l.imp fun _ _ ⟨a, e, _, q⟩ => ⟨a, e, q⟩
end
end KF

set_option Elab.async false
set_option linter.all false
set_option maxRecDepth 100000
set_option maxHeartbeats 4000000
namespace KF
open PySem PySem.Spec L2 TL
/-! ### one step -/
def nameCount (x : Nm) : Pg → Nat
  | .name y => if y = x then 1 else 0
  | .take _ _ p => nameCount x p
  | .give p q => nameCount x p + nameCount x q
  | .pair p q => nameCount x p + nameCount x q
  | .first p => nameCount x p
  | .second p => nameCount x p
  | .thing => 0
def givenIn (x : Nm) (g : Pg) : Pg → Pg
  | .name y => if y = x then g else .name y
  | .take y k p => .take y k (givenIn x g p)
  | .give p q => .give (givenIn x g p) (givenIn x g q)
  | .pair p q => .pair (givenIn x g p) (givenIn x g q)
  | .first p => .first (givenIn x g p)
  | .second p => .second (givenIn x g p)
  | .thing => .thing
def whatComes : Pg → Pg
  | .give (.take x _ b) g => givenIn x g b
  | .first (.pair a _) => a
  | .second (.pair _ b) => b
  | p => p
theorem nameCount_inner (x : Nm) (p : Pg) (h : p ≠ .name x) : ((inner p).map fun q => (nameCount x q : Int)).sum = (nameCount x p : Int) := by
  cases p with
  | name y => have : y ≠ x := fun e => h (by rw [e]); simp [inner, nameCount, this]
  | _ => simp [inner, nameCount]
theorem givenIn_inner (x : Nm) (g p : Pg) (h : p ≠ .name x) : withInner p ((inner p).map (givenIn x g)) = givenIn x g p := by
  cases p with
  | name y => have : y ≠ x := fun e => h (by rw [e]); simp [inner, givenIn, withInner, this]
  | _ => rfl
theorem nameCount_le (x : Nm) (p : Pg) : nameCount x p ≤ parts p := by
  induction p with
  | name y => simp only [nameCount, parts]; split <;> omega
  | thing => exact Nat.zero_le _
  | take y k p h => simp only [nameCount, parts]; omega
  | give p q h h' => simp only [nameCount, parts]; omega
  | pair p q h h' => simp only [nameCount, parts]; omega
  | first p h => simp only [nameCount, parts]; omega
  | second p h => simp only [nameCount, parts]; omega
theorem parts_pos (p : Pg) : 1 ≤ parts p := by cases p <;> simp [parts]
theorem parts_given (x : Nm) (g p : Pg) : parts (givenIn x g p) = parts p + nameCount x p * (parts g - 1) := by
  have hg := parts_pos g
  induction p with
  | name y =>
    by_cases e : y = x
    · simp only [givenIn, nameCount, if_pos e, parts]; omega
    · simp only [givenIn, nameCount, if_neg e, parts]; omega
  | thing => simp [givenIn, nameCount, parts]
  | take y k p h => simp only [givenIn, nameCount, parts]; omega
  | give p q h h' => simp only [givenIn, nameCount, parts, Nat.add_mul]; omega
  | pair p q h h' => simp only [givenIn, nameCount, parts, Nat.add_mul]; omega
  | first p h => simp only [givenIn, nameCount, parts]; omega
  | second p h => simp only [givenIn, nameCount, parts]; omega
theorem deep_given (x : Nm) (g p : Pg) : (givenIn x g p).deep ≤ p.deep + g.deep := by
  induction p with
  | name y => simp only [givenIn]; split <;> simp [Pg.deep]
  | thing => simp [givenIn, Pg.deep]
  | take y k p h => simp only [givenIn, Pg.deep]; omega
  | give p q h h' => simp only [givenIn, Pg.deep]; omega
  | pair p q h h' => simp only [givenIn, Pg.deep]; omega
  | first p h => simp only [givenIn, Pg.deep]; omega
  | second p h => simp only [givenIn, Pg.deep]; omega
theorem kdeep_given (x : Nm) (g p : Pg) : (givenIn x g p).kdeep ≤ max p.kdeep g.kdeep := by
  induction p with
  | name y => simp only [givenIn]; split <;> simp [Pg.kdeep] <;> omega
  | thing => simp [givenIn, Pg.kdeep]
  | take y k p h => simp only [givenIn, Pg.kdeep]; omega
  | give p q h h' => simp only [givenIn, Pg.kdeep]; omega
  | pair p q h h' => simp only [givenIn, Pg.kdeep]; omega
  | first p h => simp only [givenIn, Pg.kdeep]; omega
  | second p h => simp only [givenIn, Pg.kdeep]; omega
/-- the parts that come, as the program counts them -/
def ptc (p r : Pg) : Int := (parts p : Int) - (parts r : Int) + (parts (whatComes r) : Int)
section
variable {P : Program} {w : World} {K : PySem.W.Frag} {mg : Str → Option Value} {base : Heap}
def spCount (K : PySem.W.Frag) (n : Nat) : Sp := fun vs H Q _ => ∃ (v : V) (p : Pg) (x : Nm), vs = [v, .str x.str] ∧ PgAt K H p v ∧ p.deep < n ∧ Ret H Q fun _ u => u = .int (nameCount x p)
theorem ok_count (T : Tx w K mg) : ∀ n, Df P w K mg base CX0 (n + 1) "name_count" ["part", "name"] [] (spCount K n)
  | 0 => df_none T.d_name_count T.g_name_count (fun _ _ _ _ _ _ us hl => match us, hl with | [_, _], _ => rfl) fun vs H Q E ⟨_, _, _, _, _, h, _⟩ => absurd h (Nat.not_lt_zero _)
  | n + 1 => by
    have G := ok_count T n
    have GI := (ok_inner (P := P) (base := base) T).mono (show 1 ≤ n + 1 by omega)
    refine df0 T.d_name_count T.g_name_count sc_name_count (fun _ _ _ _ _ _ us hl => match us, hl with | [_, _], _ => rfl) (fun vs H Q E h => ?_) (fun cdv A outer s H vs Q E hr h => ?_)
    · obtain ⟨v, p, x, rfl, _⟩ := h
      rfl
    obtain ⟨v, p, x, rfl, hp, hn, q⟩ := h
    refine ⟨_, (pss_cons (ps_if (pt_cmpR (op_eqP hr.u) (pv 0) (pe_tup (pa_cons pe_str (pa_cons (pv 1) pa_nil))) (nomark _)) (pss_one (ps_ret pe_int)) pss_nil) (pss_one (ps_ret (pe_callB (cr_sum rfl) rfl T.n_sum (by decide +kernel) (pa_cons
      (pe_lc (own := [("one", 2)]) (g := gName 2) (tt := tYes) (te := tCall (spCount K n) [] E0 (tCons (tVar 2) (tCons (tVar 1) tNil))) rfl sc_name_count.nd (pi_list (cal GI hr pass0 (pa_cons (pv 0) pa_nil))) (blkOk_by (own := [("one", 2)]) (N := ["part", "name", "one"]) (sc := defScope s_name_count) (by decide +kernel))
        (fun _ _ _ _ _ => pg_name (i := 2) sc_name_count.nd rfl (Or.inl rfl)) (fun _ _ _ _ _ => pts_nil) (fun _ _ _ _ _ => cal G hr pass0 (pa_cons (pv 2) (pa_cons (pv 1) pa_nil)))) pa_nil))))), ?_⟩
    refine ⟨_, rfl, _, rfl, sz2, fun c hc => ?_⟩
    have s0 := same_new hc (.tup [.str "name", .str x.str])
    refine ⟨p, .name x, hp.same s0, ⟨c, rfl, .of upd_same⟩, by show min _ (0 + 0) ≤ 300; omega, _, rfl, ?_⟩
    by_cases e : p = .name x
    · refine ifT (decide_eq_true e) (q.of s0 ?_)
      subst e
      show V.int 1 = V.int (((if x = x then 1 else 0 : Nat)) : Int)
      rw [if_pos rfl]; rfl
    · refine ifF (decide_eq_false e) ⟨_, rfl, v, p, rfl, hp.same s0, fun b1 l1 H1 s1 n1 g1 r1 => ⟨b1, rfl, ⟨_, .of g1⟩, fun D hD => ?_⟩⟩
      refine lc_nums (f := fun q => (nameCount x q : Int)) s1 g1 r1 (by have := inner_len p; omega) hD (fun _ => rfl) (fun r y H2 Q2 hm s2 hx q2 => ?_) fun H2 s2 gD => ?_
      · have := inner_deep hm
        exact ⟨_, rfl, _, rfl, y, r, x, rfl, hx, by omega, fun u H3 s3 e => by subst e; exact q2 H3 s3⟩
      · refine ⟨D, _, rfl, .of gD, ?_⟩
        rw [nameCount_inner x p e]
        exact q.of (s0.trans (s1.trans s2)) rfl
def spGiven (K : PySem.W.Frag) (n : Nat) : Sp := fun vs H Q _ => ∃ (v u : V) (p g : Pg) (x : Nm), vs = [v, .str x.str, u] ∧ PgAt K H p v ∧ PgAt K H g u ∧ p.deep < n ∧ Ret H Q fun H' u => PgAt K H' (givenIn x g p) u
theorem ok_given (T : Tx w K mg) : ∀ n, Df P w K mg base CX0 (n + 1) "with_given" ["part", "name", "given"] [] (spGiven K n)
  | 0 => df_none T.d_with_given T.g_with_given (fun _ _ _ _ _ _ us hl => match us, hl with | [_, _, _], _ => rfl) fun vs H Q E ⟨_, _, _, _, _, _, _, _, h, _⟩ => absurd h (Nat.not_lt_zero _)
  | n + 1 => by
    have G := ok_given T n
    have GI := (ok_inner (P := P) (base := base) T).mono (show 1 ≤ n + 1 by omega)
    have GW := (ok_withInner (P := P) (base := base) T).mono (show 1 ≤ n + 1 by omega)
    refine df0 T.d_with_given T.g_with_given sc_with_given (fun _ _ _ _ _ _ us hl => match us, hl with | [_, _, _], _ => rfl) (fun vs H Q E h => ?_) (fun cdv A outer s H vs Q E hr h => ?_)
    · obtain ⟨v, u, p, g, x, rfl, _⟩ := h
      rfl
    obtain ⟨v, u, p, g, x, rfl, hp, hg, hn, q⟩ := h
    refine ⟨_, (pss_cons (ps_if (pt_cmpR (op_eqP hr.u) (pv 0) (pe_tup (pa_cons pe_str (pa_cons (pv 1) pa_nil))) (nomark _)) (pss_one (ps_ret (pv 2))) pss_nil) (pss_one (ps_ret (cal GW hr pass0 (pa_cons (pv 0) (pa_cons
      (pe_lc (own := [("one", 3)]) (g := gName 3) (tt := tYes) (te := tCall (spGiven K n) [] E0 (tCons (tVar 3) (tCons (tVar 1) (tCons (tVar 2) tNil)))) rfl sc_with_given.nd (pi_list (cal GI hr pass0 (pa_cons (pv 0) pa_nil))) (blkOk_by (own := [("one", 3)]) (N := ["part", "name", "given", "one"]) (sc := defScope s_with_given) (by decide +kernel))
        (fun _ _ _ _ _ => pg_name (i := 3) sc_with_given.nd rfl (Or.inl rfl)) (fun _ _ _ _ _ => pts_nil) (fun _ _ _ _ _ => cal G hr pass0 (pa_cons (pv 3) (pa_cons (pv 1) (pa_cons (pv 2) pa_nil))))) pa_nil)))))), ?_⟩
    refine ⟨_, rfl, _, rfl, sz2, fun c hc => ?_⟩
    have s0 := same_new hc (.tup [.str "name", .str x.str])
    refine ⟨p, .name x, hp.same s0, ⟨c, rfl, .of upd_same⟩, by show min _ (0 + 0) ≤ 300; omega, _, rfl, ?_⟩
    by_cases e : p = .name x
    · refine ifT (decide_eq_true e) ⟨_, rfl, q.of s0 ?_⟩
      subst e
      show PgAt K _ (if x = x then g else .name x) u
      rw [if_pos rfl]
      exact hg.same s0
    · refine ifF (decide_eq_false e) ⟨_, rfl, _, rfl, v, p, rfl, hp.same s0, fun b1 l1 H1 s1 n1 g1 r1 => ⟨b1, rfl, ⟨_, .of g1⟩, fun D hD => ?_⟩⟩
      refine lc_pgs (f := givenIn x g) s1 g1 r1 (by have := inner_len p; omega) hD (fun _ => rfl) (fun r y H2 Q2 hm s2 hx q2 => ?_) fun H2 ys s2 gD rD => ?_
      · have := inner_deep hm
        exact ⟨_, rfl, _, rfl, _, rfl, y, u, r, g, x, rfl, hx, hg.same (s0.trans (s1.trans s2)), by omega, fun u3 H3 s3 hu => q2 u3 H3 s3 hu⟩
      · refine ⟨v, p, D, ys, _, rfl, hp.same (s0.trans (s1.trans s2)), gD, rD, by rw [List.length_map], fun u3 H3 s3 hu => q _ _ ((s0.trans (s1.trans s2)).trans s3) ?_⟩
        rw [givenIn_inner x g p e] at hu
        exact hu
def spWhat (K : PySem.W.Frag) (n : Nat) : Sp := fun vs H Q _ => ∃ v p, vs = [v] ∧ PgAt K H p v ∧ canStep p = true ∧ p.deep < n ∧ Ret H Q fun H' u => PgAt K H' (whatComes p) u
theorem ok_what (T : Tx w K mg) (n : Nat) : Df P w K mg base CX0 (n + 2) "what_comes" ["part"] [] (spWhat K n) := by
  have G := ok_given (P := P) (base := base) T n
  refine df0 T.d_what_comes T.g_what_comes sc_what_comes (fun _ _ _ _ _ _ us hl => match us, hl with | [_], _ => rfl) (fun vs H Q E h => ?_) (fun cdv A outer s H vs Q E hr h => ?_)
  · obtain ⟨v, p, rfl, _⟩ := h
    rfl
  obtain ⟨v, p, rfl, hp, hc, hn, q⟩ := h
  refine ⟨_, (pss_cons (ps_if (pt_tag (pv 0) mono_var) (pss_cons (ps_asg (pv_at 0 1) (pg_tup rfl (pgs_cons (pg_name (i := 1) sc_what_comes.nd rfl (Or.inl rfl)) (pgs_cons (pg_name (i := 2) sc_what_comes.nd rfl (Or.inl rfl)) (pgs_cons (pg_name (i := 3) sc_what_comes.nd rfl (Or.inl rfl)) (pgs_cons (pg_name (i := 4) sc_what_comes.nd rfl (Or.inl rfl)) pgs_nil)))))) (pss_one (ps_ret (cal G hr pass0 (pa_cons (pv 4) (pa_cons (pv 2) (pa_cons (pv_at 0 2) pa_nil))))))) pss_nil) (pss_one (ps_ret (pe_ix ix_tup (pv_at 0 1) (pe_op op_add pe_int (pe_callTy call_int1 rfl T.n_int (by decide +kernel) (pa_cons (pe_tag (pv 0) mono_var) pa_nil))) (fun _ _ => rfl))))), ?_⟩
  match p, hc with
  | .give (.take x k b) g, _ =>
    obtain ⟨a, y, z, rfl, t, hy, hz⟩ := hp
    obtain ⟨a1, y1, z1, rfl, t1, hk, hb⟩ := hy
    have hn' : max (b.deep + 1) g.deep + 1 < n := hn
    exact ⟨_, rfl, a, _, _, rfl, t, ifT (by decide +kernel) ⟨_, rfl, a, _, _, rfl, t, rfl, a1, _, rfl, t1, rfl, _, _, rfl, _, _, rfl, _, _, rfl, _, _, rfl, rfl, _, rfl, _, rfl, _, rfl, a, _, _, rfl, t, rfl, z1, z, b, g, x, rfl, hb, hz, by omega, q⟩⟩
  | .first (.pair a1 b1), _ =>
    obtain ⟨a, y, rfl, t, hy⟩ := hp
    obtain ⟨b, y1, z1, rfl, tb, h1, h2⟩ := hy
    refine ⟨_, rfl, a, _, _, rfl, t, ifF (by decide +kernel) ⟨_, rfl, a, _, _, rfl, t, rfl, _, rfl, a, _, _, rfl, t, .inr ⟨_, rfl, _, _, rfl, rfl, b, _, _, _, rfl, rfl, tb, ?_, q.at h1⟩⟩⟩
    rw [show decide (Str.ofString "first" = Str.ofString "second") = false by decide +kernel]
    exact atI_nat (j := 1) rfl
  | .second (.pair a1 b1), _ =>
    obtain ⟨a, y, rfl, t, hy⟩ := hp
    obtain ⟨b, y1, z1, rfl, tb, h1, h2⟩ := hy
    refine ⟨_, rfl, a, _, _, rfl, t, ifF (by decide +kernel) ⟨_, rfl, a, _, _, rfl, t, rfl, _, rfl, a, _, _, rfl, t, .inr ⟨_, rfl, _, _, rfl, rfl, b, _, _, _, rfl, rfl, tb, ?_, q.at h2⟩⟩⟩
    rw [show decide (Str.ofString "second" = Str.ofString "second") = true by decide +kernel]
    exact atI_nat (j := 2) rfl
theorem what_deep {p : Pg} (h : canStep p = true) : (whatComes p).deep ≤ 2 * p.deep := by
  match p, h with
  | .give (.take x k b) g, _ =>
    have := deep_given x g b
    show (givenIn x g b).deep ≤ 2 * (max (b.deep + 1) g.deep + 1)
    omega
  | .first (.pair a b), _ => show a.deep ≤ 2 * (max a.deep b.deep + 1 + 1); omega
  | .second (.pair a b), _ => show b.deep ≤ 2 * (max a.deep b.deep + 1 + 1); omega
def spPtc (K : PySem.W.Frag) (n : Nat) : Sp := fun vs H Q _ => ∃ (v u : V) (p r : Pg), vs = [v, u] ∧ PgAt K H p v ∧ PgAt K H r u ∧ canStep r = true ∧ p.deep < n ∧ r.deep < n ∧ parts r ≤ 100000 ∧ Ret H Q fun _ u => u = .int (ptc p r)
theorem ok_ptc (T : Tx w K mg) (n : Nat) : Df P w K mg base CX0 (n + 3) "parts_that_come" ["program", "part"] [] (spPtc K n) := by
  have GP := (ok_parts (P := P) (base := base) T n).mono (show n + 1 ≤ n + 2 by omega)
  have GW := ok_what (P := P) (base := base) T n
  have GC := (ok_count (P := P) (base := base) T n).mono (show n + 1 ≤ n + 2 by omega)
  refine df0 T.d_parts_that_come T.g_parts_that_come sc_parts_that_come (fun _ _ _ _ _ _ us hl => match us, hl with | [_, _], _ => rfl) (fun vs H Q E h => ?_) (fun cdv A outer s H vs Q E hr h => ?_)
  · obtain ⟨v, u, p, r, rfl, _⟩ := h
    rfl
  obtain ⟨v, u, p, r, rfl, hp, hq, hc, hn, hn2, hz, q⟩ := h
  refine ⟨_, (pss_cons (ps_set (i := 2) sc_parts_that_come.nd rfl (.inl rfl) (pe_op op_sub (cal GP hr pass0 (pa_cons (pv 0) pa_nil)) (cal GP hr pass0 (pa_cons (pv 1) pa_nil)))) (pss_cons (ps_if (pt_ntag (pv 1) mono_var) (pss_one (ps_ret (pe_op op_add (pv 2) (cal GP hr pass0 (pa_cons (cal GW hr pass0 (pa_cons (pv 1) pa_nil)) pa_nil))))) pss_nil) (pss_cons (ps_asg (pv_at 1 1) (pg_tup rfl (pgs_cons (pg_name (i := 3) sc_parts_that_come.nd rfl (Or.inl rfl)) (pgs_cons (pg_name (i := 4) sc_parts_that_come.nd rfl (Or.inl rfl)) (pgs_cons (pg_name (i := 5) sc_parts_that_come.nd rfl (Or.inl rfl)) (pgs_cons (pg_name (i := 6) sc_parts_that_come.nd rfl (Or.inl rfl)) pgs_nil)))))) (pss_one (ps_ret (pe_op op_add (pe_op op_add (pv 2) (cal GP hr pass0 (pa_cons (pv 6) pa_nil))) (pe_op op_mul (cal GC hr pass0 (pa_cons (pv 6) (pa_cons (pv 4) pa_nil))) (pe_op op_sub (cal GP hr pass0 (pa_cons (pv_at 1 2) pa_nil)) pe_int)))))))), ?_⟩
  refine ⟨_, rfl, v, p, rfl, hp, hn, fun _ H1 s1 e => ?_⟩
  subst e
  refine ⟨_, rfl, u, r, rfl, hq.same s1, hn2, fun _ H2 s2 e => ?_⟩
  subst e
  refine ⟨_, _, rfl, rfl, ?_⟩
  have s12 := s1.trans s2
  have hq2 := hq.same s12
  match r, hc, hq2 with
  | .give (.take x k b) g, _, hq2 =>
    obtain ⟨a, y, z, rfl, t, hy, hz'⟩ := hq2
    obtain ⟨a1, y1, z1, rfl, t1, hk, hb⟩ := hy
    have hn' : max (b.deep + 1) g.deep + 1 < n := hn2
    refine ⟨_, rfl, a, _, _, rfl, t, ifF (by decide +kernel) ⟨_, rfl, a, _, _, rfl, t, rfl, a1, _, rfl, t1, rfl, _, _, rfl, _, _, rfl, _, _, rfl, _, _, rfl, rfl, ?_⟩⟩
    refine ⟨_, rfl, _, rfl, z1, b, rfl, hb, by omega, fun _ H3 s3 e => ?_⟩
    subst e
    refine ⟨_, _, rfl, rfl, _, rfl, _, rfl, z1, b, x, rfl, hb.same s3, by omega, fun _ H4 s4 e => ?_⟩
    subst e
    have s34 := s3.trans s4
    refine ⟨_, rfl, a, _, _, rfl, s34.tup t, rfl, z, g, rfl, hz'.same s34, by omega, fun _ H5 s5 e => ?_⟩
    subst e
    have hg := parts_pos g
    have hnc := nameCount_le x b
    have hz2 : 1 + ((1 + parts b) + parts g) ≤ 100000 := hz
    refine ⟨_, _, rfl, rfl, _, _, rfl, rfl, .inl ⟨by omega, by omega⟩, _, _, rfl, rfl, q.of (s12.trans (s34.trans s5)) (congrArg V.int ?_)⟩
    have e := parts_given x g b
    rw [show ((parts g : Nat) : Int) - 1 = ((parts g - 1 : Nat) : Int) by omega, ← Int.natCast_mul]
    show (parts p : Int) - (parts (.give (.take x k b) g) : Int) + (parts b : Int) + ((nameCount x b * (parts g - 1) : Nat) : Int) = (parts p : Int) - (parts (.give (.take x k b) g) : Int) + (parts (givenIn x g b) : Int)
    rw [e]
    omega
  | .first (.pair a1 b1), _, hq2 =>
    obtain ⟨a, xs, rfl, t⟩ := hq2.tagged
    have hn' : max a1.deep b1.deep + 1 + 1 < n := hn2
    refine ⟨_, rfl, a, _, _, rfl, t, ifT (by show (!decide (Str.ofString _ = Str.ofString _)) = true; decide +kernel) ⟨_, rfl, _, rfl, _, _, rfl, hq2, rfl, hn2, fun u3 H3 s3 h3 => ⟨u3, _, rfl, h3, ?_, fun _ H4 s4 e => ?_⟩⟩⟩
    · show a1.deep < n
      omega
    · subst e
      exact ⟨_, _, rfl, rfl, q.of (s12.trans (s3.trans s4)) rfl⟩
  | .second (.pair a1 b1), _, hq2 =>
    obtain ⟨a, xs, rfl, t⟩ := hq2.tagged
    have hn' : max a1.deep b1.deep + 1 + 1 < n := hn2
    refine ⟨_, rfl, a, _, _, rfl, t, ifT (by show (!decide (Str.ofString _ = Str.ofString _)) = true; decide +kernel) ⟨_, rfl, _, rfl, _, _, rfl, hq2, rfl, hn2, fun u3 H3 s3 h3 => ⟨u3, _, rfl, h3, ?_, fun _ H4 s4 e => ?_⟩⟩⟩
    · show b1.deep < n
      omega
    · subst e
      exact ⟨_, _, rfl, rfl, q.of (s12.trans (s3.trans s4)) rfl⟩
/-! ### done_at, next_place -/
theorem partAt_deep : ∀ {pl : List Nat} {p r : Pg}, partAt p pl = some r → pl.length + r.deep ≤ p.deep
  | [], p, r, h => by
    obtain rfl : p = r := Option.some.inj h
    show 0 + _ ≤ _
    omega
  | i :: pl, p, r, h => by
    have h' : (match (inner p)[i]? with | some q => partAt q pl | none => none) = some r := h
    cases z : (inner p)[i]? with
    | none => rw [z] at h'; cases h'
    | some q =>
      rw [z] at h'
      have := partAt_deep h'
      have := inner_deep (List.mem_of_getElem? z)
      rw [List.length_cons]
      omega
theorem partAt_parts : ∀ {pl : List Nat} {p r : Pg}, partAt p pl = some r → parts r ≤ parts p
  | [], p, r, h => by
    obtain rfl : p = r := Option.some.inj h
    exact Nat.le_refl _
  | i :: pl, p, r, h => by
    have h' : (match (inner p)[i]? with | some q => partAt q pl | none => none) = some r := h
    cases z : (inner p)[i]? with
    | none => rw [z] at h'; cases h'
    | some q =>
      rw [z] at h'
      have := partAt_parts h'
      have := inner_parts (List.mem_of_getElem? z)
      omega
theorem withInner_set_deep {p s q : Pg} {i : Nat} (h : (inner p)[i]? = some s) : (withInner p ((inner p).set i q)).deep ≤ max p.deep (q.deep + 1) := by
  cases p with
  | name x => cases h
  | thing => cases h
  | take x k p => match i with
    | 0 => show q.deep + 1 ≤ max (p.deep + 1) (q.deep + 1); omega
    | i + 1 => cases h
  | first p => match i with
    | 0 => show q.deep + 1 ≤ max (p.deep + 1) (q.deep + 1); omega
    | i + 1 => cases h
  | second p => match i with
    | 0 => show q.deep + 1 ≤ max (p.deep + 1) (q.deep + 1); omega
    | i + 1 => cases h
  | give a b => match i with
    | 0 => show max q.deep b.deep + 1 ≤ max (max a.deep b.deep + 1) (q.deep + 1); omega
    | 1 => show max a.deep q.deep + 1 ≤ max (max a.deep b.deep + 1) (q.deep + 1); omega
    | i + 2 => cases h
  | pair a b => match i with
    | 0 => show max q.deep b.deep + 1 ≤ max (max a.deep b.deep + 1) (q.deep + 1); omega
    | 1 => show max a.deep q.deep + 1 ≤ max (max a.deep b.deep + 1) (q.deep + 1); omega
    | i + 2 => cases h
theorem withInner_set_parts {p s q : Pg} {i : Nat} (h : (inner p)[i]? = some s) : parts (withInner p ((inner p).set i q)) + parts s = parts p + parts q := by
  cases p with
  | name x => cases h
  | thing => cases h
  | take x k p => match i with
    | 0 => obtain rfl := Option.some.inj h; show 1 + parts q + parts _ = 1 + parts _ + parts q; omega
    | i + 1 => cases h
  | first p => match i with
    | 0 => obtain rfl := Option.some.inj h; show 1 + parts q + parts _ = 1 + parts _ + parts q; omega
    | i + 1 => cases h
  | second p => match i with
    | 0 => obtain rfl := Option.some.inj h; show 1 + parts q + parts _ = 1 + parts _ + parts q; omega
    | i + 1 => cases h
  | give a b => match i with
    | 0 => obtain rfl := Option.some.inj h; show 1 + (parts q + parts b) + parts _ = 1 + (parts _ + parts b) + parts q; omega
    | 1 => obtain rfl := Option.some.inj h; show 1 + (parts a + parts q) + parts _ = 1 + (parts a + parts _) + parts q; omega
    | i + 2 => cases h
  | pair a b => match i with
    | 0 => obtain rfl := Option.some.inj h; show 1 + (parts q + parts b) + parts _ = 1 + (parts _ + parts b) + parts q; omega
    | 1 => obtain rfl := Option.some.inj h; show 1 + (parts a + parts q) + parts _ = 1 + (parts a + parts _) + parts q; omega
    | i + 2 => cases h
theorem withPart_deep {q : Pg} : ∀ {pl : List Nat} {p : Pg}, (withPart p pl q).deep ≤ max p.deep (pl.length + q.deep)
  | [], p => by show q.deep ≤ max p.deep (0 + q.deep); omega
  | i :: pl, p => by
    rw [withPart]
    cases z : (inner p)[i]? with
    | none => exact Nat.le_max_left _ _
    | some s =>
      have h1 := withInner_set_deep (q := withPart s pl q) z
      have h2 := withPart_deep (q := q) (pl := pl) (p := s)
      have h3 := inner_deep (List.mem_of_getElem? z)
      show (withInner p ((inner p).set i (withPart s pl q))).deep ≤ _
      rw [List.length_cons]
      omega
theorem withPart_parts {q : Pg} : ∀ {pl : List Nat} {p r : Pg}, partAt p pl = some r → parts (withPart p pl q) + parts r = parts p + parts q
  | [], p, r, h => by
    obtain rfl : p = r := Option.some.inj h
    show parts q + parts p = _
    omega
  | i :: pl, p, r, h => by
    have h' : (match (inner p)[i]? with | some q => partAt q pl | none => none) = some r := h
    rw [withPart]
    cases z : (inner p)[i]? with
    | none => rw [z] at h'; cases h'
    | some s =>
      rw [z] at h'
      have h1 := withInner_set_parts (q := withPart s pl q) z
      have h2 := withPart_parts (q := q) h'
      show parts (withInner p ((inner p).set i (withPart s pl q))) + _ = _
      omega
theorem tid_deep (p : Pg) : ∀ T, (tid T p).deep = p.deep := by
  induction p with
  | name x => intro T; rfl
  | thing => intro T; rfl
  | take x k p h => intro T; show (tid _ p).deep + 1 = _; rw [h]; rfl
  | give p q h h' => intro T; show max (tid T p).deep (tid T q).deep + 1 = _; rw [h, h']; rfl
  | pair p q h h' => intro T; show max (tid T p).deep (tid T q).deep + 1 = _; rw [h, h']; rfl
  | first p h => intro T; show (tid T p).deep + 1 = _; rw [h]; rfl
  | second p h => intro T; show (tid T p).deep + 1 = _; rw [h]; rfl
theorem tid_parts (p : Pg) : ∀ T, parts (tid T p) = parts p := by
  induction p with
  | name x => intro T; rfl
  | thing => intro T; rfl
  | take x k p h => intro T; show 1 + parts (tid _ p) = _; rw [h]; rfl
  | give p q h h' => intro T; show 1 + (parts (tid T p) + parts (tid T q)) = _; rw [h, h']; rfl
  | pair p q h h' => intro T; show 1 + (parts (tid T p) + parts (tid T q)) = _; rw [h, h']; rfl
  | first p h => intro T; show 1 + parts (tid T p) = _; rw [h]; rfl
  | second p h => intro T; show 1 + parts (tid T p) = _; rw [h]; rfl
theorem step_deep {p r : Pg} {pl : List Nat} (h : partAt p pl = some r) (c : canStep r = true) : (withPart p pl (whatComes r)).deep ≤ 2 * p.deep := by
  have h1 := withPart_deep (q := whatComes r) (pl := pl) (p := p)
  have h2 := partAt_deep h
  have h3 := what_deep c
  omega
def spDone (K : PySem.W.Frag) (n : Nat) : Sp := fun vs H Q _ => ∃ (v : V) (a : Addr) (p r : Pg) (pl : List Nat), vs = [v, .ref a] ∧ PgAt K H p v ∧ H a = some (.lst (natV pl)) ∧ partAt p pl = some r ∧ canStep r = true ∧ 2 * p.deep < n ∧ n ≤ 1000 ∧ Ret H Q fun H' u => PgAt K H' (tid [] (withPart p pl (whatComes r))) u
theorem ok_done (T : Tx w K mg) (n : Nat) : Df P w K mg base CX0 (n + 3) "done_at" ["program", "place"] [] (spDone K n) := by
  have GT := (ok_tidied (P := P) (base := base) T n).mono (show n + 2 ≤ n + 2 by omega)
  have GP := (ok_withPart (P := P) (base := base) T n).mono (show n + 1 ≤ n + 2 by omega)
  have GW := ok_what (P := P) (base := base) T n
  have GA := (ok_partAt (P := P) (base := base) T).mono (show 2 ≤ n + 2 by omega)
  refine df0 T.d_done_at T.g_done_at sc_done_at (fun _ _ _ _ _ _ us hl => match us, hl with | [_, _], _ => rfl) (fun vs H Q E h => ?_) (fun cdv A outer s H vs Q E hr h => ?_)
  · obtain ⟨v, a, p, r, pl, rfl, _⟩ := h
    rfl
  obtain ⟨v, a, p, r, pl, rfl, hp, ha, he, hc, hn, hz, q⟩ := h
  refine ⟨_, (pss_one (ps_ret (cal GT hr pass0 (pa_cons (cal GP hr pass0 (pa_cons (pv 0) (pa_cons (pv 1) (pa_cons (cal GW hr pass0 (pa_cons (cal GA hr pass0 (pa_cons (pv 0) (pa_cons (pv 1) pa_nil))) pa_nil)) pa_nil)))) pa_nil)))), ?_⟩
  have d1 := partAt_deep he
  refine ⟨_, rfl, _, rfl, _, rfl, _, rfl, v, p, a, pl, r, rfl, hp, ha, he, fun u1 H1 s1 h1 => ⟨u1, r, rfl, h1, hc, by omega, fun u2 H2 s2 h2 => ?_⟩⟩
  have s12 := s1.trans s2
  refine ⟨v, u2, p, r, _, a, pl, rfl, hp.same s12, s12 _ _ ha, he, h2, by omega, fun u3 H3 s3 h3 => ⟨u3, _, rfl, h3, ?_, hz, q.mono (s12.trans s3)⟩⟩
  have := step_deep he hc
  omega
def spNext (K : PySem.W.Frag) : Sp := fun vs H Q _ => ∃ (a : Addr) (x : V) (ws : List V) (n : Int), vs = [.ref a, .non, .int n] ∧ H a = some (.lst (x :: ws)) ∧ Q x H
theorem ok_next (T : Tx w K mg) : Df P w K mg base CX0 1 "next_place" ["places", "picks", "number"] [] (spNext K) := by
  refine df0 T.d_next_place T.g_next_place sc_next_place (fun _ _ _ _ _ _ us hl => match us, hl with | [_, _, _], _ => rfl) (fun vs H Q E h => ?_) (fun cdv A outer s H vs Q E hr h => ?_)
  · obtain ⟨a, x, ws, n, rfl, _⟩ := h
    rfl
  obtain ⟨a, x, ws, n, rfl, ha, q⟩ := h
  refine ⟨_, (pss_cons (ps_if (PW.pt (pw_or (pt_cmp (pc_isN (pv 1))) (pw_or1 (pt_cmpR (op_eqNil hr.u64) (pv 1) (pe_lst pa_nil) (nomark _))))) (pss_one (ps_ret (pe_atL 0 (pv 0) mono_var))) pss_nil) (pss_one (ps_never))), ?_⟩
  exact ⟨_, rfl, _, rfl, ifT rfl (ifT rfl ⟨_, rfl, a, _, _, rfl, .of ha, rfl, q⟩)⟩
end
end KF

set_option Elab.async false
set_option linter.all false
set_option maxRecDepth 100000
set_option maxHeartbeats 4000000
namespace KF
open PySem PySem.Spec L2 TL
/-! ### run -/
theorem stepPl_at : ∀ {p : Pg} {pl : List Nat}, pl ∈ stepPl p → ∃ r, partAt p pl = some r ∧ canStep r = true
  | .name x, pl, h => by cases h
  | .thing, pl, h => by cases h
  | .take x k p, pl, h => by
    obtain ⟨pl', h', rfl⟩ := List.mem_map.mp h
    obtain ⟨r, e, c⟩ := stepPl_at h'
    exact ⟨r, e, c⟩
  | .pair p q, pl, h => by
    rcases List.mem_append.mp h with h | h
    · obtain ⟨pl', h', rfl⟩ := List.mem_map.mp h
      obtain ⟨r, e, c⟩ := stepPl_at h'
      exact ⟨r, e, c⟩
    · obtain ⟨pl', h', rfl⟩ := List.mem_map.mp h
      obtain ⟨r, e, c⟩ := stepPl_at h'
      exact ⟨r, e, c⟩
  | .give p q, pl, h => by
    rcases List.mem_append.mp h with h | h
    · by_cases c : isTake p = true
      · rw [if_pos c] at h
        obtain rfl := List.mem_singleton.mp h
        exact ⟨_, rfl, c⟩
      · rw [if_neg c] at h
        cases h
    · rcases List.mem_append.mp h with h | h
      · obtain ⟨pl', h', rfl⟩ := List.mem_map.mp h
        obtain ⟨r, e, c⟩ := stepPl_at h'
        exact ⟨r, e, c⟩
      · obtain ⟨pl', h', rfl⟩ := List.mem_map.mp h
        obtain ⟨r, e, c⟩ := stepPl_at h'
        exact ⟨r, e, c⟩
  | .first p, pl, h => by
    rcases List.mem_append.mp h with h | h
    · by_cases c : isPair p = true
      · rw [if_pos c] at h
        obtain rfl := List.mem_singleton.mp h
        exact ⟨_, rfl, c⟩
      · rw [if_neg c] at h
        cases h
    · obtain ⟨pl', h', rfl⟩ := List.mem_map.mp h
      obtain ⟨r, e, c⟩ := stepPl_at h'
      exact ⟨r, e, c⟩
  | .second p, pl, h => by
    rcases List.mem_append.mp h with h | h
    · by_cases c : isPair p = true
      · rw [if_pos c] at h
        obtain rfl := List.mem_singleton.mp h
        exact ⟨_, rfl, c⟩
      · rw [if_neg c] at h
        cases h
    · obtain ⟨pl', h', rfl⟩ := List.mem_map.mp h
      obtain ⟨r, e, c⟩ := stepPl_at h'
      exact ⟨r, e, c⟩
/-- the first steps, one after another, until none is left -/
inductive Runs : Pg → Pg → Prop
  | done {p : Pg} (h : stepPl p = []) : Runs p p
  | step {p q r : Pg} {pl : List Nat} {ps : List (List Nat)} (h : stepPl p = pl :: ps) (e : partAt p pl = some r) (c : canStep r = true) (t : Runs (tid [] (withPart p pl (whatComes r))) q) : Runs p q
/-- a list of lists of numbers as data -/
theorem PlAt.dp {K : PySem.W.Frag} {H : Hp} (pl : List Nat) (v : V) : PlAt H pl v → Dp K H v (.list (pl.map fun n : Nat => PyData.int (n : Int))) := fun ⟨a, e, q⟩ => e ▸ .lst (.of q) (dp_nats pl)
theorem lay_pl (pl : List Nat) : (PyData.list (pl.map fun n : Nat => PyData.int (n : Int))).canLay0 = true := by rw [PyData.canLay0]; exact lay_nats pl
section
variable {P : Program} {w : World} {K : PySem.W.Frag} {mg : Str → Option Value} {base : Heap}
abbrev tooLong (K : PySem.W.Frag) : Value := .ref (He.ga K "TooLong")
def spRun (K : PySem.W.Frag) : Sp := fun vs H Q E => ∃ (v : V) (p : Pg), vs = [v, .non] ∧ PgAt K H p v ∧ p.deep ≤ 100 ∧ parts p ≤ 10000 ∧ (∀ H', Same H H' → E (tooLong K) none H') ∧
  ∀ H' a u b q, Same H H' → SqT K H' a [u, b] → PgAt K H' q u → Runs (tid [] p) q → q.deep ≤ 100 → parts q ≤ 10000 → Q (.ref a) H'
theorem ok_run (T : Tx w K mg) : Df P w K mg base (L2.CX P w) 210 "run" ["program", "picks"] [.non] (spRun K) := by
  have GT := (ok_tidied (P := P) (base := base) T 101).mono (show 103 ≤ 209 by omega)
  have GS := (ok_stepPl (P := P) (base := base) T 101).mono (show 103 ≤ 209 by omega)
  have GN := (ok_next (P := P) (base := base) T).mono (show 1 ≤ 209 by omega)
  have GC := (ok_ptc (P := P) (base := base) T 101).mono (show 104 ≤ 209 by omega)
  have GA := (ok_partAt (P := P) (base := base) T).mono (show 2 ≤ 209 by omega)
  have GD := (ok_done (P := P) (base := base) T 201).mono (show 204 ≤ 209 by omega)
  have GE := (ok_deep (P := P) (base := base) T 201).mono (show 202 ≤ 209 by omega)
  obtain ⟨t1, g1⟩ := T.i_MOST_STEPS
  obtain ⟨t2, g2⟩ := T.i_MOST_PARTS_steps
  obtain ⟨t3, g3⟩ := T.i_MOST_DEEP_steps
  obtain ⟨x1, x2, x3, x4⟩ := T.x_TooLong
  obtain ⟨fd, F⟩ := T.d_run
  obtain ⟨ds, hds, hbn⟩ := F.binds1 (ps := ["program", "picks"]) 1 0 (fun z => by cases z) rfl (fun Ta kV doc pm an cdv ct us its h1 h2 => match us, its, h1, h2 with | [_], [_], _, _ => ⟨_, rfl, rfl⟩)
  refine ⟨⟨fd, ds, FunD_okL F sc_run (fun vs H Q E h => ?_) (fun cdv A outer s H vs Q E hr h => ?_), hbn, hds⟩, T.g_run, F.kp⟩
  · obtain ⟨v, p, rfl, _⟩ := h
    rfl
  obtain ⟨v, p, rfl, hp, hd, hz, hE, q⟩ := h
  refine ⟨_, (pss_cons (ps_set (i := 0) sc_run.nd rfl (.inl rfl) (cal GT hr pass0 (pa_cons (pv 0) pa_nil))) (pss_cons (ps_set (i := 2) sc_run.nd rfl (.inl rfl) (pe_lst pa_nil)) (pss_cons (ps_set (i := 3) sc_run.nd rfl (.inl rfl) (cal GS hr pass0 (pa_cons (pv 0) pa_nil))) (pss_cons (ps_while (passes_of rfl) (pt_cmpR (op_neNil hr.u64) (pv 3) (pe_lst pa_nil) (nomark _))
      (pss_cons (ps_set (i := 4) sc_run.nd rfl (.inl rfl) (cal GN hr pass0 (pa_cons (pv 3) (pa_cons (pv 1) (pa_cons (pe_callB call_len_seq rfl T.n_len PySem.boot_len (pa_cons (pv 2) pa_nil)) pa_nil))))) (pss_cons (ps_if (PW.pt (pw_or (pt_cmpR op_eq (pe_callB call_len_seq rfl T.n_len PySem.boot_len (pa_cons (pv 2) pa_nil)) (pe_glob (v := .int 200) rfl g1 ⟨_, rfl⟩) (nomark _)) (pw_or1 (pt_cmpR op_gt (cal GC hr pass0 (pa_cons (pv 0) (pa_cons (cal GA hr pass0 (pa_cons (pv 0) (pa_cons (pv 4) pa_nil))) pa_nil))) (pe_glob (v := .int 1500) rfl g2 ⟨_, rfl⟩) (nomark _)))))
        (pss_one (ps_raise rfl (takes_of rfl rfl rfl rfl) (pmk_own PySem.F.excBase_ValueError x1 T.c_TooLong x2 (raises_own x3 x4) (by exact rfl)))) pss_nil) (pss_cons (ps_set (i := 0) sc_run.nd rfl (.inl rfl) (cal GD hr pass0 (pa_cons (pv 0) (pa_cons (pv 4) pa_nil)))) (pss_cons (ps_if (pt_cmpR op_gt (cal GE hr pass0 (pa_cons (pv 0) pa_nil)) (pe_glob (v := .int 100) rfl g3 ⟨_, rfl⟩) (nomark _))
        (pss_one (ps_raise rfl (takes_of rfl rfl rfl rfl) (pmk_own PySem.F.excBase_ValueError x1 T.c_TooLong x2 (raises_own x3 x4) (by exact rfl)))) pss_nil) (pss_cons (ps_expr (pe_bm PySem.F.plainAttrs_list PySem.F.slot_list_append PySem.F.type_list_append mt_append (pv 2) (pa_cons (pv 4) pa_nil))) (pss_one (ps_set (i := 3) sc_run.nd rfl (.inl rfl) (cal GS hr pass0 (pa_cons (pv 0) pa_nil)))))))))) (pss_one (ps_ret (pe_tup (pa_cons (pv 0) (pa_cons (pv 2) pa_nil))))))))), ?_⟩
  refine ⟨_, rfl, v, p, rfl, hp, by omega, by omega, fun u0 H0 s0 h0 => ⟨sz0, fun lg hlg => ?_⟩⟩
  have sl := same_new hlg (.lst [])
  refine ⟨_, rfl, u0, _, rfl, h0.same sl, by rw [tid_deep]; omega, by omega, by rw [tid_parts]; exact hz, fun a0 ws0 H2 s2 f0 l0 => ?_⟩
  have s02 := s0.trans (sl.trans s2)
  refine ⟨fun m σ H1 => ∃ (cur : Pg) (pv : V) (a : Addr) (ws ls : List V) (z4 : Option V), σ = [some pv, some .non, some (.ref lg), some (.ref a), z4] ∧ Same H H1 ∧ PgAt K H1 cur pv ∧ (∀ q, Runs cur q → Runs (tid [] p) q) ∧ cur.deep ≤ 100 ∧ parts cur ≤ 10000 ∧
    H1 a = some (.lst ws) ∧ All2 (PlAt H1) (stepPl cur) ws ∧ H1 lg = some (.lst ls) ∧ ls.length + m = 200, ⟨200, _, u0, a0, ws0, [], none, rfl, s02, h0.same (sl.trans s2), fun _ h => h, by rw [tid_deep]; exact hd, by rw [tid_parts]; exact hz, f0, l0, s2 _ _ upd_same, rfl⟩, ?_⟩
  rintro m σ H1 ⟨cur, pv', a, ws, ls, z4, rfl, s1, hc, hr1, hd1, hz1, fa, la, fl, em⟩
  refine ⟨_, rfl, sz0, fun c hcn => ?_⟩
  have sc := same_new hcn (.lst [])
  have s1c := s1.trans sc
  have hlgH : H lg = none := s0.free hlg
  refine ⟨a, c, _, ws, rfl, rfl, .of (sc _ _ fa), All2.dp (f := fun pl : List Nat => PyData.list (pl.map fun n : Nat => PyData.int (n : Int))) (fun pl v h => PlAt.dp pl v (h.same sc)) la, lays_all lay_pl _, .of upd_same, _, rfl, ?_⟩
  cases hsp : stepPl cur with
  | nil =>
    rw [hsp] at la
    obtain rfl : ws = [] := by cases ws with | nil => rfl | cons _ _ => exact la.elim
    refine ifF rfl ⟨_, rfl, _, rfl, sz2, fun d hdn => ?_⟩
    have sd := same_new hdn (.tup [pv', .ref lg])
    exact q _ d pv' _ cur (s1c.trans sd) (.of upd_same) (hc.same (sc.trans sd)) (hr1 _ (.done hsp)) hd1 hz1
  | cons pl ps =>
    rw [hsp] at la
    match ws, la with
    | xp :: ws, la =>
    obtain ⟨⟨b, rfl, hb⟩, _⟩ := la
    obtain ⟨r, hat, hcan⟩ := stepPl_at (p := cur) (pl := pl) (by rw [hsp]; exact List.mem_cons_self)
    have dr := partAt_deep hat
    have zr := partAt_parts hat
    refine ifT rfl ⟨fun σ' H' => ∃ m', m' < m ∧ (∃ (cur : Pg) (pv : V) (a : Addr) (ws ls : List V) (z4 : Option V), σ' = [some pv, some .non, some (.ref lg), some (.ref a), z4] ∧ Same H H' ∧ PgAt K H' cur pv ∧ (∀ q, Runs cur q → Runs (tid [] p) q) ∧ cur.deep ≤ 100 ∧ parts cur ≤ 10000 ∧
      H' a = some (.lst ws) ∧ All2 (PlAt H') (stepPl cur) ws ∧ H' lg = some (.lst ls) ∧ ls.length + m' = 200), fun σ' H' h => h, ?_⟩
    refine ⟨_, rfl, _, rfl, _, rfl, lg, _, rfl, .inl (.of (sc _ _ fl)), a, _, _, _, rfl, sc _ _ fa, ?_⟩
    refine ⟨_, rfl, lg, _, rfl, .inl (.of (sc _ _ fl)), rfl, _, rfl, ?_⟩
    have raised : ∀ H', Same (upd H1 c (.lst [])) H' → E (tooLong K) none H' := fun H' s' => hE H' (s1c.trans s')
    refine if2 (fun _ => ifT rfl (raised _ (.refl _))) fun hne => ?_
    have hlen : ls.length ≠ 200 := fun e => by
      have := of_decide_eq_false hne
      exact this (by rw [e]; rfl)
    refine ⟨_, rfl, _, rfl, _, rfl, pv', cur, b, pl, r, rfl, hc.same sc, sc _ _ hb, hat, fun ur H3 s3 h3 => ⟨pv', ur, cur, r, rfl, hc.same (sc.trans s3), h3, hcan, by omega, by omega, by omega, fun _ H4 s4 e => ?_⟩⟩
    subst e
    have s34 := s3.trans s4
    refine ⟨_, _, rfl, rfl, _, rfl, ?_⟩
    refine if2 (fun _ => raised _ s34) fun hle => ?_
    have hptc : ptc cur r ≤ 1500 := by have := of_decide_eq_false hle; omega
    have hpn := withPart_parts (q := whatComes r) hat
    have hpn2 : parts (withPart cur pl (whatComes r)) ≤ 1500 := by unfold ptc at hptc; omega
    have sc4 := sc.trans s34
    refine ⟨_, rfl, _, rfl, pv', b, cur, r, pl, rfl, hc.same sc4, sc4 _ _ hb, hat, hcan, by omega, by omega, fun u5 H5 s5 h5 => ?_⟩
    have hdn := step_deep hat hcan
    refine ⟨_, rfl, u5, _, rfl, h5, by rw [tid_deep]; omega, fun _ H6 s6 e => ?_⟩
    subst e
    refine ⟨_, _, rfl, rfl, _, rfl, ?_⟩
    refine if2 (fun _ => raised _ (s34.trans (s5.trans s6))) fun hle2 => ?_
    have hdeep : (tid [] (withPart cur pl (whatComes r))).deep ≤ 100 := by have := of_decide_eq_false hle2; omega
    have sc6 := sc4.trans (s5.trans s6)
    have fl6 := sc6 _ _ fl
    refine ⟨_, rfl, tyL fl6, _, rfl, lg, ls, _, rfl, rfl, fl6, small' (by omega), ?_⟩
    have ts7 : TS K H6 (upd H6 lg (.lst (ls ++ [.ref b]))) := But.ts (But.upd _ _ _) fl6 rfl
    refine ⟨_, rfl, u5, _, rfl, (h5.same s6).ts ts7, by omega, by omega, by rw [tid_parts]; omega, fun a8 ws8 H8 s8 f8 l8 => ?_⟩
    refine ⟨m - 1, by omega, _, u5, a8, ws8, ls ++ [.ref b], _, rfl, ?_, ((h5.same s6).ts ts7).same s8, fun q' hq' => hr1 _ (.step hsp hat hcan hq'), hdeep, by rw [tid_parts]; omega, f8, l8, s8 _ _ upd_same, by rw [List.length_append, List.length_singleton]; omega⟩
    intro x o hx
    refine s8 _ _ ?_
    rw [upd_ne (ne_of_none hx hlgH)]
    exact sc6 _ _ (s1 _ _ hx)
end
end KF

set_option Elab.async false
set_option linter.all false
set_option maxRecDepth 100000
set_option maxHeartbeats 4000000
namespace KF
open PySem PySem.Spec L2 TL
/-! ### plain long programs -/
mutual
def Lg : Nat → Ctx → Nat → Kd → Pg → Prop
  | 0, _, _, _, _ => False
  | _ + 1, _, _, .one, p => p = .thing
  | n + 1, l, t, .mark b, p => Hd n l t p (.mark b)
  | n + 1, l, t, .both a b, p => ∃ q r, p = .pair q r ∧ Lg n l t a q ∧ Lg n l t b r
  | n + 1, l, t, .to a b, p => ∃ q, p = .take (.x t) a q ∧ Lg n (l ++ [(.x t, a)]) (t + 1) b q
def Hd : Nat → Ctx → Nat → Pg → Kd → Prop
  | 0, _, _, _, _ => False
  | _ + 1, l, _, .name x, k => knownAs l x = some k
  | n + 1, l, t, .give p q, k => ∃ a, Hd n l t p (.to a k) ∧ Lg n l t a q
  | n + 1, l, t, .first p, k => ∃ b, Hd n l t p (.both k b)
  | n + 1, l, t, .second p, k => ∃ a, Hd n l t p (.both a k)
  | _ + 1, _, _, _, _ => False
end
theorem Hd.depth {D : Nat} : ∀ {n : Nat} {l : Ctx} {t : Nat} {p : Pg} {k : Kd}, (∀ q ∈ l, q.2.depth ≤ D) → Hd n l t p k → k.depth ≤ D
  | 0, _, _, _, _, _, h => by rw [Hd] at h; exact h.elim
  | n + 1, l, t, .name x, k, hl, h => by rw [Hd] at h; exact hl _ (knownAs_mem h)
  | n + 1, l, t, .give p q, k, hl, h => by
    rw [Hd] at h
    obtain ⟨a, h1, _⟩ := h
    have : 1 + max a.depth k.depth ≤ D := Hd.depth hl h1
    omega
  | n + 1, l, t, .first p, k, hl, h => by
    rw [Hd] at h
    obtain ⟨b, h1⟩ := h
    have : 1 + max k.depth b.depth ≤ D := Hd.depth hl h1
    omega
  | n + 1, l, t, .second p, k, hl, h => by
    rw [Hd] at h
    obtain ⟨b, h1⟩ := h
    have : 1 + max b.depth k.depth ≤ D := Hd.depth hl h1
    omega
  | n + 1, l, t, .take _ _ _, k, hl, h => by rw [Hd] at h; exact h.elim; all_goals (intros; rename_i z; cases z)
  | n + 1, l, t, .pair _ _, k, hl, h => by rw [Hd] at h; exact h.elim; all_goals (intros; rename_i z; cases z)
  | n + 1, l, t, .thing, k, hl, h => by rw [Hd] at h; exact h.elim; all_goals (intros; rename_i z; cases z)
def sizeN : Pg → Nat
  | .name _ => 1
  | .take _ _ p => sizeN p
  | .give p q => sizeN p + sizeN q
  | .pair p q => sizeN p + sizeN q
  | .first p => sizeN p
  | .second p => sizeN p
  | .thing => 0
theorem size_inner (p : Pg) : (if decide (p.tag = "name") then (1 : Int) else 0) + ((inner p).map fun q => (sizeN q : Int)).sum = (sizeN p : Int) := by
  rcases tag_name p with ⟨x, rfl⟩ | ⟨h, h2⟩
  · rw [if_pos (by show decide (Str.ofString _ = Str.ofString _) = true; decide +kernel)]; rfl
  · rw [if_neg (by rw [h]; decide)]
    cases p with
    | name x => exact absurd rfl (h2 x)
    | _ => simp [inner, sizeN]
section
variable {P : Program} {w : World} {K : PySem.W.Frag} {mg : Str → Option Value} {base : Heap}
def spTaken : Sp := fun vs H Q _ => ∃ t : Nat, vs = [.int t] ∧ t ≤ 100000 ∧ Q (.str (Nm.x t).str) H
theorem ok_taken (T : Tx w K mg) : Df P w K mg base CX0 1 "taken_name" ["takes"] [] spTaken := by
  refine df0 T.d_taken_name T.g_taken_name sc_taken_name (fun _ _ _ _ _ _ us hl => match us, hl with | [_], _ => rfl) (fun vs H Q E h => ?_) (fun cdv A outer s H vs Q E hr h => ?_)
  · obtain ⟨t, rfl, _⟩ := h
    rfl
  obtain ⟨t, rfl, hz, q⟩ := h
  exact ⟨_, (pss_one (ps_ret (pe_op op_add_str pe_str (pe_callTy call_str_int rfl T.n_str (by decide +kernel) (pa_cons (pv 0) pa_nil))))), _, rfl, _, rfl, log_small hz, _, _, rfl, rfl, xstr_small hz, q⟩
def spSize (K : PySem.W.Frag) (n : Nat) : Sp := fun vs H Q _ => ∃ v p, vs = [v] ∧ PgAt K H p v ∧ p.deep < n ∧ Ret H Q fun _ u => u = .int (sizeN p)
theorem ok_size (T : Tx w K mg) : ∀ n, Df P w K mg base CX0 (n + 1) "size_of" ["program"] [] (spSize K n)
  | 0 => df_none T.d_size_of T.g_size_of (fun _ _ _ _ _ _ us hl => match us, hl with | [_], _ => rfl) fun vs H Q E ⟨_, _, _, _, h, _⟩ => absurd h (Nat.not_lt_zero _)
  | n + 1 => by
    have G := ok_size T n
    have GI := (ok_inner (P := P) (base := base) T).mono (show 1 ≤ n + 1 by omega)
    refine df0 T.d_size_of T.g_size_of sc_size_of (fun _ _ _ _ _ _ us hl => match us, hl with | [_], _ => rfl) (fun vs H Q E h => ?_) (fun cdv A outer s H vs Q E hr h => ?_)
    · obtain ⟨v, p, rfl, _⟩ := h
      rfl
    obtain ⟨v, p, rfl, hp, hn, q⟩ := h
    refine ⟨_, (pss_one (ps_ret (pe_op op_add (pe_callTy call_int1 rfl T.n_int (by decide +kernel) (pa_cons (pe_tag (pv 0) mono_var) pa_nil)) (pe_callB (cr_sum rfl) rfl T.n_sum (by decide +kernel) (pa_cons
      (pe_lc (own := [("part", 1)]) (g := gName 1) (tt := tYes) (te := tCall (spSize K n) [] E0 (tCons (tVar 1) tNil)) rfl sc_size_of.nd (pi_list (cal GI hr pass0 (pa_cons (pv 0) pa_nil))) (blkOk_by (own := [("part", 1)]) (N := ["program", "part"]) (sc := defScope s_size_of) (by decide +kernel))
        (fun _ _ _ _ _ => pg_name (i := 1) sc_size_of.nd rfl (Or.inl rfl)) (fun _ _ _ _ _ => pts_nil) (fun _ _ _ _ _ => cal G hr pass0 (pa_cons (pv 1) pa_nil))) pa_nil))))), ?_⟩
    obtain ⟨a, xs, rfl, t⟩ := hp.tagged
    refine ⟨_, rfl, a, _, _, rfl, t, .inr ⟨_, rfl, _, rfl, _, p, rfl, hp, fun b1 l1 H1 s1 n1 g1 r1 => ⟨b1, rfl, ⟨_, .of g1⟩, fun D hD => ?_⟩⟩⟩
    refine lc_nums (f := fun q => (sizeN q : Int)) s1 g1 r1 (by have := inner_len p; omega) hD (fun _ => rfl) (fun r x H2 Q2 hm s2 hx q2 => ?_) fun H2 s2 gD => ?_
    · have := inner_deep hm
      exact ⟨_, rfl, x, r, rfl, hx, by omega, fun u H3 s3 e => by rw [e]; exact q2 H3 s3⟩
    · exact ⟨D, _, rfl, .of gD, _, _, rfl, rfl, (q.mono (s1.trans s2)).at (congrArg V.int (size_inner p))⟩
def spIsL (K : PySem.W.Frag) (n : Nat) : Sp := fun vs H Q _ => ∃ (a : Addr) (kv v : V) (t : Nat) (l : Ctx) (ws : List V) (k : Kd) (p : Pg), vs = [.ref a, kv, v, .int t] ∧ H a = some (.lst ws) ∧ All2 (NmAt K H) l ws ∧ KdAt K H k kv ∧ PgAt K H p v ∧ Lg n l t k p ∧
  (∀ q ∈ l, q.2.depth ≤ 100) ∧ k.depth ≤ 100 ∧ ws.length + n ≤ 10000 ∧ t + n ≤ 10000 ∧ Ret H Q fun _ u => u = .bl true
def spGone (K : PySem.W.Frag) (n : Nat) : Sp := fun vs H Q _ => ∃ (a : Addr) (v : V) (t : Nat) (l : Ctx) (ws : List V) (k : Kd) (p : Pg), vs = [.ref a, v, .int t] ∧ H a = some (.lst ws) ∧ All2 (NmAt K H) l ws ∧ PgAt K H p v ∧ Hd n l t p k ∧
  (∀ q ∈ l, q.2.depth ≤ 100) ∧ ws.length + n ≤ 10000 ∧ t + n ≤ 10000 ∧ Ret H Q fun H' u => KdAt K H' k u
theorem ok_isL (T : Tx w K mg) : ∀ n, Df P w K mg base CX0 (n + 2) "is_long_here" ["known", "kind", "program", "takes"] [] (spIsL K n) ∧ Df P w K mg base CX0 (n + 2) "gone_along" ["known", "program", "takes"] [] (spGone K n)
  | 0 => ⟨df_none T.d_is_long_here T.g_is_long_here (fun _ _ _ _ _ _ us hl => match us, hl with | [_, _, _, _], _ => rfl) (fun vs H Q E ⟨_, _, _, _, _, _, _, _, _, _, _, _, _, h, _⟩ => by rw [Lg] at h; exact h),
      df_none T.d_gone_along T.g_gone_along (fun _ _ _ _ _ _ us hl => match us, hl with | [_, _, _], _ => rfl) (fun vs H Q E ⟨_, _, _, _, _, _, _, _, _, _, _, h, _⟩ => by rw [Hd] at h; exact h)⟩
  | n + 1 => by
    obtain ⟨GL, GA⟩ := ok_isL T n
    have GN := (ok_taken (P := P) (K := K) (base := base) T).mono (show 1 ≤ n + 2 by omega)
    have GK := (ok_knownAs (P := P) (base := base) T).mono (show 1 ≤ n + 2 by omega)
    constructor
    · refine df0 T.d_is_long_here T.g_is_long_here sc_is_long_here (fun _ _ _ _ _ _ us hl => match us, hl with | [_, _, _, _], _ => rfl) (fun vs H Q E h => ?_) (fun cdv A outer s H vs Q E hr h => ?_)
      · obtain ⟨a, kv, v, t, l, ws, k, p, rfl, _⟩ := h
        rfl
      obtain ⟨a, kv, v, t, l, ws, k, p, rfl, ha, hl, hk, hp, h, hld, hkd, hz1, hz2, q⟩ := h
      refine ⟨_, (pss_cons (ps_if (pt_tag (pv 1) mono_var) (pss_one (ps_ret (pe_cmpR (op_eqP hr.u) (pv 2) (pe_glob (v := .ref (He.ga K "THING")) rfl T.i_THING rfl) (nomark _)))) pss_nil) (pss_cons (ps_if (pt_tag (pv 1) mono_var) (pss_one (ps_ret (pe_cmpR (op_eqK hr.u) (cal GA hr pass0 (pa_cons (pv 0) (pa_cons (pv 2) (pa_cons (pv 3) pa_nil)))) (pv 1) (nomark _)))) pss_nil) (pss_cons (ps_if (pt_tag (pv 1) mono_var) (pss_cons (ps_if (PW.pt (pw_or (pt_ntag (pv 2) mono_var) (pw_or1 (pt_not (pt_val (cal GL hr pass0 (pa_cons (pv 0) (pa_cons (pv_at 1 1) (pa_cons (pv_at 2 1) (pa_cons (pv 3) pa_nil)))))))))) (pss_one (ps_never)) pss_nil) (pss_one (ps_ret (cal GL hr pass0 (pa_cons (pv 0) (pa_cons (pv_at 1 2) (pa_cons (pv_at 2 2) (pa_cons (pv 3) pa_nil)))))))) pss_nil) (pss_cons (ps_set (i := 4) sc_is_long_here.nd rfl (.inl rfl) (cal GN hr pass0 (pa_cons (pv 3) pa_nil))) (pss_cons (ps_if (PW.pt (pw_or (pt_ntag (pv 2) mono_var) (pw_or (pt_cmpR op_ne (pv_at 2 1) (pv 4) (nomark _)) (pw_or1 (pt_cmpR (op_neK hr.u) (pv_at 2 2) (pv_at 1 1) (nomark _)))))) (pss_one (ps_never)) pss_nil) (pss_one (ps_ret (cal GL hr pass0 (pa_cons (pe_op op_cat (pv 0) (pe_lst (pa_cons (pe_tup (pa_cons (pv 4) (pa_cons (pv_at 1 1) pa_nil))) pa_nil))) (pa_cons (pv_at 1 2) (pa_cons (pv_at 2 3) (pa_cons (pe_op op_add (pv 3) pe_int) pa_nil)))))))))))), ?_⟩
      cases k with
      | one =>
        rw [Lg] at h
        subst h
        obtain ⟨b, rfl, tb⟩ := hk
        exact ⟨_, rfl, b, _, _, rfl, tb, ifT (by decide +kernel) ⟨_, rfl, .thing, .thing, hp, ⟨_, rfl, T.t_THING H⟩, by decide, q.at rfl⟩⟩
      | mark m =>
        rw [Lg] at h
        have hk0 := hk
        obtain ⟨b, rfl, tb⟩ := hk
        refine ⟨_, rfl, b, _, _, rfl, tb, ifF (by decide +kernel) ⟨_, rfl, b, _, _, rfl, tb, ifT (by decide +kernel) ⟨_, rfl, _, rfl, _, rfl, a, v, t, l, ws, .mark m, p, rfl, ha, hl, hp, h, hld, by omega, by omega, fun u H1 s1 hu => ?_⟩⟩⟩
        exact ⟨_, rfl, _, _, hu, hk0.same s1, by show min 0 0 ≤ 300; decide, q.of s1 (congrArg V.bl (decide_eq_true rfl))⟩
      | both k1 k2 =>
        rw [Lg] at h
        obtain ⟨p1, p2, rfl, h1, h2⟩ := h
        obtain ⟨b, y, z, rfl, tb, hy, hz⟩ := hk
        obtain ⟨c, y', z', rfl, tc, hy', hz'⟩ := hp
        have hkd' : 1 + max k1.depth k2.depth ≤ 100 := hkd
        refine ⟨_, rfl, b, _, _, rfl, tb, ifF (by decide +kernel) ⟨_, rfl, b, _, _, rfl, tb, ifF (by decide +kernel) ⟨_, rfl, b, _, _, rfl, tb, ifT (by decide +kernel) ?_⟩⟩⟩
        refine ⟨_, rfl, c, _, _, rfl, tc, ifF (by decide +kernel) ?_⟩
        refine ⟨_, rfl, _, rfl, b, _, _, rfl, tb, rfl, _, rfl, c, _, _, rfl, tc, rfl, _, rfl, a, y, y', t, l, ws, k1, p1, rfl, ha, hl, hy, hy', h1, hld, by omega, by omega, by omega, fun u H1 s1 e => ?_⟩
        subst e
        refine ⟨_, rfl, ifF rfl ?_⟩
        exact ⟨_, rfl, _, rfl, b, _, _, rfl, s1.tup tb, rfl, _, rfl, c, _, _, rfl, s1.tup tc, rfl, _, rfl, a, z, z', t, l, ws, k2, p2, rfl, s1 _ _ ha, hl.imp fun _ _ h => h.same s1, hz.same s1, hz'.same s1, h2, hld, by omega, by omega, by omega, q.mono s1⟩
      | to k1 k2 =>
        rw [Lg] at h
        obtain ⟨p1, rfl, h1⟩ := h
        obtain ⟨b, y, z, rfl, tb, hy, hz⟩ := hk
        obtain ⟨c, y', z', rfl, tc, hy', hz'⟩ := hp
        have hkd' : 1 + max k1.depth k2.depth ≤ 100 := hkd
        refine ⟨_, rfl, b, _, _, rfl, tb, ifF (by decide +kernel) ⟨_, rfl, b, _, _, rfl, tb, ifF (by decide +kernel) ⟨_, rfl, b, _, _, rfl, tb, ifF (by decide +kernel) ?_⟩⟩⟩
        refine ⟨_, rfl, t, rfl, by omega, ?_⟩
        refine ⟨_, rfl, c, _, _, rfl, tc, ifF (by decide +kernel) ?_⟩
        refine ⟨_, rfl, c, _, _, rfl, tc, rfl, _, rfl, rfl, _, rfl, ifF (by rw [str_eq]; rfl) ?_⟩
        refine ⟨_, rfl, c, _, _, rfl, tc, rfl, _, rfl, b, _, _, rfl, tb, rfl, _, _, hy', hy, by omega, _, rfl, ifF (by rw [decide_eq_true rfl]; rfl) ?_⟩
        refine ⟨_, rfl, _, rfl, _, rfl, b, _, _, rfl, tb, rfl, sz2, fun c1 hc1 => ⟨sz1, fun c2 hc2 => ?_⟩⟩
        have s1 := same_new hc1 (.tup [.str (Nm.x t).str, y])
        have s2 := same_new hc2 (.lst [.ref c1])
        refine ⟨a, c2, _, _, rfl, rfl, s2 _ _ (s1 _ _ ha), upd_same, by show ws.length + 1 ≤ sizeLine; exact small (by omega), fun c3 hc3 => ?_⟩
        have s3 := same_new hc3 (.lst (ws ++ [.ref c1]))
        have s123 := s1.trans (s2.trans s3)
        refine ⟨_, rfl, b, _, _, rfl, s123.tup tb, rfl, _, rfl, c, _, _, rfl, s123.tup tc, rfl, _, rfl, _, _, rfl, rfl, ?_⟩
        refine ⟨c3, z, z', t + 1, l ++ [(.x t, k1)], ws ++ [.ref c1], k2, p1, rfl, upd_same, (hl.imp fun _ _ h => h.same s123).snoc ⟨c1, y, rfl, (s2.trans s3).tup (.of upd_same), hy.same s123⟩, hz.same s123, hz'.same s123, h1, fun q hq => ?_, by omega, by rw [List.length_append]; show ws.length + 1 + n ≤ _; omega, by omega, q.mono s123⟩
        rcases List.mem_append.mp hq with hq | hq
        · exact hld q hq
        · simp at hq; subst hq; show k1.depth ≤ 100; omega
    · refine df0 T.d_gone_along T.g_gone_along sc_gone_along (fun _ _ _ _ _ _ us hl => match us, hl with | [_, _, _], _ => rfl) (fun vs H Q E h => ?_) (fun cdv A outer s H vs Q E hr h => ?_)
      · obtain ⟨a, v, t, l, ws, k, p, rfl, _⟩ := h
        rfl
      obtain ⟨a, v, t, l, ws, k, p, rfl, ha, hl, hp, h, hld, hz1, hz2, q⟩ := h
      refine ⟨_, (pss_cons (ps_if (pt_tag (pv 1) mono_var) (pss_one (ps_ret (cal GK hr pass0 (pa_cons (pv 0) (pa_cons (pv_at 1 1) pa_nil))))) pss_nil) (pss_cons (ps_if (pt_nin3 (pv 1) mono_var) (pss_one (ps_never)) pss_nil) (pss_cons (ps_set (i := 3) sc_gone_along.nd rfl (.inl rfl) (cal GA hr pass0 (pa_cons (pv 0) (pa_cons (pv_at 1 1) (pa_cons (pv 2) pa_nil))))) (pss_cons (ps_if (pt_cmp (pc_isN (pv 3))) (pss_one (ps_never)) pss_nil) (pss_cons (ps_if (pt_tag (pv 1) mono_var) (pss_cons (ps_if (PW.pt (pw_and (pt_tag (pv 3) mono_var) (pw_and1 (pt_val (cal GL hr pass0 (pa_cons (pv 0) (pa_cons (pv_at 3 1) (pa_cons (pv_at 1 2) (pa_cons (pv 2) pa_nil))))))))) (pss_one (ps_ret (pv_at 3 2))) pss_nil) (pss_one (ps_never))) pss_nil) (pss_cons (ps_if (pt_ntag (pv 3) mono_var) (pss_one (ps_never)) pss_nil) (pss_one (ps_ret (pe_ix ix_tup (pv 3) (pe_op op_add pe_int (pe_callTy call_int1 rfl T.n_int (by decide +kernel) (pa_cons (pe_tag (pv 1) mono_var) pa_nil))) (fun _ _ => rfl)))))))))), ?_⟩
      cases p with
      | name x =>
        rw [Hd] at h
        obtain ⟨b, rfl, tb⟩ := hp
        exact ⟨_, rfl, b, _, _, rfl, tb, ifT (by decide +kernel) ⟨_, rfl, _, rfl, b, _, _, rfl, tb, rfl, a, x, l, ws, k, rfl, ha, hl, h, fun u hu => q.at hu⟩⟩
      | take _ _ _ => rw [Hd] at h; exact h.elim; all_goals (intros; rename_i z; cases z)
      | pair _ _ => rw [Hd] at h; exact h.elim; all_goals (intros; rename_i z; cases z)
      | thing => rw [Hd] at h; exact h.elim; all_goals (intros; rename_i z; cases z)
      | give p1 p2 =>
        rw [Hd] at h
        obtain ⟨k1, h1, h2⟩ := h
        have hd1 : 1 + max k1.depth k.depth ≤ 100 := Hd.depth hld h1
        obtain ⟨b, y, z, rfl, tb, hy, hz⟩ := hp
        refine ⟨_, rfl, b, _, _, rfl, tb, ifF (by decide +kernel) ⟨_, rfl, b, _, _, rfl, tb, fun H1 s1 => ifF (by decide +kernel) ?_⟩⟩
        refine ⟨_, rfl, _, rfl, b, _, _, rfl, s1.tup tb, rfl, _, rfl, a, y, t, l, ws, .to k1 k, p1, rfl, s1 _ _ ha, hl.imp fun _ _ h => h.same s1, hy.same s1, h1, hld, by omega, by omega, fun u H2 s2 hu => ?_⟩
        have s12 := s1.trans s2
        obtain ⟨f, f1, f2, rfl, tf, hf1, hf2⟩ := hu
        refine ⟨_, rfl, _, rfl, ifF rfl ⟨_, rfl, b, _, _, rfl, s12.tup tb, ifT (by decide +kernel) ?_⟩⟩
        refine ⟨_, rfl, f, _, _, rfl, tf, ifT (by decide +kernel) ?_⟩
        refine ⟨_, rfl, _, rfl, f, _, _, rfl, tf, rfl, _, rfl, b, _, _, rfl, s12.tup tb, rfl, _, rfl, a, f1, z, t, l, ws, k1, p2, rfl, s12 _ _ ha, hl.imp fun _ _ h => h.same s12, hf1, hz.same s12, h2, hld, by omega, by omega, by omega, fun u3 H3 s3 e => ?_⟩
        subst e
        exact ⟨_, rfl, ifT rfl ⟨_, rfl, f, _, _, rfl, s3.tup tf, rfl, q.of (s12.trans s3) (hf2.same s3)⟩⟩
      | first p1 =>
        rw [Hd] at h
        obtain ⟨k2, h1⟩ := h
        obtain ⟨b, y, rfl, tb, hy⟩ := hp
        refine ⟨_, rfl, b, _, _, rfl, tb, ifF (by decide +kernel) ⟨_, rfl, b, _, _, rfl, tb, fun H1 s1 => ifF (by decide +kernel) ?_⟩⟩
        refine ⟨_, rfl, _, rfl, b, _, _, rfl, s1.tup tb, rfl, _, rfl, a, y, t, l, ws, .both k k2, p1, rfl, s1 _ _ ha, hl.imp fun _ _ h => h.same s1, hy.same s1, h1, hld, by omega, by omega, fun u H2 s2 hu => ?_⟩
        have s12 := s1.trans s2
        obtain ⟨f, f1, f2, rfl, tf, hf1, hf2⟩ := hu
        refine ⟨_, rfl, _, rfl, ifF rfl ⟨_, rfl, b, _, _, rfl, s12.tup tb, ifF (by decide +kernel) ⟨_, rfl, f, _, _, rfl, tf, ifF (by decide +kernel) ?_⟩⟩⟩
        refine ⟨_, rfl, _, rfl, b, _, _, rfl, s12.tup tb, .inr ⟨_, rfl, _, _, rfl, rfl, f, _, _, _, rfl, rfl, tf, ?_, q.of s12 hf1⟩⟩
        rw [show decide (Str.ofString "first" = Str.ofString "second") = false by decide +kernel]
        exact atI_nat (j := 1) rfl
      | second p1 =>
        rw [Hd] at h
        obtain ⟨k2, h1⟩ := h
        obtain ⟨b, y, rfl, tb, hy⟩ := hp
        refine ⟨_, rfl, b, _, _, rfl, tb, ifF (by decide +kernel) ⟨_, rfl, b, _, _, rfl, tb, fun H1 s1 => ifF (by decide +kernel) ?_⟩⟩
        refine ⟨_, rfl, _, rfl, b, _, _, rfl, s1.tup tb, rfl, _, rfl, a, y, t, l, ws, .both k2 k, p1, rfl, s1 _ _ ha, hl.imp fun _ _ h => h.same s1, hy.same s1, h1, hld, by omega, by omega, fun u H2 s2 hu => ?_⟩
        have s12 := s1.trans s2
        obtain ⟨f, f1, f2, rfl, tf, hf1, hf2⟩ := hu
        refine ⟨_, rfl, _, rfl, ifF rfl ⟨_, rfl, b, _, _, rfl, s12.tup tb, ifF (by decide +kernel) ⟨_, rfl, f, _, _, rfl, tf, ifF (by decide +kernel) ?_⟩⟩⟩
        refine ⟨_, rfl, _, rfl, b, _, _, rfl, s12.tup tb, .inr ⟨_, rfl, _, _, rfl, rfl, f, _, _, _, rfl, rfl, tf, ?_, q.of s12 hf2⟩⟩
        rw [show decide (Str.ofString "second" = Str.ofString "second") = true by decide +kernel]
        exact atI_nat (j := 2) rfl
def spIsLong (K : PySem.W.Frag) : Sp := fun vs H Q _ => ∃ (a : Addr) (kv v : V) (l : Ctx) (ws : List V) (k : Kd) (p : Pg), vs = [.ref a, kv, v] ∧ H a = some (.lst ws) ∧ All2 (NmAt K H) l ws ∧ KdAt K H k kv ∧ PgAt K H p v ∧ Lg 250 l 0 k p ∧
  (∀ q ∈ l, q.2.depth ≤ 100) ∧ k.depth ≤ 100 ∧ ws.length ≤ 100 ∧ Ret H Q fun _ u => u = .bl true
theorem ok_isLong (T : Tx w K mg) : Df P w K mg base CX0 253 "is_long" ["row", "kind", "program"] [] (spIsLong K) := by
  have G := (ok_isL (P := P) (base := base) T 250).1
  refine df0 T.d_is_long T.g_is_long sc_is_long (fun _ _ _ _ _ _ us hl => match us, hl with | [_, _, _], _ => rfl) (fun vs H Q E h => ?_) (fun cdv A outer s H vs Q E hr h => ?_)
  · obtain ⟨a, kv, v, l, ws, k, p, rfl, _⟩ := h
    rfl
  obtain ⟨a, kv, v, l, ws, k, p, rfl, ha, hl, hk, hp, h, hld, hkd, hz, q⟩ := h
  refine ⟨_, (pss_one (ps_ret (cal G hr pass0 (pa_cons (pe_callTy call_list_of rfl T.n_list (by decide +kernel) (pa_cons (pv 0) pa_nil)) (pa_cons (pv 1) (pa_cons (pv 2) (pa_cons pe_int pa_nil))))))), ?_⟩
  refine ⟨_, rfl, a, ws, rfl, .inl (.of ha), fun c hc => ⟨_, rfl, _, rfl, ?_⟩⟩
  have s1 := same_new hc (.lst ws)
  exact ⟨c, kv, v, 0, l, ws, k, p, rfl, upd_same, hl.imp fun _ _ h => h.same s1, hk.same s1, hp.same s1, h, hld, hkd, by omega, by omega, q.mono s1⟩
end
end KF

set_option Elab.async false
set_option linter.all false
set_option maxRecDepth 100000
set_option maxHeartbeats 4000000
namespace KF
open PySem PySem.Spec L2 TL
/-- a statement, and what holds behind it -/
def tCut (R : L2.St → Hp → Prop) (t1 t2 : L2.TS) : L2.TS := fun D σ H => (∀ N : L2.St → Hp → Prop, (∀ σ' H', R σ' H' → N σ' H') → t1 { D with nx := N } σ H) ∧ ∀ σ' H', R σ' H' → t2 D σ' H'
theorem pss_cut {X : Cx} {st : Stmt} {rest : List Stmt} {t1 t2 : L2.TS} (R : L2.St → Hp → Prop) (h1 : PS X st t1) (h2 : PSs X rest t2) : PSs X (st :: rest) (tCut R t1 t2) :=
  ⟨fun pins s σ H D I q => (pss_cons h1 h2).run pins s σ H D I (q.1 _ q.2)⟩
/-! ### what the longer form is -/
def half1 : Pg → Pg
  | .pair p _ => p
  | p => .first p
def half2 : Pg → Pg
  | .pair _ q => q
  | p => .second p
def bname (l : Ctx) : Pg → Nm
  | .take x _ _ => x
  | _ => .e l.length
def bbody (l : Ctx) : Pg → Pg
  | .take _ _ q => q
  | p => .give p (.name (.e l.length))
mutual
def Md : Nat → Ctx → Kd → Pg → Pg → Prop
  | 0, _, _, _, _ => False
  | _ + 1, _, .one, _, r => r = .thing
  | n + 1, l, .mark b, p, r => Al n l p r (.mark b)
  | n + 1, l, .both a b, p, r => ∃ r1 r2, r = .pair r1 r2 ∧ Md n l a (half1 p) r1 ∧ Md n l b (half2 p) r2
  | n + 1, l, .to a b, p, r => ∃ r1, r = .take (bname l p) a r1 ∧ Md n (l ++ [(bname l p, a)]) b (bbody l p) r1
def Al : Nat → Ctx → Pg → Pg → Kd → Prop
  | 0, _, _, _, _ => False
  | _ + 1, l, .name x, r, k => r = .name x ∧ knownAs l x = some k
  | n + 1, l, .give p q, r, k => ∃ a r1 r2, r = .give r1 r2 ∧ Al n l p r1 (.to a k) ∧ Md n l a q r2
  | n + 1, l, .first p, r, k => ∃ b r1, r = .first r1 ∧ Al n l p r1 (.both k b)
  | n + 1, l, .second p, r, k => ∃ b r1, r = .second r1 ∧ Al n l p r1 (.both b k)
  | _ + 1, _, _, _, _ => False
end
theorem md_more : ∀ n, (∀ l k p r, Md n l k p r → Md (n + 1) l k p r) ∧ (∀ l p r k, Al n l p r k → Al (n + 1) l p r k)
  | 0 => ⟨fun _ _ _ _ h => by rw [Md] at h; exact h.elim, fun _ _ _ _ h => by rw [Al] at h; exact h.elim⟩
  | n + 1 => by
    obtain ⟨M, A⟩ := md_more n
    constructor
    · intro l k p r h
      cases k with
      | one => rw [Md] at h ⊢; exact h
      | mark b => rw [Md] at h ⊢; exact A _ _ _ _ h
      | both a b => rw [Md] at h ⊢; obtain ⟨r1, r2, e, h1, h2⟩ := h; exact ⟨r1, r2, e, M _ _ _ _ h1, M _ _ _ _ h2⟩
      | to a b => rw [Md] at h ⊢; obtain ⟨r1, e, h1⟩ := h; exact ⟨r1, e, M _ _ _ _ h1⟩
    · intro l p r k h
      cases p with
      | name x => rw [Al] at h ⊢; exact h
      | give p q => rw [Al] at h ⊢; obtain ⟨a, r1, r2, e, h1, h2⟩ := h; exact ⟨a, r1, r2, e, A _ _ _ _ h1, M _ _ _ _ h2⟩
      | first p => rw [Al] at h ⊢; obtain ⟨b, r1, e, h1⟩ := h; exact ⟨b, r1, e, A _ _ _ _ h1⟩
      | second p => rw [Al] at h ⊢; obtain ⟨b, r1, e, h1⟩ := h; exact ⟨b, r1, e, A _ _ _ _ h1⟩
      | take _ _ _ => rw [Al] at h; exact h.elim; all_goals (intros; rename_i z; cases z)
      | pair _ _ => rw [Al] at h; exact h.elim; all_goals (intros; rename_i z; cases z)
      | thing => rw [Al] at h; exact h.elim; all_goals (intros; rename_i z; cases z)
theorem Md.up {n m : Nat} {l : Ctx} {k : Kd} {p r : Pg} (h : Md n l k p r) (e : n ≤ m) : Md m l k p r := by
  induction m with
  | zero => cases Nat.le_zero.mp e; exact h
  | succ m ih =>
    by_cases z : n = m + 1
    · subst z; exact h
    · exact (md_more m).1 _ _ _ _ (ih (by omega))
theorem Al.up {n m : Nat} {l : Ctx} {k : Kd} {p r : Pg} (h : Al n l p r k) (e : n ≤ m) : Al m l p r k := by
  induction m with
  | zero => cases Nat.le_zero.mp e; exact h
  | succ m ih =>
    by_cases z : n = m + 1
    · subst z; exact h
    · exact (md_more m).2 _ _ _ _ (ih (by omega))
/-! ### names -/
/-- the names that are written in a program and are not bound there by that writing -/
def Occ (x : Nm) : Pg → Prop
  | .name y => y = x
  | .take _ _ p => Occ x p
  | .give p q => Occ x p ∨ Occ x q
  | .pair p q => Occ x p ∨ Occ x q
  | .first p => Occ x p
  | .second p => Occ x p
  | .thing => False
theorem knownAs_snoc (l : Ctx) (x y : Nm) (k : Kd) : knownAs (l ++ [(y, k)]) x = if y = x then some k else knownAs l x := by
  unfold knownAs
  rw [List.reverse_append]
  show Option.map _ (List.find? _ ((y, k) :: l.reverse)) = _
  rw [List.find?_cons]
  by_cases e : y = x
  · rw [decide_eq_true e, if_pos e]; rfl
  · rw [decide_eq_false e, if_neg e]
theorem kindIn_agree : ∀ {p : Pg} {l l' : Ctx}, (∀ x, Occ x p → knownAs l x = knownAs l' x) → kindIn l p = kindIn l' p
  | .name x, l, l', h => h x rfl
  | .thing, _, _, _ => rfl
  | .take x k p, l, l', h => by
    have e : kindIn (l ++ [(x, k)]) p = kindIn (l' ++ [(x, k)]) p := kindIn_agree fun y hy => by
      rw [knownAs_snoc, knownAs_snoc, h y hy]
    rw [kindIn, kindIn, e]
  | .give p q, l, l', h => by rw [kindIn, kindIn, kindIn_agree (p := p) fun x hx => h x (.inl hx), kindIn_agree (p := q) fun x hx => h x (.inr hx)]
  | .pair p q, l, l', h => by rw [kindIn, kindIn, kindIn_agree (p := p) fun x hx => h x (.inl hx), kindIn_agree (p := q) fun x hx => h x (.inr hx)]
  | .first p, l, l', h => by rw [kindIn, kindIn, kindIn_agree (p := p) fun x hx => h x hx]
  | .second p, l, l', h => by rw [kindIn, kindIn, kindIn_agree (p := p) fun x hx => h x hx]
/-! ### kinds, taken apart and put together -/
theorem kin_take {l : Ctx} {x : Nm} {k c : Kd} {p : Pg} : kindIn l (.take x k p) = some c ↔ ∃ a, c = .to k a ∧ kindIn (l ++ [(x, k)]) p = some a := by
  rw [kindIn]
  cases kindIn (l ++ [(x, k)]) p with
  | none => exact ⟨fun h => (by cases h), fun ⟨_, _, h⟩ => (by cases h)⟩
  | some a =>
    constructor
    · exact fun h => ⟨a, (Option.some.inj h).symm, rfl⟩
    · rintro ⟨b, e, h⟩
      cases h
      rw [e]
      rfl
theorem kin_give {l : Ctx} {d : Kd} {p q : Pg} : kindIn l (.give p q) = some d ↔ ∃ c, kindIn l p = some (.to c d) ∧ kindIn l q = some c := by
  rw [kindIn]
  constructor
  · intro h
    split at h
    · rename_i c d' b e1 e2
      by_cases z : c = b
      · rw [if_pos z] at h
        cases h
        exact ⟨c, e1, by rw [e2, z]⟩
      · rw [if_neg z] at h; cases h
    · cases h
  · rintro ⟨c, e1, e2⟩
    rw [e1, e2]
    exact if_pos rfl
theorem kin_pair {l : Ctx} {d : Kd} {p q : Pg} : kindIn l (.pair p q) = some d ↔ ∃ a b, d = .both a b ∧ kindIn l p = some a ∧ kindIn l q = some b := by
  rw [kindIn]
  constructor
  · intro h
    split at h
    · rename_i a b e1 e2
      cases h
      exact ⟨a, b, rfl, e1, e2⟩
    · cases h
  · rintro ⟨a, b, rfl, e1, e2⟩
    rw [e1, e2]
theorem kin_first {l : Ctx} {d : Kd} {p : Pg} : kindIn l (.first p) = some d ↔ ∃ b, kindIn l p = some (.both d b) := by
  rw [kindIn]
  constructor
  · intro h
    split at h
    · rename_i a b e1
      cases h
      exact ⟨b, e1⟩
    · cases h
  · rintro ⟨b, e1⟩
    rw [e1]
theorem kin_second {l : Ctx} {d : Kd} {p : Pg} : kindIn l (.second p) = some d ↔ ∃ b, kindIn l p = some (.both b d) := by
  rw [kindIn]
  constructor
  · intro h
    split at h
    · rename_i a b e1
      cases h
      exact ⟨a, e1⟩
    · cases h
  · rintro ⟨b, e1⟩
    rw [e1]
theorem kin_name {l : Ctx} {d : Kd} {x : Nm} : kindIn l (.name x) = some d ↔ knownAs l x = some d := Iff.rfl
theorem kin_thing {l : Ctx} {d : Kd} : kindIn l .thing = some d ↔ d = .one := ⟨fun h => (Option.some.inj h).symm, fun h => by rw [h]; rfl⟩
/-- names e j of a program have j < n -/
def ELow (n : Nat) : Pg → Prop
  | .name (.e j) => j < n
  | .name _ => True
  | .take (.e j) _ p => j < n ∧ ELow n p
  | .take _ _ p => ELow n p
  | .give p q => ELow n p ∧ ELow n q
  | .pair p q => ELow n p ∧ ELow n q
  | .first p => ELow n p
  | .second p => ELow n p
  | .thing => True
theorem ELow.take {n : Nat} {x : Nm} {k : Kd} {p : Pg} (h : ELow n (.take x k p)) : ELow n p := by
  cases x <;> first | exact h | exact h.2
theorem ELow.mono {n m : Nat} (e : n ≤ m) : ∀ {p : Pg}, ELow n p → ELow m p
  | .name x, h => by cases x <;> first | trivial | exact Nat.lt_of_lt_of_le h e
  | .take x k p, h => by
    have h' := ELow.mono e (p := p) h.take
    cases x <;> first | exact h' | exact ⟨Nat.lt_of_lt_of_le h.1 e, h'⟩
  | .give p q, h => ⟨ELow.mono e h.1, ELow.mono e h.2⟩
  | .pair p q, h => ⟨ELow.mono e h.1, ELow.mono e h.2⟩
  | .first p, h => ELow.mono (p := p) e h
  | .second p, h => ELow.mono (p := p) e h
  | .thing, _ => trivial
theorem ELow.not {n : Nat} : ∀ {p : Pg}, ELow n p → ¬ Occ (.e n) p
  | .name x, h, o => by
    obtain rfl : x = .e n := o
    exact Nat.lt_irrefl _ h
  | .take x k p, h, o => ELow.not (p := p) h.take o
  | .give p q, h, o => o.elim (ELow.not h.1) (ELow.not h.2)
  | .pair p q, h, o => o.elim (ELow.not h.1) (ELow.not h.2)
  | .first p, h, o => ELow.not (p := p) h o
  | .second p, h, o => ELow.not (p := p) h o
  | .thing, _, o => o
/-- a part that begins with a name -/
def isNeu : Pg → Bool
  | .name _ => true
  | .give _ _ => true
  | .first _ => true
  | .second _ => true
  | _ => false
theorem stepPl_give {p q : Pg} (h : stepPl (.give p q) = []) : isTake p = false ∧ stepPl p = [] ∧ stepPl q = [] := by
  rw [stepPl] at h
  obtain ⟨h1, h2⟩ := List.append_eq_nil_iff.mp h
  obtain ⟨h3, h4⟩ := List.append_eq_nil_iff.mp h2
  refine ⟨?_, List.map_eq_nil_iff.mp h3, List.map_eq_nil_iff.mp h4⟩
  cases c : isTake p with
  | false => rfl
  | true => rw [c] at h1; cases h1
theorem stepPl_first {p : Pg} (h : stepPl (.first p) = []) : isPair p = false ∧ stepPl p = [] := by
  rw [stepPl] at h
  obtain ⟨h1, h2⟩ := List.append_eq_nil_iff.mp h
  refine ⟨?_, List.map_eq_nil_iff.mp h2⟩
  cases c : isPair p with
  | false => rfl
  | true => rw [c] at h1; cases h1
theorem stepPl_second {p : Pg} (h : stepPl (.second p) = []) : isPair p = false ∧ stepPl p = [] := by
  rw [stepPl] at h
  obtain ⟨h1, h2⟩ := List.append_eq_nil_iff.mp h
  refine ⟨?_, List.map_eq_nil_iff.mp h2⟩
  cases c : isPair p with
  | false => rfl
  | true => rw [c] at h1; cases h1
theorem stepPl_pair {p q : Pg} (h : stepPl (.pair p q) = []) : stepPl p = [] ∧ stepPl q = [] := by
  rw [stepPl] at h
  obtain ⟨h3, h4⟩ := List.append_eq_nil_iff.mp h
  exact ⟨List.map_eq_nil_iff.mp h3, List.map_eq_nil_iff.mp h4⟩
theorem stepPl_take {x : Nm} {k : Kd} {p : Pg} (h : stepPl (.take x k p) = []) : stepPl p = [] := by
  rw [stepPl] at h
  exact List.map_eq_nil_iff.mp h
/-- what made needs of a program: its kind, no step left, its new names told by the length of what is known -/
structure Plain (l : Ctx) (p : Pg) (k : Kd) : Prop where
  kd : kindIn l p = some k
  no : stepPl p = []
  el : ELow l.length p
theorem Plain.halves {l : Ctx} {p : Pg} {a b : Kd} (h : Plain l p (.both a b)) : Plain l (half1 p) a ∧ Plain l (half2 p) b := by
  obtain ⟨h1, h2, h3⟩ := h
  by_cases c : isPair p = true
  · match p, c with
    | .pair p q, _ =>
      obtain ⟨a', b', e, e1, e2⟩ := kin_pair.mp h1
      cases e
      have := stepPl_pair h2
      exact ⟨⟨e1, this.1, h3.1⟩, ⟨e2, this.2, h3.2⟩⟩
  · have e1 : half1 p = .first p := by cases p <;> first | rfl | exact absurd rfl c
    have e2 : half2 p = .second p := by cases p <;> first | rfl | exact absurd rfl c
    rw [e1, e2]
    exact ⟨⟨kin_first.mpr ⟨b, h1⟩, by rw [stepPl, if_neg c, h2]; rfl, h3⟩, ⟨kin_second.mpr ⟨a, h1⟩, by rw [stepPl, if_neg c, h2]; rfl, h3⟩⟩
theorem Plain.body {l : Ctx} {p : Pg} {a b : Kd} (h : Plain l p (.to a b)) : Plain (l ++ [(bname l p, a)]) (bbody l p) b := by
  obtain ⟨h1, h2, h3⟩ := h
  by_cases c : isTake p = true
  · match p, c with
    | .take x k p, _ =>
      obtain ⟨a', e, e1⟩ := kin_take.mp h1
      cases e
      exact ⟨e1, stepPl_take h2, h3.take.mono (by rw [List.length_append]; omega)⟩
  · have e1 : bname l p = .e l.length := by cases p <;> first | rfl | exact absurd rfl c
    have e2 : bbody l p = .give p (.name (.e l.length)) := by cases p <;> first | rfl | exact absurd rfl c
    rw [e1, e2]
    refine ⟨kin_give.mpr ⟨a, ?_, ?_⟩, by rw [stepPl, if_neg c, h2]; rfl, ⟨h3.mono (by rw [List.length_append]; omega), ?_⟩⟩
    · rw [← h1]
      refine kindIn_agree fun x hx => ?_
      rw [knownAs_snoc, if_neg]
      rintro rfl
      exact h3.not hx
    · show knownAs _ _ = _
      rw [knownAs_snoc, if_pos rfl]
    · show l.length < (l ++ [_]).length
      rw [List.length_append, List.length_singleton]; omega
theorem Plain.neu {l : Ctx} {p : Pg} {m : Bool} (h : Plain l p (.mark m)) : isNeu p = true := by
  obtain ⟨h1, h2, h3⟩ := h
  cases p with
  | take x k p => obtain ⟨_, e, _⟩ := kin_take.mp h1; cases e
  | pair p q => obtain ⟨_, _, e, _⟩ := kin_pair.mp h1; cases e
  | thing => have := kin_thing.mp h1; cases this
  | _ => rfl
theorem Plain.give {l : Ctx} {p q : Pg} {k : Kd} (h : Plain l (.give p q) k) : ∃ a, Plain l p (.to a k) ∧ isNeu p = true ∧ Plain l q a := by
  obtain ⟨h1, h2, h3⟩ := h
  obtain ⟨a, e1, e2⟩ := kin_give.mp h1
  obtain ⟨f1, f2, f3⟩ := stepPl_give h2
  refine ⟨a, ⟨e1, f2, h3.1⟩, ?_, ⟨e2, f3, h3.2⟩⟩
  cases p with
  | take x k p => cases f1
  | pair p q => obtain ⟨_, _, e, _⟩ := kin_pair.mp e1; cases e
  | thing => have := kin_thing.mp e1; cases this
  | _ => rfl
theorem Plain.first {l : Ctx} {p : Pg} {k : Kd} (h : Plain l (.first p) k) : ∃ b, Plain l p (.both k b) ∧ isNeu p = true := by
  obtain ⟨h1, h2, h3⟩ := h
  obtain ⟨a, e1⟩ := kin_first.mp h1
  obtain ⟨f1, f2⟩ := stepPl_first h2
  refine ⟨a, ⟨e1, f2, h3⟩, ?_⟩
  cases p with
  | pair p q => cases f1
  | take x k p => obtain ⟨_, e, _⟩ := kin_take.mp e1; cases e
  | thing => have := kin_thing.mp e1; cases this
  | _ => rfl
theorem Plain.second {l : Ctx} {p : Pg} {k : Kd} (h : Plain l (.second p) k) : ∃ b, Plain l p (.both b k) ∧ isNeu p = true := by
  obtain ⟨h1, h2, h3⟩ := h
  obtain ⟨a, e1⟩ := kin_second.mp h1
  obtain ⟨f1, f2⟩ := stepPl_second h2
  refine ⟨a, ⟨e1, f2, h3⟩, ?_⟩
  cases p with
  | pair p q => cases f1
  | take x k p => obtain ⟨_, e, _⟩ := kin_take.mp e1; cases e
  | thing => have := kin_thing.mp e1; cases this
  | _ => rfl
theorem half1_deep (p : Pg) : (half1 p).deep ≤ p.deep + 1 := by
  cases p <;> simp [half1, Pg.deep] <;> omega
theorem half2_deep (p : Pg) : (half2 p).deep ≤ p.deep + 1 := by
  cases p <;> simp [half2, Pg.deep] <;> omega
theorem bbody_deep (l : Ctx) (p : Pg) : (bbody l p).deep ≤ p.deep + 1 := by
  cases p <;> simp [bbody, Pg.deep] <;> omega
end KF

set_option Elab.async false
set_option linter.all false
set_option maxRecDepth 100000
set_option maxHeartbeats 4000000
namespace KF
open PySem PySem.Spec L2 TL
/-- the Longer at s has z left -/
def LoAt (K : PySem.W.Frag) (H : Hp) (s : Addr) (z : Int) : Prop := ∃ dx, H s = some (.ins (He.ga K "Longer") dx [("left", .int z)])
theorem LoAt.same {K : PySem.W.Frag} {H H' : Hp} {s : Addr} {z : Int} (h : Same H H') : LoAt K H s z → LoAt K H' s z := fun ⟨dx, q⟩ => ⟨dx, h _ _ q⟩
theorem LoAt.ts {K : PySem.W.Frag} {H H' : Hp} {s : Addr} {z : Int} (h : LoAt K H s z) (b : But s H H') : TS K H H' := by
  obtain ⟨dx, q⟩ := h
  exact But.ts b q rfl
theorem LoAt.ne {K : PySem.W.Frag} {H : Hp} {s a : Addr} {z : Int} {ws : List V} (h : LoAt K H s z) (ha : H a = some (.lst ws)) : a ≠ s := by
  rintro rfl
  obtain ⟨dx, q⟩ := h
  rw [ha] at q
  cases q
theorem pss_nev {X : Cx} {l : List Stmt} : PSs X l tNever := ⟨fun _ _ _ _ _ _ h => h.elim⟩
theorem lk_ne {f g : Str} {v : V} (h : (g == f) = false) : ([(f, v)] : List (Str × V)).lookup g = none := by simp [List.lookup, h]
section
variable {P : Program} {w : World} {K : PySem.W.Frag} {mg : Str → Option Value} {base : Heap}
def spSpend (K : PySem.W.Frag) : Sp := fun vs H Q E => ∃ (s : Addr) (z : Int) (n : Nat), vs = [.ref s, .int n] ∧ LoAt K H s z ∧ (∀ H', But s H H' → E (tooLong K) none H') ∧ ∀ H' z', But s H H' → LoAt K H' s z' → n ≤ 100 → Q .non H'
theorem ok_spend (T : Tx w K mg) : Dm P w K mg base (L2.CX P w) 1 "Longer" "spend" ["self", "nest"] (spSpend K) := by
  obtain ⟨x1, x2, x3, x4⟩ := T.x_TooLong
  obtain ⟨t1, g1⟩ := T.i_MOST_DEEP_longs
  refine dmX T.d_Longer_spend T.cl_Longer T.m_Longer_spend sc_Longer_spend (fun _ _ _ _ _ _ us hl => match us, hl with | [_, _], _ => rfl) (fun vs H Q E h => ?_) (fun cdv A outer sh H vs Q E hr h => ?_)
  · obtain ⟨s, z, n, rfl, _⟩ := h
    rfl
  obtain ⟨s, z, n, rfl, ⟨dx, hs⟩, hE, q⟩ := h
  refine ⟨_, (pss_cons (ps_fld (pv 0) (pe_op op_sub (pe_fld (pv 0) rfl) pe_int) rfl) (pss_one (ps_if (PW.pt (pw_or (pt_cmpR op_lt (pe_fld (pv 0) rfl) pe_int (nomark _)) (pw_or1 (pt_cmpR op_gt (pv 1) (pe_glob (v := .int 100) rfl g1 ⟨_, rfl⟩) (nomark _)))))
      (pss_one (ps_raise rfl (takes_of rfl rfl rfl rfl) (pmk_own PySem.F.excBase_ValueError x1 T.c_TooLong x2 (raises_own x3 x4) (by exact rfl)))) pss_nil))), ?_⟩
  have lk : ∀ v : V, ([(("left" : Str), v)] : List (Str × V)).lookup ("left" : Str) = some v := fun v => by simp [List.lookup]
  refine ⟨_, rfl, s, _, dx, _, _, rfl, hs, T.cl_Longer, T.a_Longer_left, lk _, _, _, rfl, rfl, _, rfl, s, _, dx, _, rfl, hs, T.cl_Longer, T.a_Longer_left, (by show 1 < 1000; decide), ?_⟩
  have hb := But.upd s H (.ins (He.ga K "Longer") dx (putF "left" (.int (z - 1)) [("left", .int z)]))
  have ep : putF "left" (.int (z - 1)) ([(("left" : Str), V.int z)] : List (Str × V)) = [(("left" : Str), V.int (z - 1))] := by
    show (if ("left" : Str) = "left" then _ else _) = _
    rw [if_pos rfl]
  rw [ep] at hb ⊢
  refine ⟨_, rfl, s, _, dx, _, _, rfl, upd_same, T.cl_Longer, T.a_Longer_left, lk _, _, _, rfl, rfl, _, rfl, ?_⟩
  refine if2 (fun _ => ifT rfl (hE _ hb)) fun _ => ?_
  refine ⟨_, rfl, _, _, rfl, rfl, _, rfl, ?_⟩
  refine if2 (fun _ => hE _ hb) fun hn => ?_
  exact q _ _ hb ⟨dx, upd_same⟩ (by have := of_decide_eq_false hn; omega)
def spMade (K : PySem.W.Frag) (n : Nat) : Sp := fun vs H Q E => ∃ (s a : Addr) (kv v : V) (e : Nat) (z : Int) (l : Ctx) (ws : List V) (k : Kd) (p : Pg), vs = [.ref s, .ref a, kv, v, .int e] ∧ LoAt K H s z ∧ H a = some (.lst ws) ∧ All2 (NmAt K H) l ws ∧ KdAt K H k kv ∧ PgAt K H p v ∧ Plain l p k ∧
  p.deep + 204 ≤ n + 2 * e ∧ ws.length + n ≤ 10000 ∧ (∀ H', But s H H' → E (tooLong K) none H') ∧ ∀ H' z' m r u, But s H H' → LoAt K H' s z' → PgAt K H' r u → Md m l k p r → r.deep ≤ n → Q u H'
def spAlong (K : PySem.W.Frag) (n : Nat) : Sp := fun vs H Q E => ∃ (s a : Addr) (v : V) (e : Nat) (z : Int) (l : Ctx) (ws : List V) (k : Kd) (p : Pg), vs = [.ref s, .ref a, v, .int e] ∧ LoAt K H s z ∧ H a = some (.lst ws) ∧ All2 (NmAt K H) l ws ∧ PgAt K H p v ∧ Plain l p k ∧ isNeu p = true ∧
  p.deep + 203 ≤ n + 2 * e ∧ e ≤ 100 ∧ ws.length + n ≤ 10000 ∧ (∀ H', But s H H' → E (tooLong K) none H') ∧ ∀ H' z' m r u b kv, But s H H' → LoAt K H' s z' → SqT K H' b [u, kv] → PgAt K H' r u → KdAt K H' k kv → Al m l p r k → r.deep ≤ n → Q (.ref b) H'
theorem numS_str {n : Nat} (h : n ≤ 100000) : (Str.ofString "e").length + (Str.ofString (toString ((n : Nat) : Int))).length ≤ sizeLine := by
  have := xstr_small h
  rwa [show (Str.ofString "e").length = (Str.ofString "x").length by decide +kernel]
theorem ok_made (T : Tx w K mg) : ∀ n, Dm P w K mg base (L2.CX P w) (n + 2) "Longer" "made" ["self", "known", "kind", "program", "nest"] (spMade K n) ∧ Dm P w K mg base (L2.CX P w) (n + 2) "Longer" "along" ["self", "known", "program", "nest"] (spAlong K n)
  | 0 => ⟨by
      have GS := (ok_spend (P := P) (base := base) T)
      refine dmX T.d_Longer_made T.cl_Longer T.m_Longer_made sc_Longer_made (fun _ _ _ _ _ _ us hl => match us, hl with | [_, _, _, _, _], _ => rfl) (fun vs H Q E h => ?_) (fun cdv A outer sh H vs Q E hr h => ?_)
      · obtain ⟨s, a, kv, v, e, z, l, ws, k, p, rfl, _⟩ := h
        rfl
      obtain ⟨s, a, kv, v, e, z, l, ws, k, p, rfl, hs, ha, hl, hk, hp, hpl, hn, hz, hE, q⟩ := h
      refine ⟨_, pss_cons (ps_expr (mcal GS hr (passes_call (takes_of rfl rfl rfl rfl) fun _ _ _ _ h => h) (pv 0) (pa_cons (pv 4) pa_nil))) pss_nev, ?_⟩
      obtain ⟨dx, h1⟩ := hs
      refine ⟨_, rfl, s, dx, _, rfl, h1, lk_ne (by decide +kernel), _, rfl, s, z, e, rfl, ⟨dx, h1⟩, hE, fun H' z' hb hs' he => ?_⟩
      omega,
    dm_none T.d_Longer_along T.cl_Longer T.m_Longer_along (fun _ _ _ _ _ _ us hl => match us, hl with | [_, _, _, _], _ => rfl) (fun vs H Q E ⟨_, _, _, _, _, _, _, _, _, _, _, _, _, _, _, _, h, h2, _⟩ => by omega)⟩
  | n + 1 => by
    obtain ⟨GM, GA⟩ := ok_made T n
    have GS := (ok_spend (P := P) (base := base) T).mono (show 1 ≤ n + 2 by omega)
    have GK := (ok_knownAs (P := P) (base := base) T).mono (show 1 ≤ n + 2 by omega)
    have noM : ∀ (z : Int), ([(("left" : Str), V.int z)] : List (Str × V)).lookup ("made" : Str) = none := fun z => lk_ne (by decide +kernel)
    have noA : ∀ (z : Int), ([(("left" : Str), V.int z)] : List (Str × V)).lookup ("along" : Str) = none := fun z => lk_ne (by decide +kernel)
    have noS : ∀ (z : Int), ([(("left" : Str), V.int z)] : List (Str × V)).lookup ("spend" : Str) = none := fun z => lk_ne (by decide +kernel)
    constructor
    · refine dmX T.d_Longer_made T.cl_Longer T.m_Longer_made sc_Longer_made (fun _ _ _ _ _ _ us hl => match us, hl with | [_, _, _, _, _], _ => rfl) (fun vs H Q E h => ?_) (fun cdv A outer sh H vs Q E hr h => ?_)
      · obtain ⟨s, a, kv, v, e, z, l, ws, k, p, rfl, _⟩ := h
        rfl
      obtain ⟨s, a, kv, v, e, z, l, ws, k, p, rfl, hs, ha, hl, hk, hp, hpl, hn, hz, hE, q⟩ := h
      have hx : Passes (L2.CX P w) (cxOf (L2.CX P w) P w K mg base ["self", "known", "kind", "program", "nest", "halves", "one", "name", "body"] "Longer.made" (defScope s_Longer_made) (He.ma K (He.ga K "Longer") "made") cdv A outer sh H E) E := passes_call (takes_of rfl rfl rfl rfl) fun _ _ _ _ h => h
      refine ⟨_, (pss_cons (ps_expr (mcal GS hr hx (pv 0) (pa_cons (pv 4) pa_nil))) (pss_cons (ps_if (pt_tag (pv 2) mono_var) (pss_one (ps_ret (pe_glob (v := .ref (He.ga K "THING")) rfl T.i_THING rfl))) pss_nil) (pss_cons (ps_if (pt_tag (pv 2) mono_var) (pss_one (ps_ret (pe_ix ix_tup (mcal GA hr hx (pv 0) (pa_cons (pv 1) (pa_cons (pv 3) (pa_cons (pv 4) pa_nil)))) pe_int (fun _ _ => rfl)))) pss_nil) (pss_cons (ps_if (pt_tag (pv 2) mono_var) (pss_cons (ps_set (i := 5) sc_Longer_made.nd rfl (.inl rfl) (pe_lst (pa_cons (pe_tup (pa_cons pe_str (pa_cons (pv 3) pa_nil))) (pa_cons (pe_tup (pa_cons pe_str (pa_cons (pv 3) pa_nil))) pa_nil)))) (pss_cut ( fun σ' H' => ∃ (h : Addr) (x1 x2 : V), σ' = [some (.ref s), some (.ref a), some kv, some v, some (.int e), some (.ref h), none, none, none] ∧ But s H H' ∧ (∃ z', LoAt K H' s z') ∧ H' h = some (.lst [x1, x2]) ∧ PgAt K H' (half1 p) x1 ∧ PgAt K H' (half2 p) x2 ) (ps_if (pt_tag (pv 3) mono_var) (pss_one (ps_set (i := 5) sc_Longer_made.nd rfl (.inl rfl) (pe_lst (pa_cons (pv_at 3 1) (pa_cons (pv_at 3 2) pa_nil))))) pss_nil) (pss_cons (ps_set (i := 6) sc_Longer_made.nd rfl (.inl rfl) (mcal GM hr hx (pv 0) (pa_cons (pv 1) (pa_cons (pv_at 2 1) (pa_cons (pe_atL 0 (pv 5) mono_var) (pa_cons (pe_op op_add (pv 4) pe_int) pa_nil)))))) (pss_one (ps_ret (pe_tup (pa_cons pe_str (pa_cons (pv 6) (pa_cons (mcal GM hr hx (pv 0) (pa_cons (pv 1) (pa_cons (pv_at 2 2) (pa_cons (pe_atL 1 (pv 5) mono_var) (pa_cons (pe_op op_add (pv 4) pe_int) pa_nil))))) pa_nil))))))))) pss_nil) (pss_cons (ps_set (i := 7) sc_Longer_made.nd rfl (.inl rfl) (pe_op op_add_str pe_str (pe_callTy call_str_int rfl T.n_str (by decide +kernel) (pa_cons (pe_callB call_len_seq rfl T.n_len PySem.boot_len (pa_cons (pv 1) pa_nil)) pa_nil)))) (pss_cons (ps_set (i := 8) sc_Longer_made.nd rfl (.inl rfl) (pe_tup (pa_cons pe_str (pa_cons (pv 3) (pa_cons (pe_tup (pa_cons pe_str (pa_cons (pv 7) pa_nil))) pa_nil))))) (pss_cut ( fun σ' H' => ∃ (y : V), σ' = [some (.ref s), some (.ref a), some kv, some v, some (.int e), none, none, some (.str (bname l p).str), some y] ∧ But s H H' ∧ (∃ z', LoAt K H' s z') ∧ PgAt K H' (bbody l p) y ) (ps_if (pt_tag (pv 3) mono_var) (pss_cons (ps_set (i := 7) sc_Longer_made.nd rfl (.inl rfl) (pv_at 3 1)) (pss_one (ps_set (i := 8) sc_Longer_made.nd rfl (.inl rfl) (pv_at 3 3)))) pss_nil) (pss_one (ps_ret (pe_tup (pa_cons pe_str (pa_cons (pv 7) (pa_cons (pv_at 2 1) (pa_cons (mcal GM hr hx (pv 0) (pa_cons (pe_op op_cat (pv 1) (pe_lst (pa_cons (pe_tup (pa_cons (pv 7) (pa_cons (pv_at 2 1) pa_nil))) pa_nil))) (pa_cons (pv_at 2 2) (pa_cons (pv 8) (pa_cons (pe_op op_add (pv 4) pe_int) pa_nil))))) pa_nil)))))))))))))), ?_⟩
      have nas := hs.ne ha
      obtain ⟨dx, h1⟩ := id hs
      refine ⟨_, rfl, s, dx, _, rfl, h1, noS _, _, rfl, s, z, e, rfl, hs, hE, fun H1 z1 b1 hs1 he => ?_⟩
      have t1 := hs.ts b1
      have ha1 := b1 _ _ nas ha
      have hl1 := hl.imp fun _ _ h => h.ts t1
      have hk1 := hk.ts t1
      have hp1 := hp.ts t1
      cases k with
      | one =>
        obtain ⟨b, rfl, tb⟩ := hk1
        exact ⟨_, rfl, b, _, _, rfl, tb, ifT (by decide +kernel) (q _ z1 1 .thing _ b1 hs1 ⟨_, rfl, T.t_THING H1⟩ (by rw [Md]) (Nat.zero_le _))⟩
      | mark m =>
        obtain ⟨b, rfl, tb⟩ := hk1
        refine ⟨_, rfl, b, _, _, rfl, tb, ifF (by decide +kernel) ⟨_, rfl, b, _, _, rfl, tb, ifT (by decide +kernel) ?_⟩⟩
        obtain ⟨dx1, h2⟩ := id hs1
        refine ⟨_, rfl, s, dx1, _, rfl, h2, noA _, _, rfl, _, rfl, _, rfl, s, a, v, e, z1, l, ws, .mark m, p, rfl, hs1, ha1, hl1, hp1, hpl, hpl.neu, by omega, he, by omega, fun H' hb => hE H' (b1.trans hb), fun H2 z2 m2 r u b2 kv2 hb2 hs2 ht2 hr2 hk2 hal hd2 => ?_⟩
        exact ⟨_, _, _, _, rfl, rfl, ht2, atI_nat (j := 0) rfl, q H2 z2 (m2 + 1) r u (b1.trans hb2) hs2 hr2 (by rw [Md]; exact hal) (by omega)⟩
      | both k1 k2 =>
        obtain ⟨b, y, y', rfl, tb, hy, hy'⟩ := hk1
        refine ⟨_, rfl, b, _, _, rfl, tb, ifF (by decide +kernel) ⟨_, rfl, b, _, _, rfl, tb, ifF (by decide +kernel) ⟨_, rfl, b, _, _, rfl, tb, ifT (by decide +kernel) ?_⟩⟩⟩
        refine ⟨_, rfl, sz2, fun c1 hc1 => ⟨_, rfl, sz2, fun c2 hc2 => ⟨sz2, fun c3 hc3 => ⟨fun N hN => ?_, ?_⟩⟩⟩⟩
        · have s1 := same_new hc1 (.tup [.str "first", v])
          have s2 := same_new hc2 (.tup [.str "second", v])
          have s3 := same_new hc3 (.lst [.ref c1, .ref c2])
          have s123 := s1.trans (s2.trans s3)
          have hp3 := hp1.same s123
          rcases hc : isPair p with _ | _
          · obtain ⟨tp, xs, rfl, htp⟩ := hp3.tagged
            refine ⟨_, rfl, tp, _, _, rfl, htp, ifF (by rw [tag_isPair]; exact hc) (hN _ _ ⟨c3, .ref c1, .ref c2, rfl, b1.same s123, ⟨z1, hs1.same s123⟩, upd_same, ?_, ?_⟩)⟩
            · have e1 : half1 p = .first p := by cases p <;> first | rfl | cases hc
              rw [e1]
              exact ⟨c1, _, rfl, (s2.trans s3).tup (.of upd_same), hp3⟩
            · have e1 : half2 p = .second p := by cases p <;> first | rfl | cases hc
              rw [e1]
              exact ⟨c2, _, rfl, s3.tup (.of upd_same), hp3⟩
          · match p, hc, hp3 with
            | .pair p1 p2, _, hp3 =>
              obtain ⟨tp, w1, w2, rfl, htp, hw1, hw2⟩ := hp3
              refine ⟨_, rfl, tp, _, _, rfl, htp, ifT (by decide +kernel) ⟨_, rfl, tp, _, _, rfl, htp, rfl, _, rfl, tp, _, _, rfl, htp, rfl, sz2, fun c4 hc4 => hN _ _ ⟨c4, w1, w2, rfl, b1.same (s123.trans (same_new hc4 _)), ⟨z1, hs1.same (s123.trans (same_new hc4 _))⟩, upd_same, hw1.same (same_new hc4 _), hw2.same (same_new hc4 _)⟩⟩⟩
        · rintro σ' H2 ⟨h, x1, x2, rfl, b2, ⟨z2, hs2⟩, hh, hx1, hx2⟩
          obtain ⟨dx2, g2⟩ := id hs2
          have t2 := hs.ts b2
          have d1 := half1_deep p
          have d2 := half2_deep p
          have nhs := hs2.ne hh
          obtain ⟨b', y1, y2, e', tb2, hy1, hy2⟩ := hk.ts t2
          cases e'
          refine ⟨_, rfl, s, dx2, _, rfl, g2, noM _, _, rfl, _, rfl, b, _, _, rfl, tb2, rfl, _, rfl, h, _, _, rfl, .of hh, rfl, _, rfl, _, _, rfl, rfl, ?_⟩
          refine ⟨s, a, y1, x1, e + 1, z2, l, ws, k1, half1 p, rfl, hs2, b2 _ _ nas ha, hl.imp fun _ _ h => h.ts t2, hy1, hx1, hpl.halves.1, by omega, by omega, fun H' hb => hE H' (b2.trans hb), fun H3 z3 m3 r3 u3 hb3 hs3 hr3 hm3 hd3 => ?_⟩
          obtain ⟨dx3, g3⟩ := id hs3
          have t3 := hs2.ts hb3
          have b23 := b2.trans hb3
          refine ⟨_, rfl, _, rfl, s, dx3, _, rfl, g3, noM _, _, rfl, _, rfl, b, _, _, rfl, t3 _ _ tb2, rfl, _, rfl, h, _, _, rfl, .of (hb3 _ _ nhs hh), rfl, _, rfl, _, _, rfl, rfl, ?_⟩
          refine ⟨s, a, y2, x2, e + 1, z3, l, ws, k2, half2 p, rfl, hs3, b23 _ _ nas ha, hl.imp fun _ _ h => h.ts (hs.ts b23), hy2.ts t3, hx2.ts t3, hpl.halves.2, by omega, by omega, fun H' hb => hE H' (b23.trans hb), fun H4 z4 m4 r4 u4 hb4 hs4 hr4 hm4 hd4 => ?_⟩
          refine ⟨sz3, fun c5 hc5 => ?_⟩
          have s5 := same_new hc5 (.tup [.str "pair", u3, u4])
          refine q _ z4 (max m3 m4 + 1) (.pair r3 r4) _ ((b23.trans hb4).same s5) (hs4.same s5) ⟨c5, u3, u4, rfl, .of upd_same, (hr3.ts (hs3.ts hb4)).same s5, hr4.same s5⟩ ?_ (by show max r3.deep r4.deep + 1 ≤ n + 1; omega)
          rw [Md]
          exact ⟨r3, r4, rfl, hm3.up (by omega), hm4.up (by omega)⟩
      | to k1 k2 =>
        obtain ⟨b, y, y', rfl, tb, hy, hy'⟩ := hk1
        refine ⟨_, rfl, b, _, _, rfl, tb, ifF (by decide +kernel) ⟨_, rfl, b, _, _, rfl, tb, ifF (by decide +kernel) ⟨_, rfl, b, _, _, rfl, tb, ifF (by decide +kernel) ?_⟩⟩⟩
        have hwl : ws.length = l.length := hl.length
        refine ⟨_, rfl, a, _, rfl, .inl (.of ha1), _, rfl, log_small (by omega), _, _, rfl, rfl, numS_str (by omega), ?_⟩
        refine ⟨_, rfl, _, rfl, sz2, fun c1 hc1 => ⟨sz3, fun c2 hc2 => ⟨fun N hN => ?_, ?_⟩⟩⟩
        · rw [hwl] at hc2 ⊢
          have s1 := same_new hc1 (.tup [.str "name", .str (Nm.e l.length).str])
          have s2 := same_new hc2 (.tup [.str "give", v, .ref c1])
          have s12 : Same H1 _ := s1.trans s2
          have hp3 := hp1.same s12
          rcases hc : isTake p with _ | _
          · obtain ⟨tp, xs, rfl, htp⟩ := hp3.tagged
            have e1 : bname l p = .e l.length := by cases p <;> first | rfl | cases hc
            have e2 : bbody l p = .give p (.name (.e l.length)) := by cases p <;> first | rfl | cases hc
            refine ⟨_, rfl, tp, _, _, rfl, htp, ifF (by rw [tag_isTake]; exact hc) (hN _ _ ⟨.ref c2, by rw [e1]; rfl, b1.same s12, ⟨z1, hs1.same s12⟩, ?_⟩)⟩
            rw [e2]
            exact ⟨c2, _, _, rfl, .of upd_same, hp3, ⟨c1, rfl, s2.tup (.of upd_same)⟩⟩
          · match p, hc, hp3 with
            | .take x kx p1, _, hp3 =>
              obtain ⟨tp, w1, w2, rfl, htp, hw1, hw2⟩ := hp3
              exact ⟨_, rfl, tp, _, _, rfl, htp, ifT (by decide +kernel) ⟨_, rfl, tp, _, _, rfl, htp, rfl, _, rfl, tp, _, _, rfl, htp, rfl, hN _ _ ⟨w2, rfl, b1.same s12, ⟨z1, hs1.same s12⟩, hw2⟩⟩⟩
        · rintro σ' H2 ⟨yb, rfl, b2, ⟨z2, hs2⟩, hyb⟩
          obtain ⟨dx2, g2⟩ := id hs2
          have t2 := hs.ts b2
          have d1 := bbody_deep l p
          obtain ⟨b', y1, y2, e', tb2, hy1, hy2⟩ := hk.ts t2
          cases e'
          have ha2 := b2 _ _ nas ha
          refine ⟨_, rfl, _, rfl, b, _, _, rfl, tb2, rfl, _, rfl, s, dx2, _, rfl, g2, noM _, _, rfl, _, rfl, _, rfl, b, _, _, rfl, tb2, rfl, sz2, fun c3 hc3 => ⟨sz1, fun c4 hc4 => ?_⟩⟩
          have s3 := same_new hc3 (.tup [.str (bname l p).str, y1])
          have s4 := same_new hc4 (.lst [.ref c3])
          refine ⟨a, c4, _, _, rfl, rfl, s4 _ _ (s3 _ _ ha2), upd_same, by show ws.length + 1 ≤ sizeLine; exact small (by omega), fun c5 hc5 => ?_⟩
          have s5 := same_new hc5 (.lst (ws ++ [.ref c3]))
          have s345 := s3.trans (s4.trans s5)
          refine ⟨_, rfl, b, _, _, rfl, s345.tup tb2, rfl, _, rfl, _, rfl, _, _, rfl, rfl, ?_⟩
          refine ⟨s, c5, y2, yb, e + 1, z2, l ++ [(bname l p, k1)], ws ++ [.ref c3], k2, bbody l p, rfl, hs2.same s345, upd_same, (hl.imp fun _ _ h => (h.ts t2).same s345).snoc ⟨c3, y1, rfl, (s4.trans s5).tup (.of upd_same), hy1.same s345⟩, hy2.same s345, hyb.same s345, hpl.body, by omega, by rw [List.length_append]; show ws.length + 1 + n ≤ _; omega, fun H' hb => hE H' ((b2.same s345).trans hb), fun H3 z3 m3 r3 u3 hb3 hs3 hr3 hm3 hd3 => ?_⟩
          have t3 := (hs2.same s345).ts hb3
          refine ⟨sz4, fun c6 hc6 => ?_⟩
          have s6 := same_new hc6 (.tup [.str "take", .str (bname l p).str, y1, u3])
          refine q _ z3 (m3 + 1) (.take (bname l p) k1 r3) _ (((b2.same s345).trans hb3).same s6) (hs3.same s6) ⟨c6, y1, u3, rfl, .of upd_same, ((hy1.same s345).ts t3).same s6, hr3.same s6⟩ ?_ (by show r3.deep + 1 ≤ n + 1; omega)
          rw [Md]
          exact ⟨r3, rfl, hm3⟩
    · refine dmX T.d_Longer_along T.cl_Longer T.m_Longer_along sc_Longer_along (fun _ _ _ _ _ _ us hl => match us, hl with | [_, _, _, _], _ => rfl) (fun vs H Q E h => ?_) (fun cdv A outer sh H vs Q E hr h => ?_)
      · obtain ⟨s, a, v, e, z, l, ws, k, p, rfl, _⟩ := h
        rfl
      obtain ⟨s, a, v, e, z, l, ws, k, p, rfl, hs, ha, hl, hp, hpl, hne, hn, he, hz, hE, q⟩ := h
      have hx : Passes (L2.CX P w) (cxOf (L2.CX P w) P w K mg base ["self", "known", "program", "nest", "found", "kind"] "Longer.along" (defScope s_Longer_along) (He.ma K (He.ga K "Longer") "along") cdv A outer sh H E) E := passes_call (takes_of rfl rfl rfl rfl) fun _ _ _ _ h => h
      refine ⟨_, (pss_cons (ps_if (pt_tag (pv 2) mono_var) (pss_one (ps_ret (pe_tup (pa_cons (pv 2) (pa_cons (cal GK hr pass0 (pa_cons (pv 1) (pa_cons (pv_at 2 1) pa_nil))) pa_nil))))) pss_nil) (pss_cons (ps_asg (mcal GA hr hx (pv 0) (pa_cons (pv 1) (pa_cons (pv_at 2 1) (pa_cons (pv 3) pa_nil)))) (pg_tup rfl (pgs_cons (pg_name (i := 4) sc_Longer_along.nd rfl (Or.inl rfl)) (pgs_cons (pg_name (i := 5) sc_Longer_along.nd rfl (Or.inl rfl)) pgs_nil)))) (pss_cons (ps_if (pt_tag (pv 2) mono_var) (pss_one (ps_ret (pe_tup (pa_cons (pe_tup (pa_cons pe_str (pa_cons (pv 4) (pa_cons (mcal GM hr hx (pv 0) (pa_cons (pv 1) (pa_cons (pv_at 5 1) (pa_cons (pv_at 2 2) (pa_cons (pe_op op_add (pv 3) pe_int) pa_nil))))) pa_nil)))) (pa_cons (pv_at 5 2) pa_nil))))) pss_nil) (pss_one (ps_ret (pe_tup (pa_cons (pe_tup (pa_cons (pv_at 2 0) (pa_cons (pv 4) pa_nil))) (pa_cons (pe_ix ix_tup (pv 5) (pe_op op_add pe_int (pe_callTy call_int1 rfl T.n_int (by decide +kernel) (pa_cons (pe_tag (pv 2) mono_var) pa_nil))) (fun _ _ => rfl)) pa_nil)))))))), ?_⟩
      have nas := hs.ne ha
      obtain ⟨dx, h1⟩ := id hs
      cases p with
      | take _ _ _ => cases hne
      | pair _ _ => cases hne
      | thing => cases hne
      | name x =>
        have hp0 := hp
        obtain ⟨b, rfl, tb⟩ := hp
        refine ⟨_, rfl, b, _, _, rfl, tb, ifT (by decide +kernel) ⟨_, rfl, _, rfl, _, rfl, b, _, _, rfl, tb, rfl, a, x, l, ws, k, rfl, ha, hl, hpl.kd, fun u hu => ⟨sz2, fun c hc => ?_⟩⟩⟩
        have s1 := same_new hc (.tup [.ref b, u])
        exact q _ z 1 (.name x) _ c u (But.of s1) (hs.same s1) (.of upd_same) (hp0.same s1) (hu.same s1) (by rw [Al]; exact ⟨rfl, hpl.kd⟩) (Nat.zero_le _)
      | give p1 p2 =>
        obtain ⟨k1, hp1, hn1, hp2⟩ := hpl.give
        obtain ⟨b, y, y', rfl, tb, hy, hy'⟩ := hp
        have hn' : max p1.deep p2.deep + 1 + 203 ≤ n + 1 + 2 * e := hn
        refine ⟨_, rfl, b, _, _, rfl, tb, ifF (by decide +kernel) ?_⟩
        refine ⟨_, rfl, s, dx, _, rfl, h1, noA _, _, rfl, _, rfl, b, _, _, rfl, tb, rfl, _, rfl, s, a, y, e, z, l, ws, .to k1 k, p1, rfl, hs, ha, hl, hy, hp1, hn1, by omega, he, by omega, hE, fun H2 z2 m2 r2 u2 b2 kv2 hb2 hs2 ht2 hr2 hk2 hal hd2 => ?_⟩
        have t2 := hs.ts hb2
        obtain ⟨dx2, g2⟩ := id hs2
        obtain ⟨f, f1, f2, rfl, tf, hf1, hf2⟩ := hk2
        refine ⟨b2, _, rfl, ht2, rfl, _, _, rfl, _, _, rfl, rfl, ?_⟩
        refine ⟨_, rfl, b, _, _, rfl, t2 _ _ tb, ifT (by decide +kernel) ?_⟩
        refine ⟨_, rfl, _, rfl, s, dx2, _, rfl, g2, noM _, _, rfl, _, rfl, f, _, _, rfl, tf, rfl, _, rfl, b, _, _, rfl, t2 _ _ tb, rfl, _, rfl, _, _, rfl, rfl, ?_⟩
        refine ⟨s, a, f1, y', e + 1, z2, l, ws, k1, p2, rfl, hs2, hb2 _ _ nas ha, hl.imp fun _ _ h => h.ts t2, hf1, hy'.ts t2, hp2, by omega, by omega, fun H' hb => hE H' (hb2.trans hb), fun H3 z3 m3 r3 u3 hb3 hs3 hr3 hm3 hd3 => ?_⟩
        have t3 := hs2.ts hb3
        refine ⟨sz3, fun c hc => ?_⟩
        have s4 := same_new hc (.tup [.str "give", u2, u3])
        refine ⟨_, rfl, f, _, _, rfl, s4.tup (t3 _ _ tf), rfl, sz2, fun d hd => ?_⟩
        have s5 := same_new hd (.tup [.ref c, f2])
        have s45 := s4.trans s5
        refine q _ z3 (max m2 m3 + 1) (.give r2 r3) _ d _ ((hb2.trans hb3).same s45) (hs3.same s45) (.of upd_same) ⟨c, u2, u3, rfl, s5.tup (.of upd_same), (hr2.ts t3).same s45, hr3.same s45⟩ ((hf2.ts t3).same s45) ?_ (by show max r2.deep r3.deep + 1 ≤ n + 1; omega)
        rw [Al]
        exact ⟨k1, r2, r3, rfl, hal.up (by omega), hm3.up (by omega)⟩
      | first p1 =>
        obtain ⟨k2, hp1, hn1⟩ := hpl.first
        obtain ⟨b, y, rfl, tb, hy⟩ := hp
        have hn' : p1.deep + 1 + 203 ≤ n + 1 + 2 * e := hn
        refine ⟨_, rfl, b, _, _, rfl, tb, ifF (by decide +kernel) ?_⟩
        refine ⟨_, rfl, s, dx, _, rfl, h1, noA _, _, rfl, _, rfl, b, _, _, rfl, tb, rfl, _, rfl, s, a, y, e, z, l, ws, .both k k2, p1, rfl, hs, ha, hl, hy, hp1, hn1, by omega, he, by omega, hE, fun H2 z2 m2 r2 u2 b2 kv2 hb2 hs2 ht2 hr2 hk2 hal hd2 => ?_⟩
        have t2 := hs.ts hb2
        obtain ⟨f, f1, f2, rfl, tf, hf1, hf2⟩ := hk2
        refine ⟨b2, _, rfl, ht2, rfl, _, _, rfl, _, _, rfl, rfl, ?_⟩
        refine ⟨_, rfl, b, _, _, rfl, t2 _ _ tb, ifF (by decide +kernel) ?_⟩
        refine ⟨_, rfl, b, _, _, rfl, t2 _ _ tb, rfl, _, rfl, sz2, fun c hc => ?_⟩
        have s4 := same_new hc (.tup [.str "first", u2])
        refine ⟨_, rfl, _, rfl, b, _, _, rfl, s4.tup (t2 _ _ tb), .inr ⟨_, rfl, _, _, rfl, rfl, f, _, _, f1, rfl, rfl, s4.tup tf, ?_, sz2, fun d hd => ?_⟩⟩
        · rw [show decide (Str.ofString "first" = Str.ofString "second") = false by decide +kernel]
          exact atI_nat (j := 1) rfl
        have s5 := same_new hd (.tup [.ref c, f1])
        have s45 := s4.trans s5
        refine q _ z2 (m2 + 1) (.first r2) _ d _ (hb2.same s45) (hs2.same s45) (.of upd_same) ⟨c, u2, rfl, s5.tup (.of upd_same), hr2.same s45⟩ (hf1.same s45) ?_ (by show r2.deep + 1 ≤ n + 1; omega)
        rw [Al]
        exact ⟨k2, r2, rfl, hal⟩
      | second p1 =>
        obtain ⟨k2, hp1, hn1⟩ := hpl.second
        obtain ⟨b, y, rfl, tb, hy⟩ := hp
        have hn' : p1.deep + 1 + 203 ≤ n + 1 + 2 * e := hn
        refine ⟨_, rfl, b, _, _, rfl, tb, ifF (by decide +kernel) ?_⟩
        refine ⟨_, rfl, s, dx, _, rfl, h1, noA _, _, rfl, _, rfl, b, _, _, rfl, tb, rfl, _, rfl, s, a, y, e, z, l, ws, .both k2 k, p1, rfl, hs, ha, hl, hy, hp1, hn1, by omega, he, by omega, hE, fun H2 z2 m2 r2 u2 b2 kv2 hb2 hs2 ht2 hr2 hk2 hal hd2 => ?_⟩
        have t2 := hs.ts hb2
        obtain ⟨f, f1, f2, rfl, tf, hf1, hf2⟩ := hk2
        refine ⟨b2, _, rfl, ht2, rfl, _, _, rfl, _, _, rfl, rfl, ?_⟩
        refine ⟨_, rfl, b, _, _, rfl, t2 _ _ tb, ifF (by decide +kernel) ?_⟩
        refine ⟨_, rfl, b, _, _, rfl, t2 _ _ tb, rfl, _, rfl, sz2, fun c hc => ?_⟩
        have s4 := same_new hc (.tup [.str "second", u2])
        refine ⟨_, rfl, _, rfl, b, _, _, rfl, s4.tup (t2 _ _ tb), .inr ⟨_, rfl, _, _, rfl, rfl, f, _, _, f2, rfl, rfl, s4.tup tf, ?_, sz2, fun d hd => ?_⟩⟩
        · rw [show decide (Str.ofString "second" = Str.ofString "second") = true by decide +kernel]
          exact atI_nat (j := 2) rfl
        have s5 := same_new hd (.tup [.ref c, f2])
        have s45 := s4.trans s5
        refine q _ z2 (m2 + 1) (.second r2) _ d _ (hb2.same s45) (hs2.same s45) (.of upd_same) ⟨c, u2, rfl, s5.tup (.of upd_same), hr2.same s45⟩ (hf2.same s45) ?_ (by show r2.deep + 1 ≤ n + 1; omega)
        rw [Al]
        exact ⟨k2, r2, rfl, hal⟩
end
end KF

set_option Elab.async false
set_option linter.all false
set_option maxRecDepth 100000
set_option maxHeartbeats 4000000
namespace KF
open PySem PySem.Spec L2 TL
section
variable {P : Program} {w : World} {K : PySem.W.Frag} {mg : Str → Option Value} {base : Heap}
def spLoInit (K : PySem.W.Frag) : Sp := fun vs H Q _ => ∃ (s dx : Addr), vs = [.ref s] ∧ H s = some (.ins (He.ga K "Longer") dx []) ∧ ∀ H', But s H H' → LoAt K H' s 1500 → Q .non H'
theorem ok_loInit (T : Tx w K mg) : Dc P w K mg base CX0 1 "Longer" ["self"] (spLoInit K) := by
  obtain ⟨t1, g1⟩ := T.i_MOST_PARTS_longs
  refine dc0 T.d_Longer___init__ T.mk_Longer T.c_Longer sc_Longer___init__ (fun _ _ _ _ _ _ us hl => match us, hl with | [_], _ => rfl) (fun vs H Q E h => ?_) (fun cdv A outer sh H vs Q E hr h => ?_)
  · obtain ⟨s, dx, rfl, _⟩ := h
    rfl
  obtain ⟨s, dx, rfl, hs, q⟩ := h
  refine ⟨_, (pss_one (ps_fld (pv 0) (pe_glob (v := .int 1500) rfl g1 ⟨_, rfl⟩) rfl)), ?_⟩
  exact ⟨_, rfl, s, _, dx, _, rfl, hs, T.cl_Longer, T.a_Longer_left, (by show 0 < 1000; decide), q _ (But.upd _ _ _) ⟨dx, upd_same⟩⟩
/-- what long_form gives: the kind k, the steps run to r, the longer form m of it, tidied -/
def spLongForm (K : PySem.W.Frag) : Sp := fun vs H Q E => ∃ (a : Addr) (v : V) (l : Ctx) (ws : List V) (p : Pg) (k : Kd), vs = [.ref a, v] ∧ H a = some (.lst ws) ∧ All2 (NmAt K H) l ws ∧ PgAt K H p v ∧
  kindIn l p = some k ∧ (∀ q ∈ l, q.2.depth ≤ 100) ∧ p.kdeep ≤ 100 ∧ p.deep ≤ 100 ∧ parts p ≤ 10000 ∧ l.length ≤ 100 ∧ (∀ r, Runs (tid [] p) r → Plain l r k) ∧ (∀ H', Same H H' → E (tooLong K) none H') ∧
  ∀ H' r m d u, Same H H' → Runs (tid [] p) r → Md m l k r d → PgAt K H' (tid [] d) u → d.deep ≤ 100 → parts d ≤ 1500 → Q u H'
theorem ok_longForm (T : Tx w K mg) : Df P w K mg base (L2.CX P w) 308 "long_form" ["row", "program"] [] (spLongForm K) := by
  have GK := (ok_kindOf (P := P) (base := base) T).mono (show 104 ≤ 307 by omega)
  have GR := (ok_run (P := P) (base := base) T).mono (show 210 ≤ 307 by omega)
  have GI := (ok_loInit (P := P) (base := base) T)
  have GM := (ok_made (P := P) (base := base) T 304).1.mono (show 306 ≤ 307 by omega)
  have GT := (ok_tidied (P := P) (base := base) T 305).mono (show 307 ≤ 307 by omega)
  have GP := (ok_parts (P := P) (base := base) T 305).mono (show 306 ≤ 307 by omega)
  have GD := (ok_deep (P := P) (base := base) T 305).mono (show 306 ≤ 307 by omega)
  obtain ⟨x1, x2, x3, x4⟩ := T.x_TooLong
  obtain ⟨t1, g1⟩ := T.i_MOST_PARTS_longs
  obtain ⟨t2, g2⟩ := T.i_MOST_DEEP_longs
  refine dfX T.d_long_form T.g_long_form sc_long_form (fun _ _ _ _ _ _ us hl => match us, hl with | [_, _], _ => rfl) (fun vs H Q E h => ?_) (fun cdv A outer sh H vs Q E hr h => ?_)
  · obtain ⟨a, v, l, ws, p, k, rfl, _⟩ := h
    rfl
  obtain ⟨a, v, l, ws, p, k, rfl, ha, hl, hp, hk, hld, hkd, hpd, hpp, hll, hrun, hE, q⟩ := h
  have hx : Passes (L2.CX P w) (cxOf (L2.CX P w) P w K mg base ["row", "program", "kind", "plain", "found"] "long_form" (defScope s_long_form) (He.ga K "long_form") cdv A outer sh H E) E := passes_call (takes_of rfl rfl rfl rfl) fun _ _ _ _ h => h
  refine ⟨_, (pss_cons (ps_set (i := 2) sc_long_form.nd rfl (.inl rfl) (cal GK hr pass0 (pa_cons (pv 0) (pa_cons (pv 1) pa_nil)))) (pss_cons (ps_set (i := 3) sc_long_form.nd rfl (.inl rfl) (pe_ix ix_tup (cal GR hr hx (pa_cons (pv 1) pa_nil)) pe_int (fun _ _ => rfl))) (pss_cons (ps_set (i := 4) sc_long_form.nd rfl (.inl rfl) (cal GT hr pass0 (pa_cons (mcal GM hr hx (mkl0 GI (hr.mono (by omega)) pass0) (pa_cons (pe_callTy call_list_of rfl T.n_list (by decide +kernel) (pa_cons (pv 0) pa_nil)) (pa_cons (pv 2) (pa_cons (pv 3) (pa_cons pe_int pa_nil))))) pa_nil))) (pss_cons (ps_if (PW.pt (pw_or (pt_cmpR op_gt (cal GP hr pass0 (pa_cons (pv 4) pa_nil)) (pe_glob (v := .int 1500) rfl g1 ⟨_, rfl⟩) (nomark _)) (pw_or1 (pt_cmpR op_gt (cal GD hr pass0 (pa_cons (pv 4) pa_nil)) (pe_glob (v := .int 100) rfl g2 ⟨_, rfl⟩) (nomark _)))))
        (pss_one (ps_raise rfl (takes_of rfl rfl rfl rfl) (pmk_own PySem.F.excBase_ValueError x1 T.c_TooLong x2 (raises_own x3 x4) (by exact rfl)))) pss_nil) (pss_one (ps_ret (pv 4))))))), ?_⟩
  refine ⟨_, rfl, _, rfl, a, v, p, l, ws, k, rfl, ha, hl, hp, hk, hld, hkd, hpd, hll, fun kv H1 s1 hk1 => ?_⟩
  refine ⟨_, rfl, v, p, rfl, hp.same s1, hpd, hpp, fun H' s' => hE H' (s1.trans s'), fun H2 b u lg r s2 ht hr2 hruns hrd hrp => ?_⟩
  have s12 := s1.trans s2
  refine ⟨b, _, _, _, rfl, rfl, ht, atI_nat (j := 0) rfl, ?_⟩
  refine fun x dx hx1 hdx hne => ⟨x, dx, rfl, upd_same, fun H3 hb3 hlo => ⟨rfl, ?_⟩⟩
  have s3 : Same H2 H3 := fun y o hy => hb3 _ _ (ne_of_none hy hx1) (by
    rw [upd_ne (ne_of_none hy hx1), upd_ne (ne_of_none hy hdx)]; exact hy)
  obtain ⟨dx3, g3⟩ := id hlo
  have s13 := s12.trans s3
  refine ⟨x, dx3, _, rfl, g3, lk_ne (by decide +kernel), _, rfl, a, ws, rfl, .inl (.of (s13 _ _ ha)), fun c hc => ?_⟩
  have s4 := same_new hc (.lst ws)
  have s14 := s13.trans s4
  have hwl := hl.length
  refine ⟨_, rfl, _, rfl, x, c, kv, u, 0, 1500, l, ws, k, r, rfl, hlo.same s4, upd_same, hl.imp fun _ _ h => h.same s14, hk1.same (s2.trans (s3.trans s4)), hr2.same (s3.trans s4), hrun r hruns, by omega, by omega, fun H' hb => ?_, fun H5 z5 m5 d5 u5 hb5 hs5 hd5 hmd hdd => ?_⟩
  · refine hE H' fun y o hy => hb _ _ (ne_of_none (s12 _ _ hy) hx1) (s14 _ _ hy)
  have s15 : Same H H5 := fun y o hy => hb5 _ _ (ne_of_none (s12 _ _ hy) hx1) (s14 _ _ hy)
  refine ⟨u5, d5, rfl, hd5, by omega, by omega, fun u6 H6 s6 h6 => ?_⟩
  have s16 := s15.trans s6
  refine ⟨_, rfl, u6, _, rfl, h6, by rw [tid_deep]; omega, fun _ H7 s7 e => ?_⟩
  subst e
  refine ⟨_, _, rfl, rfl, _, rfl, ?_⟩
  refine if2 (fun _ => ifT rfl (hE _ (s16.trans s7))) fun h1500 => ?_
  refine ⟨_, rfl, u6, _, rfl, h6.same s7, by rw [tid_deep]; omega, fun _ H8 s8 e => ?_⟩
  subst e
  refine ⟨_, _, rfl, rfl, _, rfl, ?_⟩
  have s78 := s7.trans s8
  refine if2 (fun _ => hE _ (s16.trans s78)) fun h100 => ?_
  refine ⟨_, rfl, q H8 r m5 d5 u6 (s16.trans s78) hruns hmd (h6.same s78) ?_ ?_⟩
  · have := of_decide_eq_false h100; rw [tid_deep] at this; omega
  · have := of_decide_eq_false h1500; rw [tid_parts] at this; omega
end
end KF

set_option Elab.async false
set_option linter.all false
set_option maxRecDepth 100000
set_option maxHeartbeats 4000000
/-! Sets of texts: made of a tuple, sorted. -/
namespace KF
open PySem PySem.Spec PyProof.Rows L2
/-- the set at a holds the texts l, each once -/
def SetS (P : Program) (w : World) (h : Heap) (a : Addr) (l : List Str) : Prop :=
  ∃ D : Froz.SD, h.get? a = some (Froz.sObj "set" D) ∧ Froz.TxOk P w D l ∧ Ris D.2.2.place.toList ∧ (w.params.followText "set-order" = true ∨ D.2.2.led = true) ∧ l.Nodup
theorem perm_of_few {α : Type} [DecidableEq α] : ∀ {l m : List α}, l.Nodup → (∀ x ∈ l, x ∈ m) → m.length ≤ l.length → m.Perm l
  | [], m, _, _, h => by
    obtain rfl : m = [] := List.length_eq_zero_iff.mp (Nat.le_zero.mp h)
    exact .refl _
  | a :: l, m, nd, hs, h => by
    obtain ⟨n1, n2⟩ := List.nodup_cons.mp nd
    have ha := hs a List.mem_cons_self
    have e := List.perm_cons_erase ha
    have le : (m.erase a).length ≤ l.length := by
      have := e.length_eq
      rw [List.length_cons] at this h
      omega
    refine e.trans (.cons a (perm_of_few n2 (fun x hx => ?_) le))
    have := e.mem_iff.mp (hs x (List.mem_cons_of_mem _ hx))
    rcases List.mem_cons.mp this with z | z
    · exact absurd (z ▸ hx) n1
    · exact z
section
variable {P : Program} {w : World} {A : Around} {E : Value → Shared → Prop} {s : Shared} {a : Addr} {l : List Str}
theorem SetS.at {h h' : Heap} (R : SetS P w h a l) (k : ∀ o, h.get? a = some o → h'.get? a = some o) : SetS P w h' a l := by
  obtain ⟨D, ho, r⟩ := R
  exact ⟨D, k _ ho, r⟩
theorem tail_ris {ep : Nat} {es : Array (Int × Value)} {t : SetTable} {b : Bool} (r : Ris t.place.toList) : Ris (Froz.tailTx ep es t b).2.2.place.toList ∧ (Froz.tailTx ep es t b).2.2.led = t.led := by
  unfold Froz.tailTx
  by_cases c : (!b && t.tooFull) = true
  · rw [if_pos c]
    exact ⟨relayAll_ris _ _ _, relayAll_led _ _ _⟩
  · rw [if_neg c]
    exact ⟨r, rfl⟩
theorem addTx_ris {D : Froz.SD} {h : Int} {v : Value} (r : Ris D.2.2.place.toList) : Ris (Froz.addTx h v D).2.2.place.toList ∧ (Froz.addTx h v D).2.2.led = D.2.2.led := by
  unfold Froz.addTx
  have h1 := layNew_ris D.2.2 D.1 h v r
  have h2 := layNew_led D.2.2 D.1 h v
  by_cases c : (layNew D.2.2 D.1 h v).2.1.plain = true
  · rw [if_pos c]
    obtain ⟨z1, z2⟩ := tail_ris (ep := D.2.1) (es := (layNew D.2.2 D.1 h v).1) (t := { (layNew D.2.2 D.1 h v).2.1 with plain := false }) (b := (layNew D.2.2 D.1 h v).2.2.1) h1
    exact ⟨z1, z2.trans h2⟩
  · rw [if_neg c]
    obtain ⟨z1, z2⟩ := tail_ris (ep := D.2.1) (es := (layNew D.2.2 D.1 h v).1) (t := (layNew D.2.2 D.1 h v).2.1) (b := (layNew D.2.2 D.1 h v).2.2.1) h1
    exact ⟨z1, z2.trans h2⟩
/-- a text that is there already -/
theorem add_in {D : Froz.SD} {T : String} {k : Str} {u : Tok} {Q : Bool → Shared → Prop} (ho : s.heap.get? a = some (Froz.sObj T D)) (F : Froz.TxOk P w D l) (hk : k ∈ l) (hb : l.length < scanBound) (h : Q false s) :
    wpAny (model P w) A (setAddHashed a (.str k u) (hashStr w k)) Q E s := by
  obtain ⟨es, ep, t⟩ := D
  have hd : (Froz.sObj T (es, ep, t)).data = .set es ep t := rfl
  have hel : ElemsOf (strKind P w) es.toList := F.el
  have hf : t.fits es.size = true := F.fit
  have hsz : es.size = l.length := F.sz
  have hkey : (strKind P w).is k (.str k u) = true := Froz.is_str k u
  unfold setAddHashed setAddHashedIn
  refine wpAny_holding (wpAny_bind (wpAny_setState_of ho hd hf ?_))
  dsimp only
  rw [byScan_of rfl (by omega) hel]
  simp only [↓reduceIte]
  unfold setAddByScan
  refine wpAny_bind (wpAny_bind (wpAny_rule (wpAny_bind (wpAny_setScan_of (knd := strKind P w) (k := k) hkey ho hd hf hel ?_))))
  cases z : List.findIdx? (fun e => (strKind P w).is k e.2) es.toList with
  | some j => exact wpAny_pure (wpAny_pure h)
  | none =>
    obtain ⟨e, he, q⟩ := (F.mem k).mp hk
    have := List.findIdx?_eq_none_iff.mp z e he
    rw [q] at this
    cases this
theorem add_str {k : Str} {u : Tok} {Q : Shared → Prop} (R : SetS P w s.heap a l) (hb : l.length + 1 < scanBound)
    (h : ∀ h' l', Heap.SameBut a s.heap h' → SetS P w h' a l' → (∀ x, x ∈ l' ↔ x ∈ l ∨ x = k) → l'.length ≤ l.length + 1 → Q { s with heap := h' }) :
    wpAny (model P w) A (setAddHashed a (.str k u) (hashStr w k)) (fun _ => Q) E s := by
  obtain ⟨D, ho, F, r, led, nd⟩ := R
  by_cases hk : k ∈ l
  · exact add_in ho F hk (by omega) (h s.heap l (Heap.SameBut.refl a s.heap) ⟨D, ho, F, r, led, nd⟩ (fun x => ⟨.inl, fun z => z.elim id fun e => e ▸ hk⟩) (Nat.le_succ _))
  · obtain ⟨z1, z2⟩ := addTx_ris (h := hashStr w k) (v := .str k u) r
    exact Froz.add_x ho F hk hb (h _ (k :: l) (Heap.SameBut.update s.heap a _) ⟨_, Froz.get_upd _ ho rfl, Froz.add_ok u F, z1, led.imp id fun q => z2.trans q, List.nodup_cons.mpr ⟨hk, nd⟩⟩
      (fun x => by rw [List.mem_cons]; exact Or.comm) (Nat.le_refl _))
/-- the turns of set(..): text by text -/
theorem fill_strs {I : Addr} {fp wr : List Addr} {G : Array GenState → Array GenState → Prop} {n : Nat} {Pv : Nat → Value → Prop} {St : Nat → Shared → Prop} {R : Result → Shared → Prop}
    (W : WalksS P w A.in1 I fp wr G n Pv St) (S : Addr) (hSf : S ∉ fp) (xs : List Str) (hn : n = xs.length) (hb : xs.length + 1 < scanBound) (hval : ∀ i v, Pv i v → ∃ k t, xs[i]? = some k ∧ v = .str k t) :
    ∀ (m i : Nat) (s : Shared), n - i = m → i ≤ n → St i s → (∃ l, l.length ≤ i ∧ SetS P w s.heap S l ∧ ∀ x, x ∈ l ↔ x ∈ xs.take i) →
      (∀ s' l, Moved (S :: wr) G s s' → l.length ≤ n → SetS P w s'.heap S l → (∀ x, x ∈ l ↔ x ∈ xs) → R (.ok (.ret .none)) s') →
      codeAny (model P w) A (.builtin "set.update.loop" ⟨[.ref S, .ref I], []⟩) R s := by
  have hSw : S ∉ wr := fun h => hSf (W.sub _ h)
  have more : ∀ b ∈ wr, b ∈ S :: wr := fun b => List.mem_cons_of_mem _
  intro m
  induction m with
  | zero =>
    intro i s e hi hst ⟨l, hl, hS, hm⟩ hR
    obtain rfl : i = n := by omega
    refine codeAny_builtin PyProof.Rows.F.entry_set_update_loop ?_
    rw [Around.under_plainId PyProof.Rows.F.plain_set_update_loop _]
    show wpAny _ A.in1 (pyNext (.ref I) >>= _) _ _ s
    refine wpAny_bind (W.done s _ _ hst fun s' mv => ?_)
    show wpAny _ A.in1 (ret Value.none) _ _ s'
    rw [List.take_of_length_le (by omega)] at hm
    exact wpAny_pure (hR s' l (mv.mono more) hl (hS.at fun o q => mv.heap S o hSw q) hm)
  | succ m ih =>
    intro i s e hi hst ⟨l, hl, hS, hm⟩ hR
    have hlt : i < n := by omega
    refine codeAny_builtin PyProof.Rows.F.entry_set_update_loop ?_
    rw [Around.under_plainId PyProof.Rows.F.plain_set_update_loop _]
    show wpAny _ A.in1 (pyNext (.ref I) >>= _) _ _ s
    refine wpAny_bind (W.item i s _ _ hlt hst fun v s' hP hst' mv => ?_)
    obtain ⟨z, t, hz, rfl⟩ := hval i v hP
    have hS' : SetS P w s'.heap S l := hS.at fun o q => mv.heap S o hSw q
    show wpAny _ A.in1 (holding [Value.str z t] (setAdd S (.str z t)) >>= _) _ _ s'
    refine wpAny_bind (wpAny_holding ?_)
    unfold setAdd
    refine wpAny_holding ?_
    refine wpAny_bind ((strKind P w).pyHash (k := z) (Froz.is_str _ _) ?_)
    refine add_str (s := { s' with toks := s'.toks + 1 }) hS' (by omega) fun h' l' sb hS2 hm2 hl2 => ?_
    refine wpAny_pure ⟨plainId_quiet PyProof.Rows.F.plain_set_update_loop _, ih (i + 1) _ (by omega) hlt (W.frame _ s' _ _ hst' (Nat.le_succ _) fun b hbf o q => ?_) ⟨l', by omega, hS2, fun x => ?_⟩ fun s'' l'' mv2 hl3 hS3 hm3 => ?_⟩
    · rw [sb.2 b (fun h : b = S => hSf (by rw [← h]; exact hbf))]; exact q
    · rw [hm2 x, hm x, List.take_add_one, hz, List.mem_append]
      simp
    · refine hR s'' l'' (Moved.trans W.gtrans ((mv.mono more).then_heap (Nat.le_succ _) fun b o hbf q => ?_) mv2) hl3 hS3 hm3
      rw [sb.2 b (fun h : b = S => hbf (by rw [h]; exact List.mem_cons_self))]; exact q
theorem set_start {h : Heap} {S : Addr} (w : World) (ho : h.get? S = some { cls := .type "set", dict := none, data := .set #[] 0 (.fresh 0 0 (!w.params.followText "set-order")) }) : SetS P w h S [] :=
  ⟨(#[], 0, .fresh 0 0 (!w.params.followText "set-order")), ho, Froz.TxOk.nil (by rfl), List.Pairwise.nil, by
    show _ ∨ (!w.params.followText "set-order") = true
    cases w.params.followText "set-order"
    · exact .inr rfl
    · exact .inl rfl, List.nodup_nil⟩
set_option maxHeartbeats 8000000 in
/-- set(t), t a tuple of texts -/
theorem set_of_tup {t : Addr} {items : Array Value} {xs : List Str} {Q : Value → Shared → Prop} (hh : A.handled = none) (ht : s.heap.IsTuple t items) (hit : StrsAre items.toList xs) (hb : xs.length + 1 < scanBound)
    (h : ∀ (h' : Heap) (tk : Nat) (l : List Str), SetS P w h' s.heap.objs.size l → (∀ x, x ∈ l ↔ x ∈ xs) → l.length ≤ xs.length → (∀ b o, s.heap.get? b = some o → h'.get? b = some o) → Q (.ref s.heap.objs.size) { s with heap := h', toks := tk }) :
    wpAny (model P w) A (call (.type "set") [.ref t]) Q E s := by
  have hsz : items.size = xs.length := by rw [← StrsAre.len_eq hit, Array.length_toList]
  obtain ⟨c, tl, hmro⟩ := PySem.F.called_set.mro
  have hmade := PySem.F.called_set.made
  have hsub := PySem.F.called_set.sub
  refine wpAny_call (codeAny_of_tree ?_)
  show wpAny _ _ (callAny (.type "set") _) _ _ _
  refine wpAny_pure ⟨Code.quiet_builtin _ (by decide +kernel), codeAny_builtin PySem.F.entry_type_call ?_⟩
  rw [Around.under_plain (weight_type_call_type "set" [.ref t] []) rfl]
  have h1 := PySem.F.called_set.notType
  have h2 := PySem.F.called_set.canCreate
  have hct := PySem.F.typeCall_set_1 (.ref t)
  repeat (any_goals (first | assumption | wp_step))
  refine codeAny_mono (code_set_led1 (.ref t) (E := E) (Q₁ := fun ob s₁ => ob = .ref s.heap.objs.size ∧ s₁ = { s with heap := s.heap.push { cls := .type "set", dict := none, data := .set #[] 0 (.fresh 0 0 (!w.params.followText "set-order")) } }) ⟨rfl, rfl⟩) fun r s₁ hr => ?_
  cases r with
  | error e => exact hr
  | ok fl =>
    cases fl with
    | ret ob =>
      obtain ⟨rfl, rfl⟩ := hr
      have hS : (s.heap.push { cls := .type "set", dict := none, data := .set #[] 0 (.fresh 0 0 (!w.params.followText "set-order")) }).get? s.heap.objs.size = some { cls := .type "set", dict := none, data := .set #[] 0 (.fresh 0 0 (!w.params.followText "set-order")) } := Heap.get?_push_size _ rfl
      have hT : Shared.TypeIs { s with heap := s.heap.push { cls := .type "set", dict := none, data := .set #[] 0 (.fresh 0 0 (!w.params.followText "set-order")) } } (.ref s.heap.objs.size) "set" := ⟨_, hS, rfl⟩
      have hli := PySem.F.called_set.init.lookup
      have hbi := PySem.F.called_set.init.bind (.ref s.heap.objs.size)
      repeat (any_goals (first | assumption | wp_step))
      refine codeAny_mono (codeAny_call_builtin (R := wants (fun r s₂ => r = .none ∧ ∃ h' tk l, s₂ = { s with heap := h', toks := tk } ∧ SetS P w h' s.heap.objs.size l ∧ (∀ x, x ∈ l ↔ x ∈ xs) ∧ l.length ≤ xs.length ∧
          (∀ b o, s.heap.get? b = some o → h'.get? b = some o)) E) PySem.F.called_set.init.plain PySem.F.entry_set_init (check_set_init_1 hT ?_)) fun r₂ s₂ hr₂ => ?_
      · obtain ⟨ot, hot, hcl, nt, hdt⟩ := ht
        obtain ⟨ocls, odict, odata, oslots⟩ := ot
        simp only at hcl hdt
        subst hcl; subst hdt
        have hot' : (s.heap.push { cls := .type "set", dict := none, data := .set #[] 0 (.fresh 0 0 (!w.params.followText "set-order")) }).get? t = some { cls := .type "tuple", dict := odict, data := .seq items nt, slots := oslots } := Heap.get?_push_of_some _ hot
        have hsls := PySem.F.sub_tuple_set
        have hslf := PySem.F.sub_tuple_frozenset
        have hne : (Value.type "tuple" == Value.type "dict") = false := by decide
        have ht1 : (s.heap.push { cls := .type "set", dict := none, data := .set #[] 0 (.fresh 0 0 (!w.params.followText "set-order")) }).IsTuple t items := ⟨_, hot', rfl, nt, rfl⟩
        unfold Builtin.«set.__init__» noKeywords Builtin.Frozenset.updateFrom
        generalize hPI : pyIter = PI
        wp_walk
        subst hPI
        refine wpAny_pyIter_tuple ht1 ?_
        refine wpAny_bind (wpAny_runValue ?_)
        have hlt : t < s.heap.objs.size := Heap.lt_size hot
        have hh3 : A.in1.in1.in1.handled = none := by simp [hh]
        have hneI : t ≠ (s.heap.push { cls := .type "set", dict := none, data := .set #[] 0 (.fresh 0 0 (!w.params.followText "set-order")) }).objs.size := by
          rw [Heap.size_push]; exact Nat.ne_of_lt (Nat.lt_succ_of_lt hlt)
        have hSf : s.heap.objs.size ∉ [(s.heap.push { cls := .type "set", dict := none, data := .set #[] 0 (.fresh 0 0 (!w.params.followText "set-order")) }).objs.size, t] := by
          rw [Heap.size_push]; simp only [List.mem_cons, List.mem_singleton, List.not_mem_nil, or_false, not_or]
          exact ⟨Nat.ne_of_lt (Nat.lt_succ_self _), Nat.ne_of_gt hlt⟩
        have hval : ∀ (i : Nat) (v : Value), items[i]? = some v → ∃ k u, xs[i]? = some k ∧ v = .str k u := fun i v hv => by
          have hi : i < xs.length := by rw [← hsz]; exact (Array.getElem?_eq_some_iff.mp hv).1
          obtain ⟨u, e⟩ := SS.strs_at hit i v (by rw [Array.getElem?_toList]; exact hv)
          refine ⟨xs[i], u, List.getElem?_eq_getElem hi, ?_⟩
          rw [e, List.getD_eq_getElem?_getD, List.getElem?_eq_getElem hi] <;> rfl
        refine fill_strs ((Walks.tuple hh3 _ t hneI items).toS) s.heap.objs.size
          hSf xs hsz hb hval (items.size - 0) 0 _ (by omega) (Nat.zero_le _)
          ⟨⟨_, Heap.get?_push_size _ rfl, rfl, rfl⟩, (ht1.push _)⟩ ?hS0 ?hR
        case hS0 =>
          have hget : ((s.heap.push { cls := .type "set", dict := none, data := .set #[] 0 (.fresh 0 0 (!w.params.followText "set-order")) }).push { cls := .type "tuple_iterator", data := .fields #[.ref t, .int 0 0] }).get? s.heap.objs.size
              = some { cls := .type "set", dict := none, data := .set #[] 0 (.fresh 0 0 (!w.params.followText "set-order")) } := Heap.get?_push_of_some _ hS
          exact ⟨[], Nat.le_refl 0, set_start w hget, fun x => by simp⟩
        case hR =>
          intro s' l' mv hl' hS' hm'
          obtain ⟨h', g2, d', tk', os'⟩ := s'
          have eg : g2 = s.gens := mv.gens
          have ed : d' = s.drawn := mv.drawn
          have eo : os' = s.os := mv.os
          subst eg; subst ed; subst eo
          show wpAny _ _ _ _ _ _
          refine wpAny_pure ?_
          show wpAny _ _ (ret Value.none) _ _ _
          rw [hsz] at hl'
          refine wpAny_pure ⟨rfl, h', tk', l', rfl, hS', hm', hl', fun b o e => ?_⟩
          have hb0 : b < s.heap.objs.size := Heap.lt_size e
          have hb1 : b ≠ s.heap.objs.size := Nat.ne_of_lt hb0
          have hb2 : b ≠ (s.heap.push { cls := .type "set", dict := none, data := .set #[] 0 (.fresh 0 0 (!w.params.followText "set-order")) }).objs.size := by
            rw [Heap.size_push]; exact Nat.ne_of_lt (Nat.lt_succ_of_lt hb0)
          exact mv.heap b o (by simp only [List.mem_cons, List.mem_singleton, List.not_mem_nil, or_false, not_or]; exact ⟨hb1, hb2⟩) (Heap.get?_push_of_some _ (Heap.get?_push_of_some _ e))
      · cases r₂ with
        | error e => exact hr₂
        | ok fl₂ =>
          cases fl₂ with
          | ret r =>
            obtain ⟨rfl, h', tk, l, rfl, hS', hm', hl', hk'⟩ := hr₂
            repeat (any_goals (first | assumption | wp_step))
            exact h _ _ l hS' hm' hl' hk'
          | _ => exact hr₂.elim
    | _ => exact hr.elim
/-- sorted(s), s a set of texts -/
theorem sorted_setS {Q : Value → Shared → Prop} (R : SetS P w s.heap a l) (hh : A.handled = none) (h64 : l.length < 64)
    (hQ : ∀ s' p (out : Array Value) (c : Nat) (ys : List Str), (∀ b o, s.heap.get? b = some o → s'.heap.get? b = some o) → s'.gens = s.gens → s'.os = s.os → s.heap.objs.size ≤ p →
      s'.heap.get? p = some (seqObj "list" out c) → StrsAre out.toList ys → sortedS ys = true → (∀ x, x ∈ ys ↔ x ∈ l) → ys.Nodup → Q (.ref p) s') :
    wpAny (model P w) A (call (.builtin "sorted") [.ref a]) Q E s := by
  obtain ⟨⟨es, ep, t⟩, ho, F, r, led, nd⟩ := R
  have hel : ElemsOf (strKind P w) es.toList := F.el
  have hf : t.fits es.size = true := F.fit
  have hsz : es.size = l.length := F.sz
  have hmem : ∀ k : Str, k ∈ l ↔ ∃ e ∈ es.toList, (strKind P w).is k e.2 = true := F.mem
  refine Calls.call_function_entry kind_sorted plain_sorted entry_sorted (args_sorted1 _) ?_
  unfold Builtin.«sorted»
  refine wpAny_bind (m := checkCount "sorted" 1 1 _) (wpAny_pure ?_)
  refine wpAny_bind (collect_set (A := A.in1) (es := es) (ep := ep) (t := t) hh ⟨_, ho, rfl, rfl⟩ hf (by unfold scanBound; omega) r led fun s1 vs k1 hz g1 o1 pm => ?_)
  have hvl : vs.length = l.length := by rw [pm.length_eq, List.length_map, Array.length_toList]; exact hsz
  have hall : ∀ v ∈ vs, ∃ k u, v = Value.str k u := fun v hv => by
    obtain ⟨e, he, q⟩ := List.mem_map.mp (pm.mem_iff.mp hv)
    obtain ⟨⟨k, hk, _⟩, _⟩ := hel e he
    rw [q] at hk
    cases v <;> first | exact ⟨_, _, rfl⟩ | (exfalso; revert hk; show ¬ (false = true); decide)
  have hI : StrsAre vs (vs.map strOf) := strsAre_map vs hall
  have hin : ∀ x, x ∈ vs.map strOf ↔ x ∈ l := fun x => by
    rw [hmem x, List.mem_map]
    constructor
    · rintro ⟨v, hv, rfl⟩
      obtain ⟨e, he, q⟩ := List.mem_map.mp (pm.mem_iff.mp hv)
      obtain ⟨k, u, rfl⟩ := hall v hv
      exact ⟨e, he, by rw [q]; exact Froz.is_str k u⟩
    · rintro ⟨e, he, q⟩
      have hv : e.2 ∈ vs := pm.mem_iff.mpr (List.mem_map_of_mem he)
      refine ⟨e.2, hv, ?_⟩
      obtain ⟨k, u, e2⟩ := hall _ hv
      rw [e2] at q ⊢
      exact (strKind P w).inj (.str k u) k x (Froz.is_str k u) q
  refine wpAny_bind (wpAny_newList ?_ (by rw [hvl, sizeLine_eq]; omega))
  have hoL : (s1.heap.push (seqObj "list" vs.toArray 0)).get? s1.heap.objs.size = some (seqObj "list" vs.toArray 0) := Heap.get?_push_size _ rfl
  refine wpAny_bind (wpAny_holding (wpAny_call_entry slot_list_sort ⟨_, hoL, rfl⟩ entry_list_sort (list_sort_treeK strKind_oneLt hoL hI.keysOf (fun v₁ v₂ rest e => keyKind_strs (by rw [← e]; exact hI)) (by rw [hvl]; exact h64) fun st' hp hs => ⟨_, rfl, ?_⟩) (args_list_sort _)))
  obtain ⟨ys, a1, a2, a3⟩ := sorted_out_str hI hp hs
  obtain ⟨c, hc⟩ := sortedHeap_at (vs := vs) (out := (arrOf st').map (·.2)) hoL
  have hyl : ys.length = l.length := by rw [a2.length_eq, List.length_map]; exact hvl
  refine wpAny_pure ⟨_, rfl, hQ _ s1.heap.objs.size _ c ys (fun b u e => ?_) g1 o1 hz hc a1 a3 (fun x => a2.mem_iff.trans (hin x)) ?_⟩
  · have q := k1 b u e
    have hlt := Heap.lt_size q
    show (sortedHeap (s1.heap.push (seqObj "list" vs.toArray 0)) s1.heap.objs.size vs _).get? b = some u
    rw [sortedHeap_old (Nat.ne_of_lt hlt) (by rw [size_push']; exact Nat.lt_succ_of_lt hlt)]
    exact Heap.get?_push_of_some _ q
  · exact (a2.trans (perm_of_few nd (fun x hx => (hin x).mpr hx) (by rw [List.length_map, hvl]; exact Nat.le_refl _))).nodup_iff.mpr nd
end
end KF

set_option Elab.async false
set_option linter.all false
set_option maxRecDepth 100000
set_option maxHeartbeats 4000000
namespace KF
open PySem PySem.Spec L2
/-- the set of texts at a -/
def SetSO (P : Program) (w : World) (a : Addr) (l : List Str) : HO := .ext fun h => SetS P w h a l
section
variable {X : Cx}
theorem setSO_new {w : World} {P : Program} {H : Hp} {h : Heap} {a : Addr} {l : List Str} (R : SetS P w h a l) : ObjOk P w H h a (SetSO P w a l) := by
  have ⟨D, ho, _⟩ := R
  exact ⟨R, ⟨_, ho⟩, fun h1 h2 p k => SetS.at p k⟩
def rSetOf (K : PySem.W.Frag) (P : Program) (w : World) : List V → Hp → VK → Prop := fun xs H Q => ∃ (t : Addr) (ys : List Str), xs = [V.ref t] ∧ SqT K H t (ys.map V.str) ∧ ys.length ≤ 1000 ∧
  ∀ a l, H a = none → l.length ≤ ys.length → (∀ x, x ∈ l ↔ x ∈ ys) → Q (.ref a) (upd H a (SetSO P w a l))
theorem cr_setOf (hc : X.calm = true) : CallR X (.type "set") (rSetOf X.K X.prog X.w) := by
  intro pins s σ H xs us Q I r h
  obtain ⟨t, ys, rfl, ht, hl, q⟩ := h
  rw [Vals.ref1 r]
  obtain ⟨its, rv, pt, hz⟩ := I.tuple ht
  refine set_of_tup (P := X.prog) (w := X.w) (items := its.toArray) (xs := ys) (I.ok.hd hc) pt (by simpa using strsAre_of rv) (by unfold scanBound; omega) fun h' tk l R hm hll k => ?_
  exact ⟨.ref s.heap.objs.size, upd H s.heap.objs.size (SetSO X.prog X.w s.heap.objs.size l), I.laid (t' := tk) k (Nat.le_refl _) (setSO_new R), rfl, q _ l (I.hok.fresh (Nat.le_refl _)) hll hm⟩
def rSortedSet (P : Program) (w : World) : List V → Hp → VK → Prop := fun vs H Q => ∃ (a : Addr) (l : List Str), vs = [V.ref a] ∧ H a = some (SetSO P w a l) ∧ l.length < 64 ∧
  ∀ (ys : List Str) (p : Addr), PyProof.Rows.sortedS ys = true → (∀ x, x ∈ ys ↔ x ∈ l) → ys.Nodup → H p = none → Q (.ref p) (upd H p (.lst (ys.map V.str)))
theorem cr_sortedOf (hc : X.calm = true) : CallR X (.builtin "sorted") (rSortedSet X.prog X.w) := by
  intro pins s σ H vs us Q I r h
  obtain ⟨a, l, rfl, ha, h64, q⟩ := h
  have R : SetS X.prog X.w s.heap a l := (I.hok a _ ha).1
  rw [Vals.ref1 r]
  refine sorted_setS R (I.ok.hd hc) h64 fun s' p out c ys k g o hp hg hi hs hm nd => ?_
  have hyl : ys.length ≤ l.length := by
    have := (perm_of_few (l := ys) (m := ys) nd (fun x hx => hx) (Nat.le_refl _)).length_eq
    have sub : ∀ x ∈ ys, x ∈ l := fun x hx => (hm x).mp hx
    by_cases z : l.length ≤ ys.length
    · exact Nat.le_of_eq (perm_of_few nd sub z).length_eq.symm
    · omega
  have hlen : (ys.map V.str).length ≤ sizeLine := by rw [List.length_map, sizeLine_eq]; omega
  have hn : H p = none := I.hok.fresh hp
  have J : Inv X pins σ (upd H p (.lst (ys.map V.str))) { s with heap := s'.heap, gens := s'.gens, drawn := s'.drawn, toks := s'.toks } :=
    I.call (ch := []) (Un.laid k hp hn) (I.hok.laid k hp ⟨hlen, out.toList, c, vals_of_strs hi, hg⟩) (by rw [g]; exact I.bare) (fun _ z => nomatch z)
  have e : s' = { s with heap := s'.heap, gens := s'.gens, drawn := s'.drawn, toks := s'.toks } := by
    cases s'
    cases s
    cases o
    rfl
  rw [e]
  exact ⟨.ref p, _, J, rfl, q ys p hs hm nd hn⟩
end
/-! ### the one order of texts -/
def ltS (a b : Str) : Prop := ltCps a.cps.toList b.cps.toList = true
theorem ltCps_irr : ∀ a : List Nat, ltCps a a = false
  | [] => rfl
  | a :: r => by simp [ltCps, ltCps_irr r]
theorem ltCps_tot : ∀ a b : List Nat, ltCps a b = false → ltCps b a = false → a = b
  | [], [], _, _ => rfl
  | [], _ :: _, h, _ => by cases h
  | _ :: _, [], _, h => by cases h
  | a :: r, b :: t, h, h' => by
    simp [ltCps] at h h'
    obtain ⟨h1, h2⟩ := h
    obtain ⟨h3, h4⟩ := h'
    obtain rfl : a = b := by omega
    rw [ltCps_tot r t (h2 rfl) (h4 rfl)]
theorem ltCps_trans : ∀ a b c : List Nat, ltCps a b = true → ltCps b c = true → ltCps a c = true
  | [], _, [], _, h => by rename_i b _; cases b <;> cases h
  | [], _, _ :: _, _, _ => rfl
  | _ :: _, [], _, h, _ => by cases h
  | _ :: _, _ :: _, [], _, h => by cases h
  | a :: r, b :: t, c :: u, h, h' => by
    simp [ltCps] at h h' ⊢
    rcases h with h | ⟨h, h2⟩ <;> rcases h' with h' | ⟨h', h3⟩
    · exact .inl (by omega)
    · exact .inl (by omega)
    · exact .inl (by omega)
    · exact .inr ⟨by omega, ltCps_trans r t u h2 h3⟩
theorem ltS_trans {a b c : Str} (h : ltS a b) (h' : ltS b c) : ltS a c := ltCps_trans _ _ _ h h'
theorem ltS_irr {a : Str} (h : ltS a a) : False := by
  have := ltCps_irr a.cps.toList
  unfold ltS at h
  rw [h] at this
  cases this
theorem ltS_tot {a b : Str} (h : ¬ ltS a b) (h' : ¬ ltS b a) : a = b := by
  have e := ltCps_tot a.cps.toList b.cps.toList (Bool.eq_false_iff.mpr h) (Bool.eq_false_iff.mpr h')
  cases a; cases b
  simp at e
  rw [e]
instance (a b : Str) : Decidable (ltS a b) := by unfold ltS; infer_instance
theorem sorted_strict : ∀ {ys : List Str}, PyProof.Rows.sortedS ys = true → ys.Nodup → ys.Pairwise ltS
  | [], _, _ => .nil
  | x :: r, h, nd => by
    have go : ∀ (p : Str) (r : List Str), PyProof.Rows.risingS p r = true → (p :: r).Nodup → (p :: r).Pairwise ltS := by
      intro p r
      induction r generalizing p with
      | nil => intro _ _; exact List.pairwise_singleton _ _
      | cons y r ih =>
        intro h nd
        have h' : (!ltCps y.cps.toList p.cps.toList && PyProof.Rows.risingS y r) = true := h
        rw [Bool.and_eq_true, Bool.not_eq_true'] at h'
        obtain ⟨n1, n2⟩ := List.nodup_cons.mp nd
        have pw := ih y h'.2 n2
        have lt : ltS p y := by
          by_cases z : ltS p y
          · exact z
          · have e : p = y := ltS_tot z (by unfold ltS; rw [h'.1]; decide)
            exact absurd (e ▸ List.mem_cons_self) n1
        refine List.pairwise_cons.mpr ⟨fun z hz => ?_, pw⟩
        rcases List.mem_cons.mp hz with e | hz
        · rw [e]; exact lt
        · exact ltS_trans lt ((List.pairwise_cons.mp pw).1 z hz)
    exact go x r h nd
theorem strict_one : ∀ {xs ys : List Str}, xs.Pairwise ltS → ys.Pairwise ltS → (∀ x, x ∈ xs ↔ x ∈ ys) → xs = ys
  | [], [], _, _, _ => rfl
  | [], y :: _, _, _, h => absurd ((h y).mpr List.mem_cons_self) List.not_mem_nil
  | x :: _, [], _, _, h => absurd ((h x).mp List.mem_cons_self) List.not_mem_nil
  | x :: xs, y :: ys, h1, h2, h => by
    obtain ⟨a1, a2⟩ := List.pairwise_cons.mp h1
    obtain ⟨b1, b2⟩ := List.pairwise_cons.mp h2
    have e : x = y := by
      rcases List.mem_cons.mp ((h x).mp List.mem_cons_self) with e | hx
      · exact e
      · rcases List.mem_cons.mp ((h y).mpr List.mem_cons_self) with e | hy
        · exact e.symm
        · exact absurd (ltS_trans (a1 y hy) (b1 x hx)) ltS_irr
    subst e
    rw [strict_one a2 b2 fun z => ?_]
    constructor
    · intro hz
      rcases List.mem_cons.mp ((h z).mp (List.mem_cons_of_mem _ hz)) with e | q
      · exact absurd (e ▸ a1 z hz) ltS_irr
      · exact q
    · intro hz
      rcases List.mem_cons.mp ((h z).mpr (List.mem_cons_of_mem _ hz)) with e | q
      · exact absurd (e ▸ b1 z hz) ltS_irr
      · exact q
def insS (x : Str) : List Str → List Str
  | [] => [x]
  | y :: r => if ltS x y then x :: y :: r else if x = y then y :: r else y :: insS x r
/-- the texts of a list, each once, in their order -/
def canon (l : List Str) : List Str := l.foldr insS []
theorem mem_insS {x z : Str} : ∀ {l : List Str}, z ∈ insS x l ↔ z = x ∨ z ∈ l
  | [] => by simp [insS]
  | y :: r => by
    unfold insS
    split
    · exact List.mem_cons
    · split
      · rename_i e
        subst e
        exact ⟨.inr, fun h => h.elim (fun e => e ▸ List.mem_cons_self) id⟩
      · rw [List.mem_cons, mem_insS, List.mem_cons]
        constructor
        · rintro (h | h | h)
          · exact .inr (.inl h)
          · exact .inl h
          · exact .inr (.inr h)
        · rintro (h | h | h)
          · exact .inr (.inl h)
          · exact .inl h
          · exact .inr (.inr h)
theorem insS_strict {x : Str} : ∀ {l : List Str}, l.Pairwise ltS → (insS x l).Pairwise ltS
  | [], _ => List.pairwise_singleton _ _
  | y :: r, h => by
    obtain ⟨a1, a2⟩ := List.pairwise_cons.mp h
    unfold insS
    split
    · rename_i c
      refine List.pairwise_cons.mpr ⟨fun z hz => ?_, h⟩
      rcases List.mem_cons.mp hz with e | hz
      · rw [e]; exact c
      · exact ltS_trans c (a1 z hz)
    · split
      · exact h
      · rename_i c e
        refine List.pairwise_cons.mpr ⟨fun z hz => ?_, insS_strict a2⟩
        rcases mem_insS.mp hz with q | q
        · rw [q]
          by_cases z : ltS y x
          · exact z
          · exact absurd (ltS_tot c z) e
        · exact a1 z q
theorem mem_canon {z : Str} {l : List Str} : z ∈ canon l ↔ z ∈ l := by
  induction l with
  | nil => exact Iff.rfl
  | cons x l ih =>
    show z ∈ insS x (canon l) ↔ _
    rw [mem_insS, ih, List.mem_cons]
theorem canon_strict (l : List Str) : (canon l).Pairwise ltS := by
  induction l with
  | nil => exact .nil
  | cons x l ih => exact insS_strict ih
theorem canon_is {ys l : List Str} (h : PyProof.Rows.sortedS ys = true) (nd : ys.Nodup) (m : ∀ x, x ∈ ys ↔ x ∈ l) : ys = canon l :=
  strict_one (sorted_strict h nd) (canon_strict l) fun x => (m x).trans mem_canon.symm
theorem canon_len (l : List Str) : (canon l).length ≤ l.length := by
  induction l with
  | nil => exact Nat.le_refl _
  | cons x l ih =>
    have e : ∀ m : List Str, (insS x m).length ≤ m.length + 1 := by
      intro m
      induction m with
      | nil => exact Nat.le_refl _
      | cons y r ih =>
        unfold insS
        split
        · exact Nat.le_refl _
        · split
          · exact Nat.le_succ _
          · exact Nat.succ_le_succ ih
    exact Nat.le_trans (e _) (Nat.succ_le_succ ih)
/-! ### there_with -/
theorem kds_shown {K : PySem.W.Frag} {σ : L2.St} {H : Hp} {D b1 : Addr} {l1 : List V} {ks : List Kd} {i : Nat} {te : TE} {Qd : Hp → Prop} (g1 : H b1 = some (.lst l1)) (r1 : All2 (KdAt K H) ks l1) (hz : ks.length ≤ 1000000) (hD : H D = none)
    (hw : ∀ v : V, wipe ((wipe σ [i]).set i (some v)) [i] = wipe σ [i])
    (hh : ∀ (k : Kd) (v : V) (H2 : Hp) (Q : VK), k ∈ ks → Same H H2 → KdAt K H2 k v → Q (.str (shown k)) H2 → te ((wipe σ [i]).set i (some v)) H2 Q)
    (hd : ∀ H2, Same H H2 → H2 D = some (.lst ((ks.map shown).map V.str)) → Qd H2) :
    ∃ W : Nat → Nat → Hp → Prop, (∃ m, W 0 m (upd H D (.lst []))) ∧ ∀ i' m H, W i' m H →
      ((Itl K b1).stop i' H ∧ Qd H) ∨ ((Itl K b1).go i' H ∧ ∃ Nx : Hp → Prop, (∀ H', Nx H' → ∃ m', m' < m ∧ W (i' + 1) m' H') ∧ ∀ x H', (Itl K b1).yld i' H x H' → gName i x (wipe σ [i]) H' fun σ2 H2 => wipe σ2 [i] = wipe σ [i] ∧ tYes σ2 H2 fun b H3 =>
        if b = true then te σ2 H3 fun y H4 => ∃ acc, H4 D = some (.lst acc) ∧ acc.length < sizeLine ∧ Nx (upd H4 D (.lst (acc ++ [y]))) else Nx H3) := by
  have m1 := r1.length
  refine lc_build (K := K) (walk_list (xs := l1)) (fun _ (t : Str) v => v = V.str t) (ks.map shown) (by rw [List.length_map]; exact m1.symm) (by omega) hD (fun H s => .of (s _ _ g1)) (fun j b x H2 H3 Q2 hb s2 hY q2 => ?_) (fun H2 ys s2 gD rD => ?_)
  · obtain ⟨rfl, hx⟩ := hY
    obtain ⟨e, he, rfl⟩ := get_map hb
    obtain ⟨x', hx', pe⟩ := r1.get he
    obtain rfl : x' = x := Option.some.inj (hx'.symm.trans hx)
    exact ⟨hw _, hh e _ H3 Q2 (List.mem_of_getElem? he) s2 (pe.same s2) (q2 _ H3 (.refl _) fun _ _ => rfl)⟩
  · have e := All2.eqmap (rD H2 (.self s2))
    exact hd H2 s2 (by rw [gD, e])
section
variable {P : Program} {w : World} {K : PySem.W.Frag} {mg : Str → Option Value} {base : Heap}
def spThere (K : PySem.W.Frag) : Sp := fun vs H Q _ => ∃ (t b : Addr) (th : List Str) (ks : List Kd) (ws : List V), vs = [.ref t, .ref b] ∧ SqT K H t (th.map V.str) ∧ H b = some (.lst ws) ∧ All2 (KdAt K H) ks ws ∧ (∀ k ∈ ks, k.depth ≤ 12 ∧ k.leaves ≤ 24) ∧ th.length + ks.length < 64 ∧
  ∀ H' u, Same H H' → SqT K H' u ((canon (th ++ ks.map shown)).map V.str) → Q (.ref u) H'
theorem ok_there (T : Tx w K mg) : Df P w K mg base CX0 20 "there_with" ["there", "kinds"] [] (spThere K) := by
  have GS := (ok_shown (P := P) (base := base) T 13).mono (show 13 ≤ 19 by omega)
  refine df0 T.d_there_with T.g_there_with sc_there_with (fun _ _ _ _ _ _ us hl => match us, hl with | [_, _], _ => rfl) (fun vs H Q E h => ?_) (fun cdv A outer s H vs Q E hr h => ?_)
  · obtain ⟨t, b, th, ks, ws, rfl, _⟩ := h
    rfl
  obtain ⟨t, b, th, ks, ws, rfl, ht, hb, hk, hkd, hz, q⟩ := h
  refine ⟨_, (pss_one (ps_ret (pe_callTy call_tuple_of rfl T.n_tuple (by decide +kernel) (pa_cons (pe_callB (cr_sortedOf rfl) rfl T.n_sorted (by decide +kernel) (pa_cons (pe_callTy (cr_setOf rfl) rfl T.n_set (by decide +kernel) (pa_cons (pe_op op_catA (pv 0)
      (pe_callTy call_tuple_of rfl T.n_tuple (by decide +kernel) (pa_cons (pe_lc (own := [("kind", 2)]) (g := gName 2) (tt := tYes) (te := tCall (spShown K 13) [] E0 (tCons (tVar 2) tNil)) rfl sc_there_with.nd (pi_list (pv 1)) (blkOk_by (own := [("kind", 2)]) (N := ["there", "kinds", "kind"]) (sc := defScope s_there_with) (by decide +kernel))
        (fun _ _ _ _ _ => pg_name (i := 2) sc_there_with.nd rfl (Or.inl rfl)) (fun _ _ _ _ _ => pts_nil) (fun _ _ _ _ _ => cal GS hr pass0 (pa_cons (pv 2) pa_nil))) pa_nil))) pa_nil)) pa_nil)) pa_nil)))), ?_⟩
  refine ⟨_, rfl, _, rfl, b, rfl, ⟨_, .of hb⟩, fun D hD => ?_⟩
  refine kds_shown hb hk (by omega) hD (fun _ => rfl) (fun k v H2 Q2 hm s2 hv q2 => ⟨_, rfl, v, k, rfl, hv, by have := (hkd k hm).1; omega, by have := (hkd k hm).2; omega, q2⟩) fun H2 s2 gD => ?_
  refine ⟨D, _, rfl, .inl ⟨.of gD, fun d hd => ?_⟩⟩
  have s3 := same_new hd (.tup ((ks.map shown).map V.str))
  have s23 := s2.trans s3
  have zl : (ks.map shown).length = ks.length := List.length_map _
  have fin : ∀ (Q' : VK) (p : Addr) (H3 : Hp), Same H H3 → SqT K H3 p ((th ++ ks.map shown).map V.str) → (∀ H' u, Same H H' → SqT K H' u ((canon (th ++ ks.map shown)).map V.str) → Q' (.ref u) H') →
      rSetOf K P w [.ref p] H3 fun v H4 => rSortedSet P w [v] H4 fun v H5 => ∃ p ys, [v] = [.ref p] ∧ ((SqL K H5 p ys ∧ ∀ l, H5 l = none → Q' (.ref l) (upd H5 l (.tup ys))) ∨ (SqT K H5 p ys ∧ Q' (.ref p) H5)) := fun Q' p H3 s h q' => by
    refine ⟨p, _, rfl, h, by rw [List.length_append]; omega, fun a l ha hl hm => ⟨a, l, rfl, upd_same, by rw [List.length_append] at hl; omega, fun ys r h1 h2 h3 h4 => ⟨r, _, rfl, .inl ⟨.of upd_same, fun c hc => ?_⟩⟩⟩⟩
    have e : ys = canon (th ++ ks.map shown) := canon_is h1 h3 fun x => (h2 x).trans (hm x)
    rw [e] at hc ⊢
    exact q' _ _ (s.trans ((same_new ha _).trans ((same_new h4 _).trans (same_new hc _)))) (.of upd_same)
  have ht3 := s23.tup ht
  refine ⟨t, d, _, _, rfl, rfl, ht3, .of upd_same, by rw [List.length_map, List.length_map, zl]; exact small (by omega), ?_⟩
  refine ⟨fun e => fin _ d _ s23 ?_ q, fun _ e => fin _ t _ s23 ?_ q, fun _ _ c hc => fin _ c _ (s23.trans (same_new hc _)) ?_ q⟩
  · have e' : th = [] := List.map_eq_nil_iff.mp e
    rw [e']
    exact .of upd_same
  · have e2 : (th ++ ks.map shown).map V.str = th.map V.str := by rw [List.map_append, e, List.append_nil]
    rw [e2]
    exact ht3
  · rw [List.map_append]
    exact .of upd_same
end
end KF

set_option Elab.async false
set_option linter.all false
set_option maxRecDepth 100000
set_option maxHeartbeats 4000000
namespace KF
open PySem PySem.Spec L2 TL
/-! ### texts of kinds tell the kind -/
theorem toks_inj : ∀ {k l : Kd} {r s : List Str}, toks k ++ r = toks l ++ s → k = l ∧ r = s := by
  have t1 : ∀ m, mstr m ≠ ("1" : Str) := fun m => by cases m <;> decide +kernel
  have t2 : ∀ m, mstr m ≠ ("(" : Str) := fun m => by cases m <;> decide +kernel
  have t3 : ("1" : Str) ≠ ("(" : Str) := by decide +kernel
  have t4 : ("->" : Str) ≠ ("*" : Str) := by decide +kernel
  intro k
  induction k with
  | one =>
    intro l r s h
    cases l with
    | one => exact ⟨rfl, (List.cons.inj h).2⟩
    | mark m => exact absurd (List.cons.inj h).1.symm (t1 m)
    | to a b => exact absurd (List.cons.inj h).1 t3
    | both a b => exact absurd (List.cons.inj h).1 t3
  | mark m =>
    intro l r s h
    cases l with
    | one => exact absurd (List.cons.inj h).1 (t1 m)
    | mark n => rw [mstr_inj (List.cons.inj h).1]; exact ⟨rfl, (List.cons.inj h).2⟩
    | to a b => exact absurd (List.cons.inj h).1 (t2 m)
    | both a b => exact absurd (List.cons.inj h).1 (t2 m)
  | to a b ha hb =>
    intro l r s h
    cases l with
    | one => exact absurd (List.cons.inj h).1.symm t3
    | mark n => exact absurd (List.cons.inj h).1.symm (t2 n)
    | to c d =>
      have h1 : toks a ++ (("->" : Str) :: (toks b ++ [(")" : Str)]) ++ r) = toks c ++ (("->" : Str) :: (toks d ++ [(")" : Str)]) ++ s) := (List.append_assoc _ _ _).symm.trans ((List.cons.inj h).2.trans (List.append_assoc _ _ _))
      obtain ⟨e1, h2⟩ := ha h1
      have h3 : toks b ++ ([(")" : Str)] ++ r) = toks d ++ ([(")" : Str)] ++ s) := (List.append_assoc _ _ _).symm.trans ((List.cons.inj h2).2.trans (List.append_assoc _ _ _))
      obtain ⟨e2, h4⟩ := hb h3
      rw [e1, e2]
      exact ⟨rfl, (List.cons.inj h4).2⟩
    | both c d =>
      have h1 : toks a ++ (("->" : Str) :: (toks b ++ [(")" : Str)]) ++ r) = toks c ++ (("*" : Str) :: (toks d ++ [(")" : Str)]) ++ s) := (List.append_assoc _ _ _).symm.trans ((List.cons.inj h).2.trans (List.append_assoc _ _ _))
      obtain ⟨e1, h2⟩ := ha h1
      exact absurd (List.cons.inj h2).1 t4
  | both a b ha hb =>
    intro l r s h
    cases l with
    | one => exact absurd (List.cons.inj h).1.symm t3
    | mark n => exact absurd (List.cons.inj h).1.symm (t2 n)
    | to c d =>
      have h1 : toks a ++ (("*" : Str) :: (toks b ++ [(")" : Str)]) ++ r) = toks c ++ (("->" : Str) :: (toks d ++ [(")" : Str)]) ++ s) := (List.append_assoc _ _ _).symm.trans ((List.cons.inj h).2.trans (List.append_assoc _ _ _))
      obtain ⟨e1, h2⟩ := ha h1
      exact absurd (List.cons.inj h2).1.symm t4
    | both c d =>
      have h1 : toks a ++ (("*" : Str) :: (toks b ++ [(")" : Str)]) ++ r) = toks c ++ (("*" : Str) :: (toks d ++ [(")" : Str)]) ++ s) := (List.append_assoc _ _ _).symm.trans ((List.cons.inj h).2.trans (List.append_assoc _ _ _))
      obtain ⟨e1, h2⟩ := ha h1
      have h3 : toks b ++ ([(")" : Str)] ++ r) = toks d ++ ([(")" : Str)] ++ s) := (List.append_assoc _ _ _).symm.trans ((List.cons.inj h2).2.trans (List.append_assoc _ _ _))
      obtain ⟨e2, h4⟩ := hb h3
      rw [e1, e2]
      exact ⟨rfl, (List.cons.inj h4).2⟩
theorem shown_inj {k l : Kd} (h : shown k = shown l) : k = l := by
  have e : toks k = toks l := by rw [← split_shown, ← split_shown, h]
  exact (toks_inj (r := []) (s := []) (by rw [List.append_nil, List.append_nil]; exact e)).1
open Classical in
/-- the kind that a text shows -/
noncomputable def kdOf (t : Str) : Kd := if h : ∃ k, shown k = t then Classical.choose h else .one
theorem kdOf_shown (k : Kd) : kdOf (shown k) = k := by
  unfold kdOf
  have h : ∃ l, shown l = shown k := ⟨k, rfl⟩
  rw [dif_pos h]
  exact shown_inj (Classical.choose_spec h)
theorem shown_59 (k : Kd) : ∀ c ∈ tl (shown k), c ≠ 59 := by
  have e1 : tl (Str.ofString "( ") = [40, 32] := by rw [tl_lit]; rfl
  have e2 : tl (Str.ofString " )") = [32, 41] := by rw [tl_lit]; rfl
  have e3 : tl (Str.ofString " ") = [32] := by rw [tl_lit]; rfl
  have e4 : tl (Str.ofString "->") = [45, 62] := by rw [tl_lit]; rfl
  have e5 : tl (Str.ofString "*") = [42] := by rw [tl_lit]; rfl
  induction k with
  | one =>
    intro c hc
    have e : tl (shown .one) = [49] := by show tl (Str.ofString "1") = _; rw [tl_lit]; rfl
    rw [e] at hc
    simp at hc
    omega
  | mark m =>
    intro c hc
    have e : tl (shown (.mark m)) = [if m then 98 else 97] := by
      cases m
      · show tl (Str.ofString "a") = _; rw [tl_lit]; rfl
      · show tl (Str.ofString "b") = _; rw [tl_lit]; rfl
    rw [e] at hc
    simp at hc
    subst hc
    split <;> decide
  | to a b h h' =>
    intro c hc
    rw [shown] at hc
    simp only [tl_append, e1, e2, e3, e4, e5, List.mem_append, List.mem_cons, List.not_mem_nil, or_false] at hc
    have ha := h c
    have hb := h' c
    rcases hc with (((((hc | hc) | hc) | hc) | hc) | hc) | hc
    all_goals first | exact ha hc | exact hb hc | omega
  | both a b h h' =>
    intro c hc
    rw [shown] at hc
    simp only [tl_append, e1, e2, e3, e4, e5, List.mem_append, List.mem_cons, List.not_mem_nil, or_false] at hc
    have ha := h c
    have hb := h' c
    rcases hc with (((((hc | hc) | hc) | hc) | hc) | hc) | hc
    all_goals first | exact ha hc | exact hb hc | omega
theorem shown_ne (k : Kd) : tl (shown k) ≠ [] := by
  rw [shown_join]
  intro z
  have : ∀ t ∈ toks k, tl t ≠ [] := fun t ht => by
    have h : ∀ t ∈ tokSet, tl t ≠ [] := by decide +kernel
    exact h t (toks_in k t ht)
  cases e : toks k with
  | nil => exact toks_ne k e
  | cons t r =>
    rw [e] at z this
    cases r with
    | nil => exact this t List.mem_cons_self z
    | cons u r =>
      have z' : tl t ++ ([32] ++ joinL [32] ((u :: r).map tl)) = [] := z
      exact this t List.mem_cons_self (List.append_eq_nil_iff.mp z').1
/-! ### rooms -/
abbrev Room := List Str × Bool
abbrev Line := Str × Nat × List Nat
def keyR (r : Room) : Str := (Txt.join " ; " r.1 ++ " : ") ++ mstr r.2
/-- the texts of a room show kinds -/
def GoodT (th : List Str) : Prop := ∀ t ∈ th, ∃ k, t = shown k ∧ k.depth ≤ 12 ∧ k.leaves ≤ 24
theorem cut59 : ∀ {a b x y : List Nat}, (∀ c ∈ a, c ≠ 59) → (∀ c ∈ b, c ≠ 59) → a ++ 59 :: x = b ++ 59 :: y → a = b ∧ x = y
  | [], [], x, y, _, _, h => ⟨rfl, (List.cons.inj h).2⟩
  | [], c :: b, x, y, _, hb, h => absurd (List.cons.inj h).1.symm (hb c List.mem_cons_self)
  | c :: a, [], x, y, ha, _, h => absurd (List.cons.inj h).1 (ha c List.mem_cons_self)
  | c :: a, d :: b, x, y, ha, hb, h => by
    obtain ⟨e1, e2⟩ := List.cons.inj h
    obtain ⟨e3, e4⟩ := cut59 (fun z hz => ha z (List.mem_cons_of_mem _ hz)) (fun z hz => hb z (List.mem_cons_of_mem _ hz)) e2
    exact ⟨by rw [e1, e3], e4⟩
theorem joinL59 : ∀ {ps qs : List (List Nat)}, (∀ p ∈ ps, p ≠ [] ∧ ∀ c ∈ p, c ≠ 59) → (∀ p ∈ qs, p ≠ [] ∧ ∀ c ∈ p, c ≠ 59) → joinL [32, 59, 32] ps = joinL [32, 59, 32] qs → ps = qs
  | [], [], _, _, _ => rfl
  | [], [q], _, hq, h => absurd h.symm (hq q List.mem_cons_self).1
  | [], q :: q2 :: r, _, hq, h => by
    have h' : [] = q ++ ([32, 59, 32] ++ joinL [32, 59, 32] (q2 :: r)) := h
    exact absurd (List.append_eq_nil_iff.mp h'.symm).1 (hq q List.mem_cons_self).1
  | [p], [], hp, _, h => absurd h (hp p List.mem_cons_self).1
  | p :: p2 :: r, [], hp, _, h => by
    have h' : p ++ ([32, 59, 32] ++ joinL [32, 59, 32] (p2 :: r)) = [] := h
    exact absurd (List.append_eq_nil_iff.mp h').1 (hp p List.mem_cons_self).1
  | [p], [q], _, _, h => by rw [show p = q from h]
  | [p], q :: q2 :: r, hp, _, h => by
    have h' : p = q ++ ([32, 59, 32] ++ joinL [32, 59, 32] (q2 :: r)) := h
    exact absurd rfl ((hp p List.mem_cons_self).2 59 (by rw [h']; simp))
  | p :: p2 :: r, [q], _, hq, h => by
    have h' : p ++ ([32, 59, 32] ++ joinL [32, 59, 32] (p2 :: r)) = q := h
    exact absurd rfl ((hq q List.mem_cons_self).2 59 (by rw [← h']; simp))
  | p :: p2 :: r, q :: q2 :: s, hp, hq, h => by
    have h' : (p ++ [32]) ++ 59 :: (32 :: joinL [32, 59, 32] (p2 :: r)) = (q ++ [32]) ++ 59 :: (32 :: joinL [32, 59, 32] (q2 :: s)) := by
      have h2 : p ++ ([32, 59, 32] ++ joinL [32, 59, 32] (p2 :: r)) = q ++ ([32, 59, 32] ++ joinL [32, 59, 32] (q2 :: s)) := h
      simpa using h2
    have f : ∀ (u : List Nat), (∀ c ∈ u, c ≠ 59) → ∀ c ∈ u ++ [32], c ≠ 59 := fun u hu c hc => by
      rcases List.mem_append.mp hc with z | z
      · exact hu c z
      · simp at z; omega
    obtain ⟨e1, e2⟩ := cut59 (f p (hp p List.mem_cons_self).2) (f q (hq q List.mem_cons_self).2) h'
    have e3 : p = q := List.append_cancel_right e1
    have e4 := joinL59 (fun z hz => hp z (List.mem_cons_of_mem _ hz)) (fun z hz => hq z (List.mem_cons_of_mem _ hz)) (List.cons.inj e2).2
    rw [e3, e4]
theorem keyR_inj {r s : Room} (hr : GoodT r.1) (hs : GoodT s.1) (h : keyR r = keyR s) : r = s := by
  have e0 : tl (Str.ofString " ; ") = [32, 59, 32] := by rw [tl_lit]; rfl
  have e1 : tl (Str.ofString " : ") = [32, 58, 32] := by rw [tl_lit]; rfl
  have em : ∀ m, ∃ c, tl (mstr m) = [c] := fun m => by
    cases m
    · exact ⟨97, by show tl (Str.ofString "a") = _; rw [tl_lit]; rfl⟩
    · exact ⟨98, by show tl (Str.ofString "b") = _; rw [tl_lit]; rfl⟩
  have t := congrArg tl h
  unfold keyR at t
  rw [tl_append, tl_append, tl_append, tl_append, join_eq, join_eq, tl_join, tl_join, e0, e1] at t
  obtain ⟨c, hc⟩ := em r.2
  obtain ⟨d, hd⟩ := em s.2
  rw [hc, hd] at t
  obtain ⟨t1, t2⟩ := List.append_inj' t rfl
  obtain ⟨t3, _⟩ := List.append_inj' t1 rfl
  have hm : r.2 = s.2 := mstr_inj (ext_tl (by rw [hc, hd, t2]))
  have hg : ∀ {th : List Str}, GoodT th → ∀ p ∈ th.map tl, p ≠ [] ∧ ∀ c ∈ p, c ≠ 59 := fun {th} g p hp => by
    obtain ⟨x, hx, rfl⟩ := List.mem_map.mp hp
    obtain ⟨k, rfl, _⟩ := g x hx
    exact ⟨shown_ne k, shown_59 k⟩
  have e := map_tl_inj (joinL59 (hg hr) (hg hs) t3)
  cases r; cases s
  simp at e hm
  rw [e, hm]
/-! ### what the book does -/
def roomOf (th : List Str) (e : List Kd × Bool) : Room := (canon (th ++ e.1.map shown), e.2)
def numF (rooms : List Room) (th : List Str) (e : List Kd × Bool) : Nat × List Room := if roomOf th e ∈ rooms then (rooms.idxOf (roomOf th e), rooms) else (rooms.length, rooms ++ [roomOf th e])
def moveEnds (ms : List Mv) : List (List Kd × Bool) := ms.flatMap fun
  | .kd k => endsOf k
  | _ => []
def numStep (th : List Str) (s : List Nat × List Room) (e : List Kd × Bool) : List Nat × List Room := (s.1 ++ [(numF s.2 th e).1], (numF s.2 th e).2)
def numsF (th : List Str) (es : List (List Kd × Bool)) (rooms : List Room) : List Nat × List Room := es.foldl (numStep th) ([], rooms)
def wayStep (th : List Str) (m : Bool) (t : Str) (s : List Line × List Room) (p : (List Mv × Bool) × Nat) : List Line × List Room :=
  if p.1.2 = m then (s.1 ++ [(t, p.2, (numsF th (moveEnds p.1.1) s.2).1)], (numsF th (moveEnds p.1.1) s.2).2) else s
noncomputable def textStep (th : List Str) (m : Bool) (s : List Line × List Room) (t : Str) : List Line × List Room := (waysOf (kdOf t)).zipIdx.foldl (wayStep th m t) s
noncomputable def rowsF (r : Room) (rooms : List Room) : List Line × List Room := r.1.foldl (textStep r.1 r.2) ([], rooms)
noncomputable def fillF : Nat → List Room → List (List Line) → Option (List Room × List (List Line))
  | 0, _, _ => none
  | n + 1, rooms, rows => match rooms[rows.length]? with
    | none => some (rooms, rows)
    | some r => fillF n (rowsF r rooms).2 (rows ++ [(rowsF r rooms).1])
/-! ### == of a move and a number -/
def Mv.dat : Mv → PyData
  | .one => .int 1
  | .two => .int 2
  | .kd k => k.dat
theorem MvAt.dp {K : PySem.W.Frag} {H : Hp} {m : Mv} {v : V} (h : MvAt K H m v) : Dp K H v m.dat := by
  cases m with
  | one => obtain rfl : v = .int 1 := h; exact .int 1
  | two => obtain rfl : v = .int 2 := h; exact .int 2
  | kd k => exact KdAt.dp h
theorem Mv.lays (m : Mv) : m.dat.canLay0 = true := by
  cases m with
  | kd k => exact k.lays
  | _ => simp only [Mv.dat, PyData.canLay0]
theorem ev_int (k : Kd) (i : Int) : PyData.eqv k.dat (.int i) = false := by cases k <;> (rw [Kd.dat, PyData.eqv]) <;> (intros; rename_i z; cases z)
theorem mv_ev1 (m : Mv) : PyData.eqv m.dat (.int 1) = decide (m = .one) := by
  cases m with
  | one => rw [Mv.dat, PyData.eqv]; rfl
  | two => rw [Mv.dat, PyData.eqv]; rfl
  | kd k => rw [Mv.dat, ev_int, decide_eq_false fun z => by cases z]
theorem mv_ev2 (m : Mv) : PyData.eqv m.dat (.int 2) = decide (m = .two) := by
  cases m with
  | one => rw [Mv.dat, PyData.eqv]; rfl
  | two => rw [Mv.dat, PyData.eqv]; rfl
  | kd k => rw [Mv.dat, ev_int, decide_eq_false fun z => by cases z]
theorem Mv.lay_depth (m : Mv) (i : Int) : min m.dat.depth (PyData.int i).depth ≤ 300 := by
  have : (PyData.int i).depth = 0 := by rw [PyData.depth]
  omega
section
variable {X : Cx}
def rEqX (K : PySem.W.Frag) : R2 := fun x y H Q => ∃ d e, Dp K H x d ∧ Dp K H y e ∧ d.canLay0 = true ∧ e.canLay0 = true ∧ min d.depth e.depth ≤ 300 ∧ Q (.bl (PyData.eqv d e)) H
def rNeX (K : PySem.W.Frag) : R2 := fun x y H Q => ∃ d e, Dp K H x d ∧ Dp K H y e ∧ d.canLay0 = true ∧ e.canLay0 = true ∧ min d.depth e.depth ≤ 300 ∧ Q (.bl (!PyData.eqv d e)) H
theorem op_eqX (hu : X.A.units + 400 < cLine) : OpR X (compareOp .Eq) (rEqX X.K) := by
  intro pins s σ H x y v u Q I rx ry h
  obtain ⟨d, e, hd, he, ld, le, hm, q⟩ := h
  obtain ⟨as, r1⟩ := Dp.reads I d x v hd rx
  obtain ⟨bs, r2⟩ := Dp.reads I e y u he ry
  exact SeqAt.compareEq_reads r1 r2 ld le (by omega) ⟨.bl _, H, I, rfl, q⟩
theorem op_neX (hu : X.A.units + 400 < cLine) : OpR X (compareOp .NotEq) (rNeX X.K) := by
  intro pins s σ H x y v u Q I rx ry h
  obtain ⟨d, e, hd, he, ld, le, hm, q⟩ := h
  obtain ⟨as, r1⟩ := Dp.reads I d x v hd rx
  obtain ⟨bs, r2⟩ := Dp.reads I e y u he ry
  exact SeqAt.compareNe_reads r1 r2 ld le (by omega) ⟨.bl _, H, I, rfl, q⟩
end
theorem EnAt.nx {K : PySem.W.Frag} {H : Hp} {e : List Kd × Bool} {w : V} : EnAt K H e w → EnAt K H e w := id
theorem ts_grow {K : PySem.W.Frag} {H0 H1 H'' : Hp} {fd : Addr} {l : List V} (s : Same H0 H1) (f : TS K H0 H'') (hf : H1 fd = some (.lst l)) (k : ∀ b o, b ≠ fd → H0 b = none → H1 b = some o → H'' b = some o) : TS K H1 H'' := fun a xs q => by
  have look : ∀ o, H1 a = some o → (∀ zs, o ≠ .lst zs) → H0 a = some o ∨ H'' a = some o := fun o q no => by
    cases z : H0 a with
    | none => exact .inr (k a o (by rintro rfl; rw [hf] at q; cases q; exact no _ rfl) z q)
    | some u => rw [s a u z] at q; cases q; exact .inl rfl
  rcases q with (q | ⟨o, q⟩) | q
  · rcases look _ q (by intro _ z; cases z) with z | z
    · exact f a xs (.inl (.inl z))
    · exact .inl (.inl z)
  · rcases look _ q (by intro _ z; cases z) with z | z
    · exact f a xs (.inl (.inr ⟨_, z⟩))
    · exact .inl (.inr ⟨_, z⟩)
  · exact .inr q
section
variable {P : Program} {w : World} {K : PySem.W.Frag} {mg : Str → Option Value} {base : Heap}
def spMoveEnds (K : PySem.W.Frag) : Sp := fun vs H Q _ => ∃ (b : Addr) (ms : List Mv) (ws : List V), vs = [.ref b] ∧ H b = some (.lst ws) ∧ All2 (MvAt K H) ms ws ∧ ms.length ≤ 30 ∧ (∀ k, Mv.kd k ∈ ms → k.depth ≤ 12 ∧ k.leaves ≤ 24) ∧ RtL K H Q (EnAt K) (moveEnds ms)
theorem moveEnds_snoc (ms : List Mv) (m : Mv) : moveEnds (ms ++ [m]) = moveEnds ms ++ moveEnds [m] := by unfold moveEnds; rw [List.flatMap_append]
theorem moveEnds_len {ms : List Mv} (h : ∀ k, Mv.kd k ∈ ms → k.leaves ≤ 24) : (moveEnds ms).length ≤ 24 * ms.length := by
  induction ms with
  | nil => exact Nat.le_refl _
  | cons m ms ih =>
    have i := ih fun k hk => h k (List.mem_cons_of_mem _ hk)
    have e : moveEnds (m :: ms) = moveEnds [m] ++ moveEnds ms := moveEnds_one m ms
    rw [e, List.length_append, List.length_cons]
    have : (moveEnds [m]).length ≤ 24 := by
      cases m with
      | kd k =>
        have := endsOf_le k
        have := h k List.mem_cons_self
        have e2 : moveEnds [.kd k] = endsOf k := by unfold moveEnds; simp
        rw [e2]; omega
      | _ => unfold moveEnds; simp
    omega
where moveEnds_one (m : Mv) (ms : List Mv) : moveEnds (m :: ms) = moveEnds [m] ++ moveEnds ms := by unfold moveEnds; simp
theorem ok_moveEnds (T : Tx w K mg) : Df P w K mg base CX0 20 "move_ends" ["moves"] [] (spMoveEnds K) := by
  have GE := (ok_ends (P := P) (base := base) T 13).mono (show 13 ≤ 19 by omega)
  refine df0 T.d_move_ends T.g_move_ends sc_move_ends (fun _ _ _ _ _ _ us hl => match us, hl with | [_], _ => rfl) (fun vs H Q E h => ?_) (fun cdv A outer s H vs Q E hr h => ?_)
  · obtain ⟨b, ms, ws, rfl, _⟩ := h
    rfl
  obtain ⟨b, ms, ws, rfl, hb, hm, hz, hkd, q⟩ := h
  refine ⟨_, (pss_cons (ps_set (i := 1) sc_move_ends.nd rfl (.inl rfl) (pe_lst pa_nil)) (pss_cons (ps_for PassesOwn.never rfl (pi_list (pv 0)) (pg_name (i := 2) sc_move_ends.nd rfl (Or.inl rfl))
      (pss_one (ps_if (PW.pt (pw_and (pt_cmpR (op_neX hr.u) (pv 2) pe_int (nomark _)) (pw_and1 (pt_cmpR (op_neX hr.u) (pv 2) pe_int (nomark _))))) (pss_one (ps_expr (pe_bm PySem.F.plainAttrs_list PySem.F.slot_list_extend PySem.F.type_list_extend mt_extend (pv 1) (pa_cons (cal GE hr pass0 (pa_cons (pv 2) pa_nil)) pa_nil)))) pss_nil))) (pss_one (ps_ret (pv 1))))), ?_⟩
  refine ⟨sz0, fun fd hfd => ?_⟩
  have s0 := same_new hfd (.lst [])
  have lm := hm.length
  have nbf : b ≠ fd := ne_of_none hb hfd
  refine ⟨_, rfl, b, rfl, ⟨_, .of (s0 _ _ hb)⟩, for_list (xs := ws) (fun i σ H1 => Same H H1 ∧ (∃ z, σ = [some (.ref b), some (.ref fd), z]) ∧ ∃ acc, H1 fd = some (.lst acc) ∧ ∀ H'', TS K H H'' → (∀ c o, c ≠ fd → H c = none → H1 c = some o → H'' c = some o) → All2 (EnAt K H'') (moveEnds (ms.take i)) acc)
    ⟨s0, ⟨_, rfl⟩, [], upd_same, fun _ _ _ => trivial⟩ (fun i σ H1 _ h => .of (h.1 _ _ hb)) ?_ ?_⟩
  · rintro i x σ H1 hx ⟨s1, ⟨z, rfl⟩, acc, ha, hacc⟩
    have hil : i < ms.length := by rw [← lm]; exact (List.getElem?_eq_some_iff.mp hx).1
    have hq := List.getElem?_eq_getElem hil
    have hmem := List.getElem_mem hil
    obtain ⟨x', hx', pe⟩ := (hm.imp fun _ _ h => h.ts s1.ts).get hq
    obtain rfl : x' = x := Option.some.inj (hx'.symm.trans hx)
    have et : ms.take (i + 1) = ms.take i ++ [ms[i]] := by rw [List.take_succ, hq]; rfl
    refine ⟨_, rfl, _, _, pe.dp, .int 1, Mv.lays _, by simp only [PyData.canLay0], Mv.lay_depth _ _, _, rfl, ?_⟩
    rw [mv_ev1]
    rcases hc : ms[i] with _ | _ | k
    · refine ifF (by decide) (ifF rfl ⟨s1, ⟨_, rfl⟩, acc, ha, fun H'' f k => ?_⟩)
      rw [et, hc, moveEnds_snoc]
      exact (List.append_nil (moveEnds (ms.take i))).symm ▸ hacc H'' f k
    · refine ifT (by decide) ⟨_, rfl, _, _, pe.dp, .int 2, Mv.lays _, by simp only [PyData.canLay0], Mv.lay_depth _ _, _, rfl, ?_⟩
      rw [mv_ev2, hc]
      refine ifF (by decide) ⟨s1, ⟨_, rfl⟩, acc, ha, fun H'' f k => ?_⟩
      rw [et, hc, moveEnds_snoc]
      exact (List.append_nil (moveEnds (ms.take i))).symm ▸ hacc H'' f k
    · refine ifT (by rw [decide_eq_false fun z => by cases z]; rfl) ⟨_, rfl, _, _, pe.dp, .int 2, Mv.lays _, by simp only [PyData.canLay0], Mv.lay_depth _ _, _, rfl, ?_⟩
      rw [mv_ev2, hc]
      rw [hc] at pe hmem
      have hkd' := hkd k hmem
      refine ifT (by rw [decide_eq_false fun z => by cases z]; rfl) ⟨_, rfl, tyL ha, _, rfl, x', k, rfl, pe, by omega, by omega, fun a vs H2 s2 na ga ra => ?_⟩
      have ha2 := s2 _ _ ha
      have ra0 := (ra H2 (.self s2)).length
      have hac := (hacc H1 s1.ts fun _ _ _ _ q => q).length
      have len1 := moveEnds_len (ms := ms.take i) fun k hk => (hkd k (List.mem_of_mem_take hk)).2
      have len2 := endsOf_le k
      have hfd0 : H fd = none := hfd
      refine ⟨fd, a, acc, vs, rfl, rfl, ha2, ga, ?_, fun c o hc => ?_, ⟨_, rfl⟩, acc ++ vs, upd_same, fun H'' f kk => ?_⟩
      · rw [ra0, hac]
        rw [List.length_take] at len1
        exact small (by omega)
      · rw [upd_ne (ne_of_none hc hfd)]
        exact s2 _ _ (s1 _ _ hc)
      · have k2 : ∀ c o, c ≠ fd → H c = none → H2 c = some o → H'' c = some o := fun c o n1 n2 q => kk c o n1 n2 (by rw [upd_ne n1]; exact q)
        have k1 : ∀ c o, c ≠ fd → H c = none → H1 c = some o → H'' c = some o := fun c o n1 n2 q => k2 c o n1 n2 (s2 _ _ q)
        have old := hacc H'' f k1
        have new := ra H'' ⟨ts_grow s1 f ha k1, fun c o n1 q => k2 c o (by rintro rfl; rw [ha] at n1; cases n1) (s1.free n1) q⟩
        rw [et, hc, moveEnds_snoc]
        have e2 : moveEnds [.kd k] = endsOf k := by unfold moveEnds; simp
        rw [e2]
        exact old.append new
  · rintro σ H1 ⟨s1, ⟨z, rfl⟩, acc, ha, hacc⟩
    refine ⟨_, rfl, q fd acc H1 s1 hfd ha fun H'' x => ?_⟩
    have := hacc H'' x.ts fun c o _ n1 q => x.new c o n1 q
    rwa [lm, List.take_length] at this
end
end KF

set_option Elab.async false
set_option linter.all false
set_option maxRecDepth 100000
set_option maxHeartbeats 4000000
namespace KF
open PySem PySem.Spec L2 TL
/-! ### what stays, but at some places -/
def ButX (X : Addr → Prop) (H H' : Hp) : Prop := ∀ b o, ¬ X b → H b = some o → H' b = some o
theorem ButX.of {X : Addr → Prop} {H H' : Hp} (h : Same H H') : ButX X H H' := fun b o _ q => h b o q
theorem ButX.trans {X : Addr → Prop} {H H1 H2 : Hp} (h : ButX X H H1) (h' : ButX X H1 H2) : ButX X H H2 := fun b o n q => h' b o n (h b o n q)
theorem ButX.same {X : Addr → Prop} {H H1 H2 : Hp} (h : ButX X H H1) (h' : Same H1 H2) : ButX X H H2 := fun b o n q => h' b o (h b o n q)
theorem ButX.upd {X : Addr → Prop} {H : Hp} {a : Addr} {o : HO} (h : X a) : ButX X H (upd H a o) := fun b u n q => by rw [upd_ne (fun e => n (by rw [e]; exact h))]; exact q
theorem ButX.mono {X Y : Addr → Prop} {H H' : Hp} (h : ButX X H H') (s : ∀ a, X a → Y a) : ButX Y H H' := fun b o n q => h b o (fun z => n (s _ z)) q
theorem ButX.ts {K : PySem.W.Frag} {X : Addr → Prop} {H H' : Hp} (h : ButX X H H') (s : ∀ a o, X a → H a = some o → Soft o = true) : TS K H H' := fun b xs q => by
  rcases q with (q | ⟨o, q⟩) | q
  · exact .inl (.inl (h _ _ (fun z => by have := s _ _ z q; cases this) q))
  · exact .inl (.inr ⟨_, h _ _ (fun z => by have := s _ _ z q; cases this) q⟩)
  · exact .inr q
/-- the book's own things -/
def bx (r n q : Addr) (a : Addr) : Prop := a = r ∨ a = n ∨ a = q
def bkF (r n q : Addr) : List (Str × V) := [("rooms", .ref r), ("numbers", .ref n), ("rows", .ref q)]
theorem bkF_rooms (r n q : Addr) : (bkF r n q).lookup ("rooms" : Str) = some (.ref r) := by unfold bkF; rw [lookup_put, if_pos rfl]
theorem bkF_numbers (r n q : Addr) : (bkF r n q).lookup ("numbers" : Str) = some (.ref n) := by unfold bkF; rw [lookup_put, if_neg (by decide +kernel), lookup_put, if_pos rfl]
theorem bkF_rows (r n q : Addr) : (bkF r n q).lookup ("rows" : Str) = some (.ref q) := by unfold bkF; rw [lookup_put, if_neg (by decide +kernel), lookup_put, if_neg (by decide +kernel), lookup_put, if_pos rfl]
theorem bkF_no (r n q : Addr) {m : Str} (h1 : ¬ m = "rooms") (h2 : ¬ m = "numbers") (h3 : ¬ m = "rows") : (bkF r n q).lookup m = none := by unfold bkF; rw [lookup_put, if_neg h1, lookup_put, if_neg h2, lookup_put, if_neg h3]; rfl
def RmAt (K : PySem.W.Frag) (H : Hp) (x : Room) (v : V) : Prop := ∃ t u, v = .ref t ∧ SqT K H t [.ref u, .str (mstr x.2)] ∧ SqT K H u (x.1.map V.str)
theorem RmAt.ts {K : PySem.W.Frag} {H H' : Hp} (h : TS K H H') {x : Room} {v : V} : RmAt K H x v → RmAt K H' x v := fun ⟨t, u, e, q1, q2⟩ => ⟨t, u, e, h _ _ q1, h _ _ q2⟩
def LnAt (K : PySem.W.Frag) (X : Addr → Prop) (H : Hp) (x : Line) (v : V) : Prop := ∃ u a, v = .ref u ∧ SqT K H u [.str x.1, .int x.2.1, .ref a] ∧ ¬ X a ∧ H a = some (.lst (natV x.2.2))
def RwAt (K : PySem.W.Frag) (X : Addr → Prop) (H : Hp) (x : List Line) (v : V) : Prop := ∃ a vs, v = .ref a ∧ ¬ X a ∧ H a = some (.lst vs) ∧ All2 (LnAt K X H) x vs
theorem LnAt.but {K : PySem.W.Frag} {X : Addr → Prop} {H H' : Hp} (h : ButX X H H') (t : TS K H H') {x : Line} {v : V} : LnAt K X H x v → LnAt K X H' x v := fun ⟨u, a, e, q1, q2, q3⟩ => ⟨u, a, e, t _ _ q1, q2, h _ _ q2 q3⟩
theorem RwAt.but {K : PySem.W.Frag} {X : Addr → Prop} {H H' : Hp} (h : ButX X H H') (t : TS K H H') {x : List Line} {v : V} : RwAt K X H x v → RwAt K X H' x v := fun ⟨a, vs, e, q1, q2, q3⟩ => ⟨a, vs, e, q1, h _ _ q1 q2, q3.imp fun _ _ z => z.but h t⟩
structure BkAt (K : PySem.W.Frag) (X : Addr → Prop) (H : Hp) (s r n q : Addr) (rooms : List Room) (rows : List (List Line)) : Prop where
  obj : ∃ dx, H s = some (.ins (He.ga K "Book") dx (bkF r n q))
  rms : ∃ ws, H r = some (.lst ws) ∧ All2 (RmAt K H) rooms ws
  num : ∃ kvs, H n = some (.dK kvs) ∧ kvs.length ≤ rooms.length ∧ ∀ x : Room, GoodT x.1 → valV kvs (Sum.inr (keyR x) : Key) = if x ∈ rooms then some (.int (rooms.idxOf x : Nat)) else none
  row : ∃ qs, H q = some (.lst qs) ∧ All2 (RwAt K X H) rows qs
  ne : r ≠ q
  sub : ∀ a, bx r n q a → X a
theorem BkAt.soft {K : PySem.W.Frag} {X : Addr → Prop} {H : Hp} {s r n q : Addr} {rooms : List Room} {rows : List (List Line)} (b : BkAt K X H s r n q rooms rows) : ∀ a o, bx r n q a → H a = some o → Soft o = true := by
  obtain ⟨_, ⟨ws, h1, _⟩, ⟨kvs, h2, _⟩, ⟨qs, h3, _⟩, _⟩ := b
  rintro a o (rfl | rfl | rfl) e
  · rw [h1] at e; cases e; rfl
  · rw [h2] at e; cases e; rfl
  · rw [h3] at e; cases e; rfl
theorem BkAt.nr {K : PySem.W.Frag} {X : Addr → Prop} {H : Hp} {s r n q : Addr} {rooms : List Room} {rows : List (List Line)} (b : BkAt K X H s r n q rooms rows) : n ≠ r ∧ n ≠ q ∧ s ≠ r ∧ s ≠ n ∧ s ≠ q := by
  obtain ⟨⟨dx, h0⟩, ⟨ws, h1, _⟩, ⟨kvs, h2, _⟩, ⟨qs, h3, _⟩, _⟩ := b
  refine ⟨?_, ?_, ?_, ?_, ?_⟩
  · rintro rfl; rw [h1] at h2; cases h2
  · rintro rfl; rw [h3] at h2; cases h2
  · rintro rfl; rw [h1] at h0; cases h0
  · rintro rfl; rw [h2] at h0; cases h0
  · rintro rfl; rw [h3] at h0; cases h0
theorem BkAt.same {K : PySem.W.Frag} {X : Addr → Prop} {H H' : Hp} {s r n q : Addr} {rooms : List Room} {rows : List (List Line)} (b : BkAt K X H s r n q rooms rows) (h : Same H H') : BkAt K X H' s r n q rooms rows := by
  obtain ⟨⟨dx, h0⟩, ⟨ws, h1, w1⟩, ⟨kvs, h2, w2, w3⟩, ⟨qs, h3, w4⟩, ne, sub⟩ := b
  exact ⟨⟨dx, h _ _ h0⟩, ⟨ws, h _ _ h1, w1.imp fun _ _ z => z.ts h.ts⟩, ⟨kvs, h _ _ h2, w2, w3⟩, ⟨qs, h _ _ h3, w4.imp fun _ _ z => z.but (ButX.of h) h.ts⟩, ne, sub⟩
theorem BkAt.upd {K : PySem.W.Frag} {X : Addr → Prop} {H : Hp} {s r n q a : Addr} {o : HO} {rooms : List Room} {rows : List (List Line)} (b : BkAt K X H s r n q rooms rows) (ha : X a) (hn : ¬ bx r n q a) (hs : s ≠ a) (t : TS K H (upd H a o)) : BkAt K X (upd H a o) s r n q rooms rows := by
  obtain ⟨⟨dx, h0⟩, ⟨ws, h1, w1⟩, ⟨kvs, h2, w2, w3⟩, ⟨qs, h3, w4⟩, ne, sub⟩ := b
  have n1 : r ≠ a := fun e => hn (.inl e.symm)
  have n2 : n ≠ a := fun e => hn (.inr (.inl e.symm))
  have n3 : q ≠ a := fun e => hn (.inr (.inr e.symm))
  exact ⟨⟨dx, by rw [upd_ne hs]; exact h0⟩, ⟨ws, by rw [upd_ne n1]; exact h1, w1.imp fun _ _ z => z.ts t⟩, ⟨kvs, by rw [upd_ne n2]; exact h2, w2, w3⟩, ⟨qs, by rw [upd_ne n3]; exact h3, w4.imp fun _ _ z => z.but (ButX.upd ha) t⟩, ne, sub⟩
theorem LnAt.to {K : PySem.W.Frag} {X Y : Addr → Prop} {H : Hp} (h : ∀ a o, H a = some o → ¬ X a → ¬ Y a) {x : Line} {v : V} : LnAt K X H x v → LnAt K Y H x v := fun ⟨u, a, e, q1, q2, q3⟩ => ⟨u, a, e, q1, h a _ q3 q2, q3⟩
theorem RwAt.to {K : PySem.W.Frag} {X Y : Addr → Prop} {H : Hp} (h : ∀ a o, H a = some o → ¬ X a → ¬ Y a) {x : List Line} {v : V} : RwAt K X H x v → RwAt K Y H x v := fun ⟨a, vs, e, q1, q2, q3⟩ => ⟨a, vs, e, h a _ q2 q1, q2, q3.imp fun _ _ z => z.to h⟩
theorem BkAt.to {K : PySem.W.Frag} {X Y : Addr → Prop} {H : Hp} {s r n q : Addr} {rooms : List Room} {rows : List (List Line)} (b : BkAt K X H s r n q rooms rows) (h : ∀ a o, H a = some o → ¬ X a → ¬ Y a) (sub : ∀ a, bx r n q a → Y a) : BkAt K Y H s r n q rooms rows := by
  obtain ⟨⟨dx, h0⟩, ⟨ws, h1, w1⟩, ⟨kvs, h2, w2, w3⟩, ⟨qs, h3, w4⟩, ne, _⟩ := b
  exact ⟨⟨dx, h0⟩, ⟨ws, h1, w1⟩, ⟨kvs, h2, w2, w3⟩, ⟨qs, h3, w4.imp fun _ _ z => z.to h⟩, ne, sub⟩
/-- a list apart from the book's own -/
theorem BkAt.fresh {K : PySem.W.Frag} {X : Addr → Prop} {H : Hp} {s r n q : Addr} {rooms : List Room} {rows : List (List Line)} (b : BkAt K X H s r n q rooms rows) {a : Addr} (h : H a = none) : ¬ bx r n q a := by
  obtain ⟨_, ⟨ws, h1, _⟩, ⟨kvs, h2, _⟩, ⟨qs, h3, _⟩, _⟩ := b
  rintro (rfl | rfl | rfl)
  · rw [h1] at h; cases h
  · rw [h2] at h; cases h
  · rw [h3] at h; cases h
theorem putK_le {κ : Type} [DecidableEq κ] (c : List (κ × V)) (k : κ) (x : V) : (putK c k x).length ≤ c.length + 1 := by
  unfold putK
  split
  · rw [List.length_map]; exact Nat.le_succ _
  · rw [List.length_append]; exact Nat.le_refl _
theorem joinL_len (S : List Nat) : ∀ ps : List (List Nat), (joinL S ps).length ≤ (ps.map List.length).sum + ps.length * S.length
  | [] => Nat.zero_le _
  | [p] => by show p.length ≤ (p.length + 0) + 1 * S.length; omega
  | p :: q :: r => by
    have := joinL_len S (q :: r)
    show (p ++ (S ++ joinL S (q :: r))).length ≤ p.length + ((q :: r).map List.length).sum + (r.length + 1 + 1) * S.length
    rw [List.length_append, List.length_append, Nat.add_mul (r.length + 1) 1]
    have e : (q :: r).length = r.length + 1 := rfl
    rw [e] at this
    omega
theorem good_sum {th : List Str} (g : GoodT th) : (th.map (·.length)).sum ≤ 216 * th.length := by
  induction th with
  | nil => exact Nat.le_refl _
  | cons t th ih =>
    have i := ih fun x hx => g x (List.mem_cons_of_mem _ hx)
    obtain ⟨k, rfl, _, hk⟩ := g t List.mem_cons_self
    have := shown_len k
    show (shown k).length + (th.map (·.length)).sum ≤ 216 * (th.length + 1)
    omega
theorem good_join {th : List Str} (g : GoodT th) (hz : th.length ≤ 64) : (Txt.join " ; " th).length ≤ 100000 := by
  have h1 := good_sum g
  have e0 : tl (Str.ofString " ; ") = [32, 59, 32] := by rw [tl_lit]; rfl
  have e : (Txt.join " ; " th).length = (joinL [32, 59, 32] (th.map tl)).length := by rw [len_tl, join_eq, tl_join, e0]
  have := joinL_len [32, 59, 32] (th.map tl)
  have e2 : ((th.map tl).map List.length) = th.map (·.length) := by
    rw [List.map_map]
    exact List.map_congr_left fun x _ => (len_tl x).symm
  rw [e2, List.length_map] at this
  rw [e]
  have e3 : [32, 59, 32].length = 3 := rfl
  rw [e3] at this
  omega
theorem good_canon {th : List Str} {ks : List Kd} (g : GoodT th) (h : ∀ k ∈ ks, k.depth ≤ 12 ∧ k.leaves ≤ 24) : GoodT (canon (th ++ ks.map shown)) := fun t ht => by
  rcases List.mem_append.mp (mem_canon.mp ht) with q | q
  · exact g t q
  · obtain ⟨k, hk, rfl⟩ := List.mem_map.mp q
    exact ⟨k, rfl, h k hk⟩
theorem EnAt.ts' {K : PySem.W.Frag} {H H' : Hp} {e : List Kd × Bool} {v : V} (h : Same H H') : EnAt K H e v → EnAt K H' e v := fun ⟨t, y, e1, q1, q2⟩ => ⟨t, y, e1, h.tup q1, q2.same h fun _ _ z => z.same h⟩
section
variable {P : Program} {w : World} {K : PySem.W.Frag} {mg : Str → Option Value} {base : Heap}
def spNumber (K : PySem.W.Frag) : Sp := fun vs H Q _ => ∃ (X : Addr → Prop) (s r n q t : Addr) (ev : V) (th : List Str) (e : List Kd × Bool) (rooms : List Room) (rows : List (List Line)), vs = [.ref s, .ref t, ev] ∧ BkAt K X H s r n q rooms rows ∧ SqT K H t (th.map V.str) ∧ EnAt K H e ev ∧
  GoodT th ∧ (∀ k ∈ e.1, k.depth ≤ 12 ∧ k.leaves ≤ 24) ∧ th.length + e.1.length < 64 ∧ rooms.length ≤ 100000 ∧
  ∀ H', ButX (bx r n q) H H' → BkAt K X H' s r n q (numF rooms th e).2 rows → Q (.int (numF rooms th e).1) H'
theorem ok_number (T : Tx w K mg) : Dm P w K mg base CX0 21 "Book" "number" ["self", "there", "end"] (spNumber K) := by
  have GT := (ok_there (P := P) (base := base) T)
  refine dm0 T.d_Book_number T.cl_Book T.m_Book_number sc_Book_number (fun _ _ _ _ _ _ us hl => match us, hl with | [_, _, _], _ => rfl) (fun vs H Q E h => ?_) (fun cdv A outer sh H vs Q E hr h => ?_)
  · obtain ⟨X, s, r, n, q, t, ev, th, e, rooms, rows, rfl, _⟩ := h
    rfl
  obtain ⟨X, s, r, n, q, t, ev, th, e, rooms, rows, rfl, hb, ht, he, hg, hk, hz, hz2, fin⟩ := h
  refine ⟨_, (pss_cons (ps_asg (pv 2) (pg_tup rfl (pgs_cons (pg_name (i := 3) sc_Book_number.nd rfl (Or.inl rfl)) (pgs_cons (pg_name (i := 4) sc_Book_number.nd rfl (Or.inl rfl)) pgs_nil)))) (pss_cons (ps_set (i := 5) sc_Book_number.nd rfl (.inl rfl) (pe_tup (pa_cons (cal GT hr pass0 (pa_cons (pv 1) (pa_cons (pv 3) pa_nil))) (pa_cons (pv 4) pa_nil)))) (pss_cons (ps_set (i := 6) sc_Book_number.nd rfl (.inl rfl) (pe_op op_add_str (pe_op op_add_str (pe_join pe_str (pv_at 5 0)) pe_str) (pv 4))) (pss_cons (ps_if (pt_cmp (pc_dnotin hr.u1 (pv 6) (pe_fld (pv 0) rfl))) (pss_cons (ps_dput hr.u1 (pe_fld (pv 0) rfl) (pv 6) (pe_callB call_len_seq rfl T.n_len PySem.boot_len (pa_cons (pe_fld (pv 0) rfl) pa_nil)) rfl) (pss_one (ps_expr (pe_bm PySem.F.plainAttrs_list PySem.F.slot_list_append PySem.F.type_list_append mt_append (pe_fld (pv 0) rfl) (pa_cons (pv 5) pa_nil))))) pss_nil) (pss_one (ps_ret (pe_dget hr.u1 (pe_fld (pv 0) rfl) (pv 6) (fun _ _ => rfl)))))))), ?_⟩
  obtain ⟨te, y, rfl, hte, b, ws, rfl, gb, hws⟩ := he
  refine ⟨_, rfl, te, _, rfl, hte, rfl, _, _, rfl, _, _, rfl, rfl, ?_⟩
  refine ⟨_, rfl, _, rfl, t, b, th, e.1, ws, rfl, ht, gb, hws, hk, hz, fun H1 u s1 hu => ⟨_, rfl, sz2, fun c1 hc1 => ?_⟩⟩
  have s2 := same_new hc1 (.tup [.ref u, .str (mstr e.2)])
  have s12 := s1.trans s2
  have hu2 := s2.tup hu
  have gR : GoodT (roomOf th e).1 := good_canon hg hk
  have lR : (roomOf th e).1.length ≤ 64 := by have := canon_len (th ++ e.1.map shown); rw [List.length_append, List.length_map] at this; show (canon _).length ≤ 64; omega
  have jl := good_join gR lR
  have sm := good_sum gR
  have m1 := mstr_len e.2
  have l3 : (Str.ofString " ; ").length = 3 := by decide +kernel
  have l3' : (Str.ofString " : ").length = 3 := by decide +kernel
  have hb2 := hb.same s12
  refine ⟨⟨_, rfl⟩, _, rfl, c1, _, _, rfl, .of upd_same, rfl, _, u, (roomOf th e).1, rfl, rfl, .inr hu2, by rw [l3]; omega, _, _, rfl, rfl, by rw [l3']; exact small (by omega), _, rfl, _, _, rfl, rfl, by rw [len_app, l3', m1]; exact small (by omega), ?_⟩
  obtain ⟨⟨dx, g0⟩, ⟨rs, g1, a1⟩, ⟨kvs, g2, z2, a2⟩, ⟨qs, g3, a3⟩, ne, sub⟩ := id hb2
  obtain ⟨n1, n2, n3, n4, n5⟩ := hb2.nr
  have look := a2 (roomOf th e) gR
  refine ⟨_, rfl, _, rfl, s, _, dx, _, _, rfl, g0, T.cl_Book, T.a_Book_numbers, bkF_numbers r n q, n, _, rfl, .inl ⟨kvs, .inr (keyR (roomOf th e)), .of g2, rfl, rfl⟩, _, rfl, ?_⟩
  rw [look]
  by_cases c : roomOf th e ∈ rooms
  · have e1 : numF rooms th e = (rooms.idxOf (roomOf th e), rooms) := if_pos c
    rw [if_pos c]
    refine ifF rfl ⟨_, rfl, s, _, dx, _, _, rfl, g0, T.cl_Book, T.a_Book_numbers, bkF_numbers r n q, _, rfl, n, _, rfl, .inl ⟨kvs, .inr (keyR (roomOf th e)), .of g2, rfl, by rw [look, if_pos c]⟩, ?_⟩
    rw [e1] at fin
    exact fin _ (ButX.of s12) hb2
  · have e1 : numF rooms th e = (rooms.length, rooms ++ [roomOf th e]) := if_neg c
    rw [if_neg c]
    rw [e1] at fin
    have lrs := a1.length
    refine ifT rfl ⟨_, rfl, s, _, dx, _, _, rfl, g0, T.cl_Book, T.a_Book_rooms, bkF_rooms r n q, r, _, rfl, .inl (.of g1), _, rfl, s, _, dx, _, _, rfl, g0, T.cl_Book, T.a_Book_numbers, bkF_numbers r n q, _, rfl, n, _, rfl, .k (k := .inr (keyR (roomOf th e))) g2 (small' (by omega)), ?_⟩
    have f0 : upd (upd H1 c1 (.tup [.ref u, .str (mstr e.2)])) n (.dK (putK kvs (.inr (keyR (roomOf th e))) (.int (rs.length : Nat)))) s = some (.ins (He.ga K "Book") dx (bkF r n q)) := by rw [upd_ne n4]; exact g0
    have f1 : upd (upd H1 c1 (.tup [.ref u, .str (mstr e.2)])) n (.dK (putK kvs (.inr (keyR (roomOf th e))) (.int (rs.length : Nat)))) r = some (.lst rs) := by rw [upd_ne (Ne.symm n1)]; exact g1
    refine ⟨_, rfl, s, _, dx, _, _, rfl, f0, T.cl_Book, T.a_Book_rooms, bkF_rooms r n q, tyL f1, _, rfl, r, rs, _, rfl, rfl, f1, small' (by omega), ?_⟩
    have u1 : ButX (bx r n q) (upd H1 c1 (.tup [.ref u, .str (mstr e.2)])) (upd (upd (upd H1 c1 (.tup [.ref u, .str (mstr e.2)])) n (.dK (putK kvs (.inr (keyR (roomOf th e))) (.int (rs.length : Nat))))) r (.lst (rs ++ [.ref c1]))) := (ButX.upd (.inr (.inl rfl))).trans (ButX.upd (.inl rfl))
    have t1 : TS K _ _ := u1.ts hb2.soft
    have look2 : valV (putK kvs (.inr (keyR (roomOf th e)) : Key) (.int (rs.length : Nat))) (.inr (keyR (roomOf th e))) = some (.int (rooms.length : Nat)) := by rw [valV_put, if_pos rfl, lrs]
    have hn : upd (upd (upd H1 c1 (.tup [.ref u, .str (mstr e.2)])) n (.dK (putK kvs (.inr (keyR (roomOf th e))) (.int (rs.length : Nat))))) r (.lst (rs ++ [.ref c1])) n = some (.dK (putK kvs (.inr (keyR (roomOf th e))) (.int (rs.length : Nat)))) := by rw [upd_ne n1, upd_same]
    refine ⟨_, rfl, s, _, dx, _, _, rfl, u1 _ _ (by rintro (z | z | z) <;> first | exact n3 z | exact n4 z | exact n5 z) g0, T.cl_Book, T.a_Book_numbers, bkF_numbers r n q, _, rfl, n, _, rfl, .inl ⟨_, .inr (keyR (roomOf th e)), .of hn, rfl, look2.symm⟩, ?_⟩
    refine fin _ ((ButX.of s12).trans u1) ⟨⟨dx, u1 _ _ (by rintro (z | z | z) <;> first | exact n3 z | exact n4 z | exact n5 z) g0⟩, ⟨_, upd_same, (a1.imp fun _ _ z => z.ts t1).snoc ⟨_, u, rfl, t1 _ _ (.of upd_same), t1 _ _ hu2⟩⟩, ⟨_, hn, ?_, fun x hx => ?_⟩, ⟨qs, ?_, a3.imp fun _ _ z => z.but (u1.mono sub) t1⟩, ne, sub⟩
    · have := putK_le kvs (.inr (keyR (roomOf th e)) : Key) (.int (rs.length : Nat))
      rw [List.length_append, List.length_singleton]
      omega
    · rw [valV_put]
      by_cases ex : x = roomOf th e
      · subst ex
        rw [if_pos rfl, if_pos (List.mem_append_right _ (List.mem_singleton.mpr rfl)), List.idxOf_append, if_neg c, lrs]
        simp
      · rw [if_neg fun z => ex (keyR_inj hx gR (Sum.inr.inj z)), a2 x hx]
        by_cases cx : x ∈ rooms
        · rw [if_pos cx, if_pos (List.mem_append_left _ cx), List.idxOf_append, if_pos cx]
        · rw [if_neg cx, if_neg]
          intro z
          rcases List.mem_append.mp z with z | z
          · exact cx z
          · exact ex (List.mem_singleton.mp z)
    · rw [upd_ne (Ne.symm ne), upd_ne (Ne.symm n2)]; exact g3
end
end KF

set_option Elab.async false
set_option linter.all false
set_option maxRecDepth 100000
set_option maxHeartbeats 4000000
namespace KF
open PySem PySem.Spec L2 TL
/-! ### sizes -/
theorem waysOf_sub (k : Kd) : ∀ e ∈ waysOf k, ∀ c, Mv.kd c ∈ e.1 → c.depth ≤ k.depth ∧ c.leaves ≤ k.leaves := by
  induction k with
  | one => intro e he; cases he
  | mark m => intro e he c hc; cases List.mem_singleton.mp he; cases hc
  | to a b h h' =>
    intro e he c hc
    obtain ⟨e', he', rfl⟩ := List.mem_map.mp he
    show c.depth ≤ 1 + max a.depth b.depth ∧ c.leaves ≤ a.leaves + b.leaves
    rcases List.mem_cons.mp hc with z | z
    · cases z; omega
    · have := h' e' he' c z; omega
  | both a b h h' =>
    intro e he c hc
    show c.depth ≤ 1 + max a.depth b.depth ∧ c.leaves ≤ a.leaves + b.leaves
    rcases List.mem_append.mp he with he | he
    · obtain ⟨e', he', rfl⟩ := List.mem_map.mp he
      rcases List.mem_cons.mp hc with z | z
      · cases z
      · have := h e' he' c z; omega
    · obtain ⟨e', he', rfl⟩ := List.mem_map.mp he
      rcases List.mem_cons.mp hc with z | z
      · cases z
      · have := h' e' he' c z; omega
theorem endsOf_sub (k : Kd) : ∀ e ∈ endsOf k, ∀ c ∈ e.1, c.depth ≤ k.depth ∧ c.leaves ≤ k.leaves := by
  induction k with
  | one => intro e he; cases he
  | mark m => intro e he c hc; cases List.mem_singleton.mp he; cases hc
  | to a b h h' =>
    intro e he c hc
    obtain ⟨e', he', rfl⟩ := List.mem_map.mp he
    show c.depth ≤ 1 + max a.depth b.depth ∧ c.leaves ≤ a.leaves + b.leaves
    rcases List.mem_cons.mp hc with z | z
    · cases z; omega
    · have := h' e' he' c z; omega
  | both a b h h' =>
    intro e he c hc
    show c.depth ≤ 1 + max a.depth b.depth ∧ c.leaves ≤ a.leaves + b.leaves
    rcases List.mem_append.mp he with he | he
    · have := h e he c hc; omega
    · have := h' e he c hc; omega
theorem moveEnds_sub {ms : List Mv} {D L : Nat} (h : ∀ c, Mv.kd c ∈ ms → c.depth ≤ D ∧ c.leaves ≤ L) : ∀ e ∈ moveEnds ms, e.1.length ≤ D ∧ ∀ c ∈ e.1, c.depth ≤ D ∧ c.leaves ≤ L := by
  intro e he
  obtain ⟨m, hm, he⟩ := List.mem_flatMap.mp he
  cases m with
  | kd k =>
    have h1 := endsOf_in k e he
    have h2 := h k hm
    exact ⟨by omega, fun c hc => by have := endsOf_sub k e he c hc; omega⟩
  | one => cases he
  | two => cases he
theorem foldl_le {α β : Type} {f : β → α → β} {μ : β → Nat} (h : ∀ s x, μ s ≤ μ (f s x)) : ∀ (l : List α) (s : β), μ s ≤ μ (l.foldl f s)
  | [], s => Nat.le_refl _
  | x :: l, s => Nat.le_trans (h s x) (foldl_le h l (f s x))
theorem foldl_take_le {α β : Type} {f : β → α → β} {μ : β → Nat} (h : ∀ s x, μ s ≤ μ (f s x)) (l : List α) (s : β) (i : Nat) : μ ((l.take i).foldl f s) ≤ μ (l.foldl f s) := by
  have e : l.foldl f s = (l.drop i).foldl f ((l.take i).foldl f s) := by rw [← List.foldl_append, List.take_append_drop]
  rw [e]
  exact foldl_le h _ _
theorem foldl_next {α β : Type} {f : β → α → β} {l : List α} {s : β} {i : Nat} {x : α} (h : l[i]? = some x) : (l.take (i + 1)).foldl f s = f ((l.take i).foldl f s) x := by
  rw [List.take_succ, h, List.foldl_append]; rfl
theorem numF_le (rooms : List Room) (th : List Str) (e : List Kd × Bool) : rooms.length ≤ (numF rooms th e).2.length := by
  unfold numF
  split
  · exact Nat.le_refl _
  · show _ ≤ (rooms ++ [_]).length
    rw [List.length_append]; omega
theorem numStep_le (th : List Str) (s : List Nat × List Room) (e : List Kd × Bool) : s.2.length ≤ (numStep th s e).2.length := numF_le s.2 th e
theorem numsF_le (th : List Str) (es : List (List Kd × Bool)) (rooms : List Room) : rooms.length ≤ (numsF th es rooms).2.length := foldl_le (μ := fun s : List Nat × List Room => s.2.length) (numStep_le th) es ([], rooms)
theorem wayStep_le (th : List Str) (m : Bool) (t : Str) (s : List Line × List Room) (p : (List Mv × Bool) × Nat) : s.2.length ≤ (wayStep th m t s p).2.length := by
  unfold wayStep
  split
  · exact numsF_le th _ s.2
  · exact Nat.le_refl _
theorem textStep_le (th : List Str) (m : Bool) (s : List Line × List Room) (t : Str) : s.2.length ≤ (textStep th m s t).2.length := foldl_le (μ := fun s : List Line × List Room => s.2.length) (wayStep_le th m t) _ s
theorem rowsF_le (r : Room) (rooms : List Room) : rooms.length ≤ (rowsF r rooms).2.length := foldl_le (μ := fun s : List Line × List Room => s.2.length) (textStep_le r.1 r.2) r.1 ([], rooms)
theorem numsF_len (th : List Str) (es : List (List Kd × Bool)) (rooms : List Room) : ∀ i, i ≤ es.length → ((es.take i).foldl (numStep th) ([], rooms)).1.length = i := by
  intro i hi
  induction i with
  | zero => rfl
  | succ i ih =>
    rw [foldl_next (List.getElem?_eq_getElem (by omega : i < es.length))]
    show (_ ++ [_]).length = _
    rw [List.length_append, ih (by omega)]; rfl
theorem lines_len (th : List Str) (m : Bool) (t : Str) : ∀ (l : List ((List Mv × Bool) × Nat)) (s : List Line × List Room), (l.foldl (wayStep th m t) s).1.length ≤ s.1.length + l.length
  | [], s => Nat.le_refl _
  | x :: l, s => by
    have := lines_len th m t l (wayStep th m t s x)
    have h : (wayStep th m t s x).1.length ≤ s.1.length + 1 := by
      unfold wayStep
      split
      · show (_ ++ [_]).length ≤ _
        rw [List.length_append]; exact Nat.le_refl _
      · exact Nat.le_succ _
    show ((l.foldl (wayStep th m t) (wayStep th m t s x))).1.length ≤ s.1.length + (l.length + 1)
    omega
section
variable {P : Program} {w : World} {K : PySem.W.Frag} {mg : Str → Option Value} {base : Heap}
/-- [self.number(there, end) for end in ends] -/
theorem lc_numbers {σ : L2.St} {X : Addr → Prop} {H : Hp} {D b1 s r n q : Addr} {l1 : List V} {es : List (List Kd × Bool)} {th : List Str} {rooms : List Room} {rows : List (List Line)} {i : Nat} {te : TE} {Qd : Hp → Prop} (g1 : H b1 = some (.lst l1)) (n1 : ¬ bx r n q b1) (r1 : ∀ H'', ButX (bx r n q) H H'' → All2 (EnAt K H'') es l1)
    (hz : es.length ≤ 100000) (hD : H D = none) (hb : BkAt K X H s r n q rooms rows)
    (hw : ∀ v : V, wipe ((wipe σ [i]).set i (some v)) [i] = wipe σ [i])
    (hh : ∀ (e : List Kd × Bool) (v : V) (H2 : Hp) (rooms2 : List Room) (Y : Addr → Prop) (Q : VK), e ∈ es → ButX (bx r n q) H H2 → BkAt K Y H2 s r n q rooms2 rows → EnAt K H2 e v → rooms2.length ≤ (numsF th es rooms).2.length →
      (∀ H3, ButX (bx r n q) H2 H3 → BkAt K Y H3 s r n q (numF rooms2 th e).2 rows → Q (.int (numF rooms2 th e).1) H3) → te ((wipe σ [i]).set i (some v)) H2 Q)
    (hd : ∀ H2, ButX (bx r n q) H H2 → BkAt K X H2 s r n q (numsF th es rooms).2 rows → H2 D = some (.lst (natV (numsF th es rooms).1)) → Qd H2) :
    ∃ W : Nat → Nat → Hp → Prop, (∃ m, W 0 m (upd H D (.lst []))) ∧ ∀ i' m H, W i' m H →
      ((Itl K b1).stop i' H ∧ Qd H) ∨ ((Itl K b1).go i' H ∧ ∃ Nx : Hp → Prop, (∀ H', Nx H' → ∃ m', m' < m ∧ W (i' + 1) m' H') ∧ ∀ x H', (Itl K b1).yld i' H x H' → gName i x (wipe σ [i]) H' fun σ2 H2 => wipe σ2 [i] = wipe σ [i] ∧ tYes σ2 H2 fun b H3 =>
        if b = true then te σ2 H3 fun y H4 => ∃ acc, H4 D = some (.lst acc) ∧ acc.length < sizeLine ∧ Nx (upd H4 D (.lst (acc ++ [y]))) else Nx H3) := by
  have m1 := (r1 H (ButX.of (.refl H))).length
  have nD := hb.fresh hD
  have sD : s ≠ D := by
    obtain ⟨⟨dx, h0⟩, _⟩ := hb
    rintro rfl
    rw [hD] at h0
    cases h0
  have bD : b1 ≠ D := ne_of_none g1 hD
  let Y : Addr → Prop := fun a => X a ∨ a = D
  have hbY : BkAt K Y H s r n q rooms rows := hb.to (fun a o e na z => z.elim na fun e' => by rw [e', hD] at e; cases e) fun a ha => .inl (hb.sub a ha)
  refine lc_it (walk_list (xs := l1)) (fun j H2 => ButX (bx r n q) H H2 ∧ BkAt K Y H2 s r n q ((es.take j).foldl (numStep th) ([], rooms)).2 rows ∧ H2 D = some (.lst (natV ((es.take j).foldl (numStep th) ([], rooms)).1))) ?_ (fun j H2 _ h => .of (h.1 _ _ n1 g1)) ?_ ?_
  · exact ⟨ButX.of (same_new hD _), hbY.upd (.inr rfl) nD sD (same_new hD _).ts, upd_same⟩
  · rintro j x H2 H3 hj ⟨u2, hb2, d2⟩ ⟨rfl, hx⟩
    have hjl : j < es.length := by rw [← m1]; exact hj
    have hq := List.getElem?_eq_getElem hjl
    obtain ⟨x', hx', pe⟩ := (r1 H3 u2).get hq
    obtain rfl : x' = x := Option.some.inj (hx'.symm.trans hx)
    refine ⟨hw _, hh es[j] x' H3 _ Y _ (List.getElem_mem hjl) u2 hb2 pe (foldl_take_le (μ := fun s : List Nat × List Room => s.2.length) (numStep_le th) es ([], rooms) j) fun H4 u4 hb4 => ⟨_, u4 _ _ nD d2, ?_, fun b o nb e => by rw [upd_ne (ne_of_none e hD)]; exact u4 _ _ nb (u2 _ _ nb e), ?_, ?_⟩⟩
    · show (natV _).length < sizeLine
      rw [show (natV ((es.take j).foldl (numStep th) ([], rooms)).1).length = j by unfold natV; rw [List.length_map, numsF_len th es rooms j (by omega)]]
      exact small' (by omega)
    · rw [foldl_next hq]
      have d4 := u4 _ _ nD d2
      exact hb4.upd (.inr rfl) nD sD (But.ts (But.upd _ _ _) d4 rfl)
    · rw [upd_same, foldl_next hq]
      show some (HO.lst (natV _ ++ [_])) = some (.lst (natV (_ ++ [_])))
      unfold natV
      rw [List.map_append]
      rfl
  · rintro H2 ⟨u2, hb2, d2⟩
    rw [m1, List.take_length] at hb2 d2
    exact hd H2 u2 (hb2.to (fun a o e na z => na (.inl z)) hb.sub) d2
/-- bounds that a room's work needs -/
structure RoomOK (x : Room) : Prop where
  good : GoodT x.1
  few : x.1.length ≤ 45
def spRowsOf (K : PySem.W.Frag) : Sp := fun vs H Q _ => ∃ (s r n q : Addr) (rv : V) (x : Room) (rooms : List Room) (rows : List (List Line)), vs = [.ref s, rv] ∧ BkAt K (bx r n q) H s r n q rooms rows ∧ RmAt K H x rv ∧ RoomOK x ∧ (rowsF x rooms).2.length ≤ 100000 ∧
  ∀ H' v, ButX (bx r n q) H H' → BkAt K (bx r n q) H' s r n q (rowsF x rooms).2 rows → RwAt K (bx r n q) H' (rowsF x rooms).1 v → Q v H'
theorem zip_get {α : Type} (l : List α) (i : Nat) (x : α) (h : l[i]? = some x) : l.zipIdx[i]? = some (x, i) := by
  rw [List.getElem?_zipIdx, h]
  simp
theorem ok_rowsOf (T : Tx w K mg) : Dm P w K mg base CX0 24 "Book" "rows_of" ["self", "room"] (spRowsOf K) := by
  have GN := (ok_number (P := P) (base := base) T).mono (show 21 ≤ 23 by omega)
  have GR := (ok_readKind (P := P) (base := base) T).mono (show 21 ≤ 23 by omega)
  have GW := (ok_ways (P := P) (base := base) T 13).mono (show 13 ≤ 23 by omega)
  have GE := (ok_moveEnds (P := P) (base := base) T).mono (show 20 ≤ 23 by omega)
  refine dm0 T.d_Book_rows_of T.cl_Book T.m_Book_rows_of sc_Book_rows_of (fun _ _ _ _ _ _ us hl => match us, hl with | [_, _], _ => rfl) (fun vs H Q E h => ?_) (fun cdv A outer sh H vs Q E hr h => ?_)
  · obtain ⟨s, r, n, q, rv, x, rooms, rows, rfl, _⟩ := h
    rfl
  obtain ⟨s, r, n, q, rv, ⟨th, m⟩, rooms, rows, rfl, hb, hx, ⟨hg, hf⟩, hz, fin⟩ := h
  have hf' : th.length ≤ 45 := hf
  refine ⟨_, (pss_cons (ps_asg (pv 1) (pg_tup rfl (pgs_cons (pg_name (i := 2) sc_Book_rows_of.nd rfl (Or.inr rfl)) (pgs_cons (pg_name (i := 3) sc_Book_rows_of.nd rfl (Or.inl rfl)) pgs_nil)))) (pss_cons (ps_set (i := 4) sc_Book_rows_of.nd rfl (.inl rfl) (pe_lst pa_nil)) (pss_cons (ps_for PassesOwn.never rfl (pi_tup (pv 2)) (pg_name (i := 5) sc_Book_rows_of.nd rfl (Or.inl rfl))
      (pss_one (ps_for PassesOwn.never rfl (pi_enum rfl T.n_enumerate (pa_cons (cal GW hr pass0 (pa_cons (cal GR hr pass0 (pa_cons (pv 5) pa_nil)) pa_nil)) pa_nil))
          (pg_tup rfl (pgs_cons (pg_name (i := 6) sc_Book_rows_of.nd rfl (Or.inl rfl)) (pgs_cons (pg_tup rfl (pgs_cons (pg_name (i := 7) sc_Book_rows_of.nd rfl (Or.inl rfl)) (pgs_cons (pg_name (i := 8) sc_Book_rows_of.nd rfl (Or.inl rfl)) pgs_nil))) pgs_nil)))
        (pss_one (ps_if (pt_cmpR op_eq (pv 8) (pv 3) (nomark _)) (pss_one (ps_expr (pe_bm PySem.F.plainAttrs_list PySem.F.slot_list_append PySem.F.type_list_append mt_append (pv 4) (pa_cons (pe_tup (pa_cons (pv 5) (pa_cons (pv 6) (pa_cons
            (pe_lc (own := [("end", 9)]) (g := gName 9) (tt := tYes) (te := tMeth (He.ga K "Book") "number" (spNumber K) [] E0 (tVar 0) (tCons (tVar 2) (tCons (tVar 9) tNil))) rfl sc_Book_rows_of.nd (pi_list (cal GE hr pass0 (pa_cons (pv 7) pa_nil))) (blkOk_by (own := [("end", 9)]) (N := ["self", "room", "there", "mark", "found", "text", "way", "moves", "comes_to", "end"]) (sc := defScope s_Book_rows_of) (by decide +kernel))
              (fun _ _ _ _ _ => pg_name (i := 9) sc_Book_rows_of.nd rfl (Or.inl rfl)) (fun _ _ _ _ _ => pts_nil) (fun _ _ _ _ _ => mcal GN hr pass0 (pv 0) (pa_cons (pv 2) (pa_cons (pv 9) pa_nil)))) pa_nil)))) pa_nil)))) pss_nil))))) (pss_one (ps_ret (pv 4)))))), ?_⟩
  obtain ⟨t, u, rfl, ht, hu⟩ := hx
  refine ⟨_, rfl, t, _, rfl, ht, rfl, _, _, rfl, _, _, rfl, rfl, sz0, fun fd hfd => ?_⟩
  have s0 := same_new hfd (.lst [])
  have nfd := hb.fresh hfd
  have sfd : s ≠ fd := by
    obtain ⟨⟨dx, h0⟩, _⟩ := hb
    rintro rfl
    rw [hfd] at h0
    cases h0
  let X : Addr → Prop := fun a => bx r n q a ∨ a = fd
  have hbX : BkAt K X H s r n q rooms rows := hb.to (fun a o e na z => z.elim na fun e' => by rw [e', hfd] at e; cases e) fun a ha => .inl ha
  have zth : (th.map V.str).length = th.length := List.length_map _
  refine ⟨_, rfl, u, rfl, ⟨_, s0.tup hu⟩, for_tup (xs := th.map V.str) (fun i σ H1 => ButX (bx r n q) H H1 ∧ (∃ z5 z6 z7 z8, σ = [some (.ref s), some (.ref t), some (.ref u), some (.str (mstr m)), some (.ref fd), z5, z6, z7, z8, none]) ∧
      BkAt K X H1 s r n q ((th.take i).foldl (textStep th m) ([], rooms)).2 rows ∧ ∃ acc, H1 fd = some (.lst acc) ∧ All2 (LnAt K X H1) ((th.take i).foldl (textStep th m) ([], rooms)).1 acc)
    ⟨ButX.of s0, ⟨_, _, _, _, rfl⟩, hbX.upd (.inr rfl) nfd sfd s0.ts, [], upd_same, trivial⟩ (fun i σ H1 _ h => (h.1.ts hb.soft) _ _ hu) ?_ ?_⟩
  · rintro i x σ H1 hx ⟨u1, ⟨z5, z6, z7, z8, rfl⟩, hb1, acc, fa, la⟩
    obtain ⟨tx, htx, rfl⟩ := get_map hx
    obtain ⟨κ, rfl, hκ1, hκ2⟩ := hg tx (List.mem_of_getElem? htx)
    have hu1 := (u1.ts hb.soft) _ _ hu
    refine ⟨_, rfl, κ, rfl, hκ1, hκ2, fun kv H2 s2 hk => ⟨kv, κ, rfl, hk, by omega, by omega, fun b1 l1 H3 s3 n3 g3 r3 => ?_⟩⟩
    have s23 := s2.trans s3
    have a3 := r3 H3 (.self s3)
    have m3 := a3.length
    have hb3 := hb1.same s23
    have f3 := s23 _ _ fa
    have nb1 : ¬ X b1 := by
      rintro (z | z)
      · exact (hb1.same s2).fresh n3 z
      · rw [z, s2 _ _ fa] at n3; cases n3
    have soft3 : ∀ a o, X a → H3 a = some o → Soft o = true := by
      rintro a o (z | z) e
      · exact hb3.soft a o z e
      · rw [z, f3] at e; cases e; rfl
    let st0 := (th.take i).foldl (textStep th m) ([], rooms)
    have est : (th.take (i + 1)).foldl (textStep th m) ([], rooms) = (waysOf κ).zipIdx.foldl (wayStep th m (shown κ)) st0 := by
      rw [foldl_next htx]
      show (waysOf (kdOf (shown κ))).zipIdx.foldl _ _ = _
      rw [kdOf_shown]
    have zall : ((waysOf κ).zipIdx.foldl (wayStep th m (shown κ)) st0).2.length ≤ 100000 := by
      rw [← est]
      exact Nat.le_trans (foldl_take_le (μ := fun s : List Line × List Room => s.2.length) (textStep_le th m) th ([], rooms) (i + 1)) hz
    have hwl := waysOf_le κ
    have accl : acc.length ≤ 24 * i := by
      rw [la.length]
      have lem : ∀ j, j ≤ th.length → ((th.take j).foldl (textStep th m) ([], rooms)).1.length ≤ 24 * j := by
        intro j hj
        induction j with
        | zero => exact Nat.le_refl _
        | succ j ih =>
          have hj' := List.getElem?_eq_getElem (by omega : j < th.length)
          rw [foldl_next hj']
          obtain ⟨κ', e', _, hk'⟩ := hg th[j] (List.getElem_mem _)
          have h1 := lines_len th m th[j] (waysOf (kdOf th[j])).zipIdx ((th.take j).foldl (textStep th m) ([], rooms))
          have h2 := ih (by omega)
          have h3 : (waysOf (kdOf th[j])).length ≤ 24 := by rw [e', kdOf_shown]; exact Nat.le_trans (waysOf_le κ') hk'
          rw [List.length_zipIdx] at h1
          show ((waysOf (kdOf th[j])).zipIdx.foldl (wayStep th m th[j]) _).1.length ≤ _
          omega
      exact lem i (by have := (List.getElem?_eq_some_iff.mp htx).1; omega)
    have hil : i < th.length := (List.getElem?_eq_some_iff.mp htx).1
    refine ⟨b1, l1, rfl, .of g3, for_it walk_enum (fun j σ H4 => ButX X H3 H4 ∧ (∃ z6 z7 z8, σ = [some (.ref s), some (.ref t), some (.ref u), some (.str (mstr m)), some (.ref fd), some (.str (shown κ)), z6, z7, z8, none]) ∧
      BkAt K X H4 s r n q (((waysOf κ).zipIdx.take j).foldl (wayStep th m (shown κ)) st0).2 rows ∧ ∃ acc', H4 fd = some (.lst acc') ∧ acc'.length ≤ acc.length + j ∧ All2 (LnAt K X H4) (((waysOf κ).zipIdx.take j).foldl (wayStep th m (shown κ)) st0).1 acc')
      ⟨ButX.of (.refl _), ⟨_, _, _, rfl⟩, hb3, acc, f3, Nat.le_refl _, la.imp fun _ _ z => z.but (ButX.of s23) s23.ts⟩ (fun j σ H4 _ h => .of (h.1 _ _ nb1 g3)) ?_ ?_⟩
    · rintro j x σ H4 H5 hj ⟨u4, ⟨z6, z7, z8, rfl⟩, hb4, acc', fa', zl', la'⟩ hY
      obtain ⟨T1, xi, xv, rfl, hT, rfl, ei, ev⟩ := hY
      cases ei
      have hjl : j < (waysOf κ).length := by rw [← m3]; exact hj
      have hq := List.getElem?_eq_getElem hjl
      have hmem := List.getElem_mem hjl
      have t4 : TS K H3 H4 := u4.ts soft3
      have nx4 : Nx K H2 H3 H4 := ⟨s3.ts.trans t4, fun b o e1 e2 => u4 _ _ (by
        rintro (z | z)
        · exact (hb1.same s2).fresh e1 z
        · rw [z, s2 _ _ fa] at e1; cases e1) e2⟩
      obtain ⟨xv', hxv', pe⟩ := (r3 H4 nx4).get hq
      obtain rfl : xv' = xv := Option.some.inj (hxv'.symm.trans ev)
      have sT := same_new hT (.tup [.int (j : Nat), xv'])
      obtain ⟨tw, yw, rfl, htw, bw, ww, rfl, gw, aw⟩ := pe
      have hb5 := hb4.same sT
      have ezip := zip_get (waysOf κ) j _ hq
      have ez2 : ((waysOf κ).zipIdx.take (j + 1)).foldl (wayStep th m (shown κ)) st0 = wayStep th m (shown κ) (((waysOf κ).zipIdx.take j).foldl (wayStep th m (shown κ)) st0) ((waysOf κ)[j], j) := foldl_next ezip
      refine ⟨T1, _, rfl, .of upd_same, rfl, _, _, rfl, _, _, rfl, ⟨tw, _, rfl, sT.tup htw, rfl, _, _, rfl, _, _, rfl, rfl, rfl, _, rfl, _, rfl, rfl, _, rfl, ?_⟩⟩
      rw [KF.dec_str, mstr_eq]
      have ws1 := waysOf_in κ _ hmem
      have ws2 := waysOf_sub κ _ hmem
      by_cases hc : ((waysOf κ)[j]).2 = m
      · have e1 : wayStep th m (shown κ) (((waysOf κ).zipIdx.take j).foldl (wayStep th m (shown κ)) st0) ((waysOf κ)[j], j) = _ := if_pos hc
        rw [e1] at ez2
        have zs : (numsF th (moveEnds ((waysOf κ)[j]).1) (((waysOf κ).zipIdx.take j).foldl (wayStep th m (shown κ)) st0).2).2.length ≤ 100000 := by
          have := foldl_take_le (μ := fun s : List Line × List Room => s.2.length) (wayStep_le th m (shown κ)) (waysOf κ).zipIdx st0 (j + 1)
          rw [ez2] at this
          exact Nat.le_trans this zall
        refine ifT (decide_eq_true hc) ⟨_, rfl, tyL (sT _ _ fa'), _, rfl, _, rfl, _, rfl, bw, _, ww, rfl, sT _ _ gw, aw.imp fun _ _ z => z.ts sT.ts, by omega, fun c hcm => by have := ws2 c hcm; omega, fun b2 l2 H6 s6 n6 g6 r6 => ⟨b2, rfl, ⟨_, .of g6⟩, fun D hD => ?_⟩⟩
        have hb6 := hb5.same s6
        have sT6 := sT.trans s6
        have nb2 : ¬ bx r n q b2 := hb5.fresh n6
        have me := moveEnds_sub (D := 12) (L := 24) fun c hcm => by have := ws2 c hcm; omega
        refine lc_numbers (th := th) (es := moveEnds ((waysOf κ)[j]).1) (rooms := (((waysOf κ).zipIdx.take j).foldl (wayStep th m (shown κ)) st0).2) g6 nb2 (fun H'' hu'' => r6 H'' ⟨s6.ts.trans (hu''.ts hb6.soft), fun b o e1 e2 => hu'' _ _ (fun z => hb5.fresh e1 z) e2⟩) ?_ hD hb6 (fun _ => rfl) (fun e v H7 rooms2 Y Q2 he u7 hb7 hv hz7 q2 => ?_) fun H7 u7 hb7 gD => ?_
        · have := moveEnds_len (ms := ((waysOf κ)[j]).1) fun c hcm => by have := ws2 c hcm; omega
          omega
        · obtain ⟨⟨dx7, h07⟩, _⟩ := id hb7
          have hme := me e he
          refine ⟨_, rfl, s, dx7, _, rfl, h07, bkF_no r n q (by decide +kernel) (by decide +kernel) (by decide +kernel), _, rfl, _, rfl, Y, s, r, n, q, u, v, th, e, rooms2, rows, rfl, hb7, ?_, hv, hg, hme.2, by omega, by omega, fun H8 u8 hb8 => q2 H8 u8 hb8⟩
          exact (u7.ts hb6.soft) _ _ (sT6.tup (t4 _ _ (s23.tup hu1)))
        · have nD : ¬ X D := by
            rintro (z | z)
            · exact hb6.fresh hD z
            · rw [z, sT6 _ _ fa'] at hD; cases hD
          have u67 : ButX X H6 H7 := u7.mono fun a ha => .inl ha
          have f7 := u7 _ _ nfd (sT6 _ _ fa')
          refine ⟨sz3, fun c hcn => ?_⟩
          have s8 := same_new hcn (.tup [.str (shown κ), .int (j : Nat), .ref D])
          have f8 := s8 _ _ f7
          have hb8 := hb7.same s8
          have ts9 : TS K _ _ := But.ts (But.upd fd (upd H7 c (.tup [.str (shown κ), .int (j : Nat), .ref D])) (.lst (acc' ++ [.ref c]))) f8 rfl
          have u47 : ButX X H4 H7 := (ButX.of sT6).trans u67
          have u49 : ButX X H4 (upd (upd H7 c (.tup [.str (shown κ), .int (j : Nat), .ref D])) fd (.lst (acc' ++ [.ref c]))) := (u47.same s8).trans (ButX.upd (.inr rfl))
          have soft4 : ∀ a o, X a → H4 a = some o → Soft o = true := by
            rintro a o (z | z) e
            · exact hb4.soft a o z e
            · rw [z, fa'] at e; cases e; rfl
          refine ⟨fd, acc', _, rfl, rfl, f8, small' (by omega), u4.trans u49, ⟨_, _, _, rfl⟩, ?_, _, upd_same, by rw [List.length_append, List.length_singleton]; omega, ?_⟩
          · rw [ez2]
            exact hb8.upd (.inr rfl) nfd sfd ts9
          · rw [ez2]
            refine (la'.imp fun _ _ z => z.but u49 (u49.ts soft4)).snoc ⟨c, D, rfl, ts9 _ _ (.of upd_same), nD, ?_⟩
            have nDf : D ≠ fd := fun z => nD (.inr z)
            rw [upd_ne nDf]
            exact s8 _ _ gD
      · have e1 : wayStep th m (shown κ) (((waysOf κ).zipIdx.take j).foldl (wayStep th m (shown κ)) st0) ((waysOf κ)[j], j) = _ := if_neg hc
        rw [e1] at ez2
        refine ifF (decide_eq_false hc) ⟨u4.same sT, ⟨_, _, _, rfl⟩, by rw [ez2]; exact hb5, acc', sT _ _ fa', by omega, ?_⟩
        rw [ez2]
        exact la'.imp fun _ _ z => z.but (ButX.of sT) sT.ts
    · rintro σ H4 ⟨u4, ⟨z6, z7, z8, rfl⟩, hb4, acc', fa', zl', la'⟩
      have el : l1.length = (waysOf κ).zipIdx.length := by rw [List.length_zipIdx]; exact m3
      rw [el, List.take_length, ← est] at hb4 la'
      refine ⟨fun b o nb e => u4 _ _ ?_ (s23 _ _ (u1 _ _ nb e)), ⟨_, _, _, _, rfl⟩, hb4, acc', fa', la'⟩
      rintro (z | z)
      · exact nb z
      · rw [z, hfd] at e; cases e
  · rintro σ H1 ⟨u1, ⟨z5, z6, z7, z8, rfl⟩, hb1, acc, fa, la⟩
    rw [zth, List.take_length] at hb1 la
    exact ⟨_, rfl, fin H1 _ u1 (hb1.to (fun a o _ na z => na (.inl z)) fun a ha => ha) ⟨fd, acc, rfl, nfd, fa, la.imp fun _ _ z => z.to fun a o _ na z => na (.inl z)⟩⟩
end
end KF

set_option Elab.async false
set_option linter.all false
set_option maxRecDepth 100000
set_option maxHeartbeats 4000000
namespace KF
open PySem PySem.Spec L2 TL
theorem foldl_pre {α β γ : Type} {f : β → α → β} {μ : β → List γ} (h : ∀ s x, μ s <+: μ (f s x)) : ∀ (l : List α) (s : β), μ s <+: μ (l.foldl f s)
  | [], s => List.prefix_refl _
  | x :: l, s => (h s x).trans (foldl_pre h l (f s x))
theorem numF_pre (rooms : List Room) (th : List Str) (e : List Kd × Bool) : rooms <+: (numF rooms th e).2 := by
  unfold numF
  split
  · exact List.prefix_refl _
  · exact List.prefix_append _ _
theorem numsF_pre (th : List Str) (es : List (List Kd × Bool)) (rooms : List Room) : rooms <+: (numsF th es rooms).2 := foldl_pre (μ := fun s : List Nat × List Room => s.2) (fun s e => numF_pre s.2 th e) es ([], rooms)
theorem rowsF_pre (r : Room) (rooms : List Room) : rooms <+: (rowsF r rooms).2 :=
  foldl_pre (μ := fun s : List Line × List Room => s.2) (fun s t => foldl_pre (μ := fun s : List Line × List Room => s.2) (fun s p => by
    show s.2 <+: (wayStep r.1 r.2 t s p).2
    unfold wayStep
    split
    · exact numsF_pre _ _ _
    · exact List.prefix_refl _) _ s) r.1 ([], rooms)
theorem fillF_pre : ∀ {n : Nat} {rooms : List Room} {rows : List (List Line)} {z : List Room × List (List Line)}, fillF n rooms rows = some z → rooms <+: z.1
  | 0, _, _, _, h => by rw [fillF] at h; cases h
  | n + 1, rooms, rows, z, h => by
    rw [fillF] at h
    split at h
    · cases h; exact List.prefix_refl _
    · exact (rowsF_pre _ _).trans (fillF_pre h)
/-- lines that stand for good -/
def LinesAt (K : PySem.W.Frag) (X : Addr → Prop) (H : Hp) (rows : List (List Line)) (q : Addr) : Prop := ¬ X q ∧ ∃ qs, H q = some (.lst qs) ∧ All2 (RwAt K X H) rows qs
section
variable {P : Program} {w : World} {K : PySem.W.Frag} {mg : Str → Option Value} {base : Heap}
def spBkInit (K : PySem.W.Frag) : Sp := fun vs H Q _ => ∃ (s dx : Addr), vs = [.ref s] ∧ H s = some (.ins (He.ga K "Book") dx []) ∧ ∀ H' r n q, But s H H' → H r = none → H n = none → H q = none → BkAt K (bx r n q) H' s r n q [] [] → Q .non H'
theorem ok_bkInit (T : Tx w K mg) : Dc P w K mg base CX0 1 "Book" ["self"] (spBkInit K) := by
  refine dc0 T.d_Book___init__ T.mk_Book T.c_Book sc_Book___init__ (fun _ _ _ _ _ _ us hl => match us, hl with | [_], _ => rfl) (fun vs H Q E h => ?_) (fun cdv A outer sh H vs Q E hr h => ?_)
  · obtain ⟨s, dx, rfl, _⟩ := h
    rfl
  obtain ⟨s, dx, rfl, hs, fin⟩ := h
  refine ⟨_, (pss_cons (ps_fld (pv 0) (pe_lst pa_nil) rfl) (pss_cons (ps_fld (pv 0) pe_dnewK rfl) (pss_one (ps_fld (pv 0) (pe_lst pa_nil) rfl)))), ?_⟩
  have c1 : ¬ (("rooms" : Str) = "numbers") := by decide +kernel
  have c2 : ¬ (("rooms" : Str) = "rows") := by decide +kernel
  have c3 : ¬ (("numbers" : Str) = "rows") := by decide +kernel
  have p1 : ∀ v : V, putF "rooms" v [] = ([(("rooms" : Str), v)] : List (Str × V)) := fun v => rfl
  have p2 : ∀ v u : V, putF "numbers" v ([(("rooms" : Str), u)] : List (Str × V)) = ([(("rooms" : Str), u), (("numbers" : Str), v)] : List (Str × V)) := fun v u => by
    show (if ("rooms" : Str) = "numbers" then _ else _) = _
    rw [if_neg c1]; rfl
  have p3 : ∀ v u x : V, putF "rows" v ([(("rooms" : Str), u), (("numbers" : Str), x)] : List (Str × V)) = ([(("rooms" : Str), u), (("numbers" : Str), x), (("rows" : Str), v)] : List (Str × V)) := fun v u x => by
    show (if ("rooms" : Str) = "rows" then _ else _ :: (if ("numbers" : Str) = "rows" then _ else _)) = _
    rw [if_neg c2, if_neg c3]; rfl
  refine ⟨sz0, fun r hr0 => ⟨_, rfl, s, _, dx, _, rfl, (by rw [upd_ne (ne_of_none hs hr0)]; exact hs), T.cl_Book, T.a_Book_rooms, (by show 0 < 1000; decide), ?_⟩⟩
  rw [p1]
  have sr : s ≠ r := ne_of_none hs hr0
  intro n hn0
  have sn : s ≠ n := by rintro rfl; rw [upd_same] at hn0; cases hn0
  refine ⟨_, rfl, s, _, dx, _, rfl, (by rw [upd_ne sn, upd_same]), T.cl_Book, T.a_Book_numbers, (by show 1 < 1000; decide), ?_⟩
  rw [p2]
  have hn1 : upd H r (.lst []) n = none := by rw [upd_ne (Ne.symm sn)] at hn0; exact hn0
  have rn : r ≠ n := by rintro rfl; rw [upd_same] at hn1; cases hn1
  have hn2 : H n = none := by rw [upd_ne (Ne.symm rn)] at hn1; exact hn1
  refine ⟨sz0, fun q hq0 => ?_⟩
  have sq : s ≠ q := by rintro rfl; rw [upd_same] at hq0; cases hq0
  refine ⟨_, rfl, s, _, dx, _, rfl, (by rw [upd_ne sq, upd_same]), T.cl_Book, T.a_Book_rows, (by show 2 < 1000; decide), ?_⟩
  rw [p3]
  have nq : n ≠ q := by rintro rfl; rw [upd_ne (Ne.symm sn), upd_same] at hq0; cases hq0
  have rq : r ≠ q := by rintro rfl; rw [upd_ne (Ne.symm sr), upd_ne rn, upd_ne (Ne.symm sr), upd_same] at hq0; cases hq0
  have hq2 : H q = none := by rw [upd_ne (Ne.symm sq), upd_ne (Ne.symm nq), upd_ne (Ne.symm sq), upd_ne (Ne.symm rq)] at hq0; exact hq0
  refine fin _ r n q (fun b o nb e => ?_) hr0 hn2 hq2 ⟨⟨dx, upd_same⟩, ⟨[], ?_, trivial⟩, ⟨[], ?_, Nat.le_refl _, fun x _ => by simp [valV]⟩, ⟨[], ?_, trivial⟩, rq, fun _ h => h⟩
  · rw [upd_ne nb, upd_ne (ne_of_none e hq2), upd_ne nb, upd_ne (ne_of_none e hn2), upd_ne nb, upd_ne (ne_of_none e hr0)]
    exact e
  · rw [upd_ne (Ne.symm sr), upd_ne rq, upd_ne (Ne.symm sr), upd_ne rn, upd_ne (Ne.symm sr), upd_same]
  · rw [upd_ne (Ne.symm sn), upd_ne nq, upd_ne (Ne.symm sn), upd_same]
  · rw [upd_ne (Ne.symm sq), upd_same]
def spFill (K : PySem.W.Frag) : Sp := fun vs H Q _ => ∃ (s r n q : Addr) (rooms : List Room) (rows : List (List Line)) (N : Nat) (z : List Room × List (List Line)), vs = [.ref s] ∧ BkAt K (bx r n q) H s r n q rooms rows ∧ fillF N rooms rows = some z ∧ (∀ x ∈ z.1, RoomOK x) ∧ z.1.length ≤ 100000 ∧
  ∀ H', ButX (bx r n q) H H' → BkAt K (bx r n q) H' s r n q z.1 z.2 → Q .non H'
theorem ok_fill (T : Tx w K mg) : Dm P w K mg base CX0 25 "Book" "fill" ["self"] (spFill K) := by
  have GR := (ok_rowsOf (P := P) (base := base) T)
  refine dm0 T.d_Book_fill T.cl_Book T.m_Book_fill sc_Book_fill (fun _ _ _ _ _ _ us hl => match us, hl with | [_], _ => rfl) (fun vs H Q E h => ?_) (fun cdv A outer sh H vs Q E hr h => ?_)
  · obtain ⟨s, r, n, q, rooms, rows, N, z, rfl, _⟩ := h
    rfl
  obtain ⟨s, r, n, q, rooms, rows, N, z, rfl, hb, hf, hok, hzz, fin⟩ := h
  have LEN : ∀ {f : Str}, True := trivial
  refine ⟨_, (pss_one (ps_while PassesOwn.never (pt_cmpR op_lt (pe_callB call_len_seq rfl T.n_len PySem.boot_len (pa_cons (pe_fld (pv 0) rfl) pa_nil)) (pe_callB call_len_seq rfl T.n_len PySem.boot_len (pa_cons (pe_fld (pv 0) rfl) pa_nil)) (nomark _))
      (pss_one (ps_expr (pe_bm PySem.F.plainAttrs_list PySem.F.slot_list_append PySem.F.type_list_append mt_append (pe_fld (pv 0) rfl) (pa_cons (mcal GR hr pass0 (pv 0) (pa_cons (pe_ix ix_list (pe_fld (pv 0) rfl) (pe_callB call_len_seq rfl T.n_len PySem.boot_len (pa_cons (pe_fld (pv 0) rfl) pa_nil)) (fun _ _ => rfl)) pa_nil)) pa_nil)))))), ?_⟩
  refine ⟨fun m σ H1 => ∃ rooms1 rows1, σ = [some (.ref s)] ∧ ButX (bx r n q) H H1 ∧ BkAt K (bx r n q) H1 s r n q rooms1 rows1 ∧ fillF m rooms1 rows1 = some z, ⟨N, rooms, rows, rfl, ButX.of (.refl _), hb, hf⟩, ?_⟩
  rintro m σ H1 ⟨rooms1, rows1, rfl, u1, hb1, hf1⟩
  obtain ⟨⟨dx, g0⟩, ⟨rs, g1, a1⟩, ⟨kvs, g2, z2, a2⟩, ⟨qs, g3, a3⟩, ne, sub⟩ := id hb1
  have lrs := a1.length
  have lqs := a3.length
  have pre := fillF_pre hf1
  have lpre := pre.length_le
  refine ⟨_, rfl, s, _, dx, _, _, rfl, g0, T.cl_Book, T.a_Book_rows, bkF_rows r n q, q, _, rfl, .inl (.of g3), _, rfl, s, _, dx, _, _, rfl, g0, T.cl_Book, T.a_Book_rooms, bkF_rooms r n q, r, _, rfl, .inl (.of g1), _, _, rfl, rfl, _, rfl, ?_⟩
  match m, hf1 with
  | 0, hf1 => rw [fillF] at hf1; cases hf1
  | m + 1, hf1 =>
    rw [fillF] at hf1
    cases hx : rooms1[rows1.length]? with
    | none =>
      rw [hx] at hf1
      cases hf1
      refine ifF (decide_eq_false ?_) (fin H1 u1 hb1)
      have := List.getElem?_eq_none_iff.mp hx
      omega
    | some x =>
      rw [hx] at hf1
      have hlt := (List.getElem?_eq_some_iff.mp hx).1
      have hf2 : fillF m (rowsF x rooms1).2 (rows1 ++ [(rowsF x rooms1).1]) = some z := hf1
      have zz := (fillF_pre hf2).length_le
      have hxz : x ∈ z.1 := pre.subset (List.mem_of_getElem? hx)
      refine ifT (decide_eq_true (by omega)) ⟨fun σ' H' => ∃ m', m' < m + 1 ∧ ∃ rooms1 rows1, σ' = [some (.ref s)] ∧ ButX (bx r n q) H H' ∧ BkAt K (bx r n q) H' s r n q rooms1 rows1 ∧ fillF m' rooms1 rows1 = some z, fun σ' H' h => h, ?_⟩
      obtain ⟨xv, hxv, px⟩ := a1.get hx
      refine ⟨_, rfl, s, _, dx, _, _, rfl, g0, T.cl_Book, T.a_Book_rows, bkF_rows r n q, tyL g3, _, rfl, s, dx, _, rfl, g0, bkF_no r n q (by decide +kernel) (by decide +kernel) (by decide +kernel), _, rfl, s, _, dx, _, _, rfl, g0, T.cl_Book, T.a_Book_rooms, bkF_rooms r n q, _, rfl, s, _, dx, _, _, rfl, g0, T.cl_Book, T.a_Book_rows, bkF_rows r n q, q, _, rfl, .inl (.of g3), r, _, _, xv, rfl, rfl, .of g1, atI_nat (by rw [lqs]; exact hxv), ?_⟩
      refine ⟨s, r, n, q, xv, x, rooms1, rows1, rfl, hb1, px, hok x hxz, by omega, fun H2 v u2 hb2 hv => ?_⟩
      obtain ⟨⟨dx2, f0⟩, ⟨rs2, f1, b1⟩, ⟨kvs2, f2, y2, b2⟩, ⟨qs2, f3, b3⟩, _, _⟩ := id hb2
      have e3 := u2
      have lq2 := b3.length
      obtain ⟨n1, n2, n3, n4, n5⟩ := hb2.nr
      refine ⟨q, qs2, _, rfl, rfl, f3, small' (by omega), m, Nat.lt_succ_self m, (rowsF x rooms1).2, rows1 ++ [(rowsF x rooms1).1], rfl, (u1.trans u2).trans (ButX.upd (.inr (.inr rfl))), ?_, hf2⟩
      have u3 : ButX (bx r n q) H2 (upd H2 q (.lst (qs2 ++ [v]))) := ButX.upd (.inr (.inr rfl))
      have t3 : TS K _ _ := u3.ts hb2.soft
      exact ⟨⟨dx2, by rw [upd_ne n5]; exact f0⟩, ⟨rs2, by rw [upd_ne ne]; exact f1, b1.imp fun _ _ h => h.ts t3⟩, ⟨kvs2, by rw [upd_ne n2]; exact f2, y2, b2⟩, ⟨_, upd_same, (b3.imp fun _ _ h => h.but u3 t3).snoc (hv.but u3 t3)⟩, ne, sub⟩
def theOf (l : Ctx) : List Str := canon (l.map fun x => shown x.2)
/-- the book of a row and a kind: where it starts, its rooms, their lines -/
structure BookIs (l : Ctx) (k : Kd) (starts : List Nat) (rows : List (List Line)) (z : List Room) : Prop where
  st : starts = (numsF (theOf l) (endsOf k) []).1
  fl : ∃ N, fillF N (numsF (theOf l) (endsOf k) []).2 [] = some (z, rows)
def spBookOf (K : PySem.W.Frag) : Sp := fun vs H Q _ => ∃ (a : Addr) (kv : V) (l : Ctx) (ws : List V) (k : Kd) (starts : List Nat) (rows : List (List Line)) (z : List Room), vs = [.ref a, kv] ∧ H a = some (.lst ws) ∧ All2 (NmAt K H) l ws ∧ KdAt K H k kv ∧ BookIs l k starts rows z ∧
  (∀ x ∈ z, RoomOK x) ∧ z.length ≤ 100000 ∧ l.length ≤ 30 ∧ (∀ x ∈ l, x.2.depth ≤ 12 ∧ x.2.leaves ≤ 24) ∧ k.depth ≤ 12 ∧ k.leaves ≤ 24 ∧
  ∀ H' b c r q, Same H H' → SqT K H' b [.ref c, .ref r, .ref q] → H' c = some (.lst (natV starts)) → LinesAt K (fun _ => False) H' rows q → Q (.ref b) H'
theorem ok_bookOf (T : Tx w K mg) : Df P w K mg base CX0 27 "book_of" ["row", "kind"] [] (spBookOf K) := by
  have GI := (ok_bkInit (P := P) (base := base) T)
  have GT := (ok_there (P := P) (base := base) T).mono (show 20 ≤ 26 by omega)
  have GN := (ok_number (P := P) (base := base) T).mono (show 21 ≤ 26 by omega)
  have GF := (ok_fill (P := P) (base := base) T).mono (show 25 ≤ 26 by omega)
  have GE := (ok_ends (P := P) (base := base) T 13).mono (show 13 ≤ 26 by omega)
  refine df0 T.d_book_of T.g_book_of sc_book_of (fun _ _ _ _ _ _ us hl => match us, hl with | [_, _], _ => rfl) (fun vs H Q E h => ?_) (fun cdv A outer sh H vs Q E hr h => ?_)
  · obtain ⟨a, kv, l, ws, k, starts, rows, z, rfl, _⟩ := h
    rfl
  obtain ⟨a, kv, l, ws, k, starts, rows, z, rfl, ha, hl, hk, ⟨hst, N, hfl⟩, hok, hz, hll, hld, hk1, hk2, fin⟩ := h
  refine ⟨_, (pss_cons (ps_set (i := 2) sc_book_of.nd rfl (.inr rfl) (mkl0 GI (hr.mono (by omega)) pass0)) (pss_cons (ps_set (i := 3) sc_book_of.nd rfl (.inr rfl) (cal GT hr pass0 (pa_cons (pe_tup pa_nil) (pa_cons (pe_lc (own := [("name", 5), ("given", 6)]) (g := gTup K 2 (gCons (gName 5) (gCons (gName 6) gNil))) (tt := tYes) (te := tVar 6) rfl sc_book_of.nd (pi_list (pv 0)) (blkOk_by (own := [("name", 5), ("given", 6)]) (N := ["row", "kind", "book", "there", "starts", "name", "given", "end"]) (sc := defScope s_book_of) (by decide +kernel))
          (fun _ _ _ _ _ => pg_tup rfl (pgs_cons (pg_name (i := 5) sc_book_of.nd rfl (Or.inl rfl)) (pgs_cons (pg_name (i := 6) sc_book_of.nd rfl (Or.inl rfl)) pgs_nil))) (fun _ _ _ _ _ => pts_nil) (fun _ _ _ _ _ => pv 6)) pa_nil)))) (pss_cons (ps_setLc (i := 4) (own := [("end", 7)]) (g := gName 7) (tt := tYes) (te := tMeth (He.ga K "Book") "number" (spNumber K) [] E0 (tVar 2) (tCons (tVar 3) (tCons (tVar 7) tNil))) rfl sc_book_of.nd rfl rfl (sw_true rfl rfl rfl (by decide +kernel)) (pi_list (cal GE hr pass0 (pa_cons (pv 1) pa_nil))) (blkOk_by (own := [("end", 7)]) (N := ["row", "kind", "book", "there", "starts", "name", "given", "end"]) (sc := defScope s_book_of) (by decide +kernel))
          (fun _ _ _ _ _ => pg_name (i := 7) sc_book_of.nd rfl (Or.inl rfl)) (fun _ _ _ _ _ => pts_nil) (fun _ _ _ _ _ => mcal GN hr pass0 (pv 2) (pa_cons (pv 3) (pa_cons (pv 7) pa_nil)))) (pss_cons (ps_expr (mcal0 GF hr pass0 (pv 2))) (pss_one (ps_ret (pe_tup (pa_cons (pv 4) (pa_cons (pe_fld (pv 2) rfl) (pa_cons (pe_fld (pv 2) rfl) pa_nil)))))))))), ?_⟩
  refine fun s dx hs0 hdx0 hne => ⟨s, dx, rfl, upd_same, fun H1 r n q hb1 hr1 hn1 hq1 hbk => ⟨rfl, ?_⟩⟩
  have s1 : Same H H1 := fun y o hy => hb1 _ _ (ne_of_none hy hs0) (by
    rw [upd_ne (ne_of_none hy hs0), upd_ne (ne_of_none hy hdx0)]; exact hy)
  have free : ∀ {x : Addr}, upd (upd H dx (.own s)) s (.ins (He.ga K "Book") dx []) x = none → H x = none := fun {x} e => by
    have e1 : x ≠ s := by rintro rfl; rw [upd_same] at e; cases e
    rw [upd_ne e1] at e
    have e2 : x ≠ dx := by rintro rfl; rw [upd_same] at e; cases e
    rw [upd_ne e2] at e
    exact e
  have ha1 := s1 _ _ ha
  have hl1 := hl.imp fun _ _ h => h.same s1
  have ml := hl1.length
  refine ⟨sz0, fun t0 ht0 => ?_⟩
  have s2 := same_new ht0 (.tup [])
  refine ⟨_, rfl, a, rfl, ⟨_, .of (s2 _ _ ha1)⟩, fun D hD => ?_⟩
  refine lc_build (K := K) (walk_list (xs := ws)) (KdAt K) (l.map (·.2)) (by rw [List.length_map]; exact ml.symm) (by omega) hD (fun H' s' => .of (s' _ _ (s2 _ _ ha1))) (fun i c x H3 H4 Q2 hb2 s3 hY q2 => ?_) (fun H3 ys s3 gD rD => ?_)
  · obtain ⟨rfl, hx⟩ := hY
    obtain ⟨e, he, rfl⟩ := get_map hb2
    obtain ⟨x', hx', pe⟩ := (hl1.imp fun _ _ h => h.same (s2.trans s3)).get he
    obtain rfl : x' = x := Option.some.inj (hx'.symm.trans hx)
    obtain ⟨tn, yn, rfl, htn, hkn⟩ := pe
    exact ⟨tn, _, rfl, htn, rfl, _, _, rfl, _, _, rfl, rfl, rfl, _, rfl, q2 _ H4 (.refl _) fun H'' xx => hkn.ts (xx.all (.refl _))⟩
  have s23 := s2.trans s3
  have kk := rD H3 (.self s3)
  refine ⟨t0, D, [], l.map (·.2), ys, rfl, s3.tup (.of upd_same), gD, kk, fun c hc => ?_, by rw [List.length_map]; show 0 + l.length < 64; omega, fun H4 u s4 hu => ?_⟩
  · obtain ⟨e, he, rfl⟩ := List.mem_map.mp hc
    exact hld e he
  have eth : canon ([] ++ (l.map (·.2)).map shown) = theOf l := by
    unfold theOf
    rw [List.nil_append, List.map_map]; rfl
  rw [eth] at hu
  have s24 := s23.trans s4
  have hb4 := hbk.same s24
  refine ⟨_, rfl, kv, k, rfl, hk.same (s1.trans s24), by omega, by omega, fun b5 l5 H5 s5 n5 g5 r5 => ⟨b5, rfl, ⟨_, .of g5⟩, fun D5 hD5 => ?_⟩⟩
  have hb5 := hb4.same s5
  have gth : GoodT (theOf l) := fun t ht => by
    obtain ⟨e, he, rfl⟩ := List.mem_map.mp (mem_canon.mp ht)
    exact ⟨e.2, rfl, hld e he⟩
  have lth : (theOf l).length ≤ 30 := by
    have := canon_len (l.map fun x => shown x.2)
    rw [List.length_map] at this
    show (canon _).length ≤ 30
    omega
  have zpre := (fillF_pre hfl).length_le
  have zpre' : (numsF (theOf l) (endsOf k) []).2.length ≤ z.length := zpre
  have ein := endsOf_in k
  have esub := endsOf_sub k
  have ele := endsOf_le k
  refine lc_numbers (X := bx r n q) (th := theOf l) (es := endsOf k) (rooms := []) (rows := []) g5 (hb4.fresh n5) (fun H'' hu'' => r5 H'' ⟨s5.ts.trans (hu''.ts hb5.soft), fun b o e1 e2 => hu'' _ _ (fun z => hb4.fresh e1 z) e2⟩) (by omega) hD5 hb5 (fun _ => rfl) (fun e v H7 rooms2 Y Q2 he u7 hb7 hv hz7 q2 => ?_) fun H7 u7 hb7 gD7 => ?_
  · obtain ⟨⟨dx7, h07⟩, _⟩ := id hb7
    have h1 := ein e he
    refine ⟨_, rfl, s, dx7, _, rfl, h07, bkF_no r n q (by decide +kernel) (by decide +kernel) (by decide +kernel), _, rfl, _, rfl, Y, s, r, n, q, u, v, theOf l, e, rooms2, [], rfl, hb7, (u7.ts hb5.soft) _ _ (s5.tup hu), hv, gth, fun c hc => by have := esub e he c hc; omega, by omega, by omega, fun H8 u8 hb8 => q2 H8 u8 hb8⟩
  · obtain ⟨⟨dx7, h07⟩, _⟩ := id hb7
    refine ⟨_, rfl, s, dx7, _, rfl, h07, bkF_no r n q (by decide +kernel) (by decide +kernel) (by decide +kernel), s, r, n, q, _, [], N, _, rfl, hb7, hfl, hok, hz, fun H8 u8 hb8 => ?_⟩
    obtain ⟨⟨dx8, h08⟩, ⟨rs8, h18, _⟩, _, ⟨qs8, h38, b38⟩, _, _⟩ := id hb8
    refine ⟨_, rfl, _, rfl, s, _, dx8, _, _, rfl, h08, T.cl_Book, T.a_Book_rooms, bkF_rooms r n q, _, rfl, s, _, dx8, _, _, rfl, h08, T.cl_Book, T.a_Book_rows, bkF_rows r n q, sz3, fun c9 hc9 => ?_⟩
    have s9 := same_new hc9 (.tup [.ref D5, .ref r, .ref q])
    have sall : Same H (upd H8 c9 (.tup [.ref D5, .ref r, .ref q])) := fun y o hy => by
      have nb : ¬ bx r n q y := by
        rintro (e | e | e)
        · subst e; rw [free hr1] at hy; cases hy
        · subst e; rw [free hn1] at hy; cases hy
        · subst e; rw [free hq1] at hy; cases hy
      exact s9 _ _ (u8 _ _ nb (u7 _ _ nb (s5 _ _ (s24 _ _ (s1 _ _ hy)))))
    have nD5 : ¬ bx r n q D5 := hb5.fresh hD5
    refine fin _ c9 D5 r q sall (.of upd_same) ?_ ⟨id, qs8, s9 _ _ h38, b38.imp fun _ _ h => (h.but (ButX.of s9) s9.ts).to fun _ _ _ _ => id⟩
    rw [hst]
    exact s9 _ _ (u8 _ _ nD5 gD7)
end
end KF

set_option Elab.async false
set_option linter.all false
set_option maxRecDepth 100000
set_option maxHeartbeats 4000000
namespace KF
open PySem PySem.Spec L2 TL
/-! ### the way that a program takes from its name -/
inductive Td where
  | one | two | ar (p : Pg)
  deriving DecidableEq
def pathOf : Pg → List Td × Nm
  | .name x => ([], x)
  | .give p q => ((pathOf p).1 ++ [.ar q], (pathOf p).2)
  | .first p => ((pathOf p).1 ++ [.one], (pathOf p).2)
  | .second p => ((pathOf p).1 ++ [.two], (pathOf p).2)
  | _ => ([], .p)
/-- a name, given, taken apart -/
def isSp : Pg → Bool
  | .name _ => true
  | .give p _ => isSp p
  | .first p => isSp p
  | .second p => isSp p
  | _ => false
def TdAt (K : PySem.W.Frag) (H : Hp) : Td → V → Prop
  | .one, v => v = .int 1
  | .two, v => v = .int 2
  | .ar q, v => ∃ a u, v = .ref a ∧ SqT K H a [u] ∧ PgAt K H q u
theorem TdAt.ts {K : PySem.W.Frag} {H H' : Hp} (h : TS K H H') : ∀ {m : Td} {v : V}, TdAt K H m v → TdAt K H' m v
  | .one, _, q => q
  | .two, _, q => q
  | .ar _, _, ⟨a, u, e, q, r⟩ => ⟨a, u, e, h _ _ q, r.ts h⟩
def fits : Td → Mv → Bool
  | .one, .one => true
  | .two, .two => true
  | .ar _, .kd _ => true
  | _, _ => false
def fitsAll : List Td → List Mv → Bool
  | [], [] => true
  | t :: ts, m :: ms => fits t m && fitsAll ts ms
  | _, _ => false
theorem fitsAll_len : ∀ {ts : List Td} {ms : List Mv}, fitsAll ts ms = true → ts.length = ms.length
  | [], [], _ => rfl
  | [], _ :: _, h => by cases h
  | _ :: _, [], h => by cases h
  | _ :: ts, _ :: ms, h => congrArg (· + 1) (fitsAll_len (Bool.and_eq_true_iff.mp h).2)
theorem fitsAll_iff : ∀ {ts : List Td} {ms : List Mv}, fitsAll ts ms = true ↔ ts.length = ms.length ∧ ∀ (i : Nat) (t : Td) (m : Mv), ts[i]? = some t → ms[i]? = some m → fits t m = true
  | [], [] => by simp [fitsAll]
  | [], _ :: _ => by simp [fitsAll]
  | _ :: _, [] => by simp [fitsAll]
  | t :: ts, m :: ms => by
    rw [fitsAll, Bool.and_eq_true, fitsAll_iff]
    constructor
    · rintro ⟨h1, h2, h3⟩
      refine ⟨congrArg (· + 1) h2, fun i t' m' e1 e2 => ?_⟩
      cases i with
      | zero => cases e1; cases e2; exact h1
      | succ i => exact h3 i t' m' e1 e2
    · rintro ⟨h1, h2⟩
      exact ⟨h2 0 t m rfl rfl, Nat.succ.inj h1, fun i t' m' e1 e2 => h2 (i + 1) t' m' e1 e2⟩
theorem fitsAll_take {ts : List Td} {ms : List Mv} {i : Nat} {t : Td} {m : Mv} (h1 : ts[i]? = some t) (h2 : ms[i]? = some m) (h : fits t m = false) : fitsAll ts ms = false := by
  cases c : fitsAll ts ms with
  | false => rfl
  | true => rw [(fitsAll_iff.mp c).2 i t m h1 h2] at h; cases h
section
variable {P : Program} {w : World} {K : PySem.W.Frag} {mg : Str → Option Value} {base : Heap}
theorem pathOf_len (p : Pg) : (pathOf p).1.length ≤ p.deep := by
  induction p with
  | name x => exact Nat.le_refl _
  | thing => exact Nat.le_refl _
  | take x k p h => exact Nat.zero_le _
  | pair p q h h' => exact Nat.zero_le _
  | give p q h h' => show ((pathOf p).1 ++ [_]).length ≤ max p.deep q.deep + 1; rw [List.length_append, List.length_singleton]; omega
  | first p h => show ((pathOf p).1 ++ [_]).length ≤ p.deep + 1; rw [List.length_append, List.length_singleton]; omega
  | second p h => show ((pathOf p).1 ++ [_]).length ≤ p.deep + 1; rw [List.length_append, List.length_singleton]; omega
/-! ### moves_in -/
def spMovesIn (K : PySem.W.Frag) : Sp := fun vs H Q _ => ∃ (v : V) (p : Pg), vs = [v] ∧ PgAt K H p v ∧ isSp p = true ∧ p.deep ≤ 1000 ∧ ∀ H' b a ts, Same H H' → SqT K H' b [.ref a, .str (pathOf p).2.str] → H a = none → H' a = some (.lst ts) → All2 (TdAt K H') (pathOf p).1 ts → Q (.ref b) H'
theorem ok_movesIn (T : Tx w K mg) : Df P w K mg base CX0 1 "moves_in" ["program"] [] (spMovesIn K) := by
  refine df0 T.d_moves_in T.g_moves_in sc_moves_in (fun _ _ _ _ _ _ us hl => match us, hl with | [_], _ => rfl) (fun vs H Q E h => ?_) (fun cdv A outer sh H vs Q E hr h => ?_)
  · obtain ⟨v, p, rfl, _⟩ := h
    rfl
  obtain ⟨v, p, rfl, hp, hsp, hd, fin⟩ := h
  refine ⟨_, (pss_cons (ps_set (i := 1) sc_moves_in.nd rfl (.inl rfl) (pe_lst pa_nil)) (pss_cons (ps_while PassesOwn.never (pt_ntag (pv 0) mono_var)
      (pss_cons (ps_if (pt_tag (pv 0) mono_var) (pss_one (ps_expr (pe_bm PySem.F.plainAttrs_list PySem.F.slot_list_insert PySem.F.type_list_insert mt_insert (pv 1) (pa_cons pe_int (pa_cons (pe_tup (pa_cons (pv_at 0 2) pa_nil)) pa_nil)))))
          (pss_one (ps_expr (pe_bm PySem.F.plainAttrs_list PySem.F.slot_list_insert PySem.F.type_list_insert mt_insert (pv 1) (pa_cons pe_int (pa_cons (pe_op op_add pe_int (pe_callTy call_int1 rfl T.n_int (by decide +kernel) (pa_cons (pe_tag (pv 0) mono_var) pa_nil))) pa_nil)))))) (pss_one (ps_set (i := 0) sc_moves_in.nd rfl (.inl rfl) (pv_at 0 1))))) (pss_one (ps_ret (pe_tup (pa_cons (pv 1) (pa_cons (pv_at 0 1) pa_nil))))))), ?_⟩
  refine ⟨sz0, fun a ha => ?_⟩
  have s0 := same_new ha (.lst [])
  refine ⟨fun m σ H1 => ∃ (cur : Pg) (cv : V) (acc : List Td) (ts : List V), σ = [some cv, some (.ref a)] ∧ Same H H1 ∧ PgAt K H1 cur cv ∧ isSp cur = true ∧ cur.deep = m ∧ pathOf p = ((pathOf cur).1 ++ acc, (pathOf cur).2) ∧ H1 a = some (.lst ts) ∧ All2 (TdAt K H1) acc ts ∧ ts.length + m ≤ 1000,
    ⟨p.deep, p, v, [], [], rfl, s0, hp.same s0, hsp, rfl, by rw [List.append_nil], upd_same, trivial, by show 0 + p.deep ≤ 1000; omega⟩, ?_⟩
  rintro m σ H1 ⟨cur, cv, acc, ts, rfl, s1, hc, hsc, hdc, hpa, fa, la, hz⟩
  have next : ∀ (H2 : Hp) (cur2 : Pg) (cv2 : V) (t : Td) (y : V), Same H1 H2 → PgAt K H2 cur2 cv2 → isSp cur2 = true → cur2.deep < m → pathOf cur = ((pathOf cur2).1 ++ [t], (pathOf cur2).2) → TdAt K H2 t y →
      ∃ m', m' < m ∧ ∃ (cur : Pg) (cv : V) (acc : List Td) (ts' : List V), [some cv2, some (.ref a)] = [some cv, some (.ref a)] ∧ Same H (upd H2 a (.lst (ts.take (0 : Int).toNat ++ [y] ++ ts.drop (0 : Int).toNat))) ∧ PgAt K (upd H2 a (.lst (ts.take (0 : Int).toNat ++ [y] ++ ts.drop (0 : Int).toNat))) cur cv ∧ isSp cur = true ∧ cur.deep = m' ∧
        pathOf p = ((pathOf cur).1 ++ acc, (pathOf cur).2) ∧ upd H2 a (.lst (ts.take (0 : Int).toNat ++ [y] ++ ts.drop (0 : Int).toNat)) a = some (.lst ts') ∧ All2 (TdAt K (upd H2 a (.lst (ts.take (0 : Int).toNat ++ [y] ++ ts.drop (0 : Int).toNat)))) acc ts' ∧ ts'.length + m' ≤ 1000 := fun H2 cur2 cv2 t y s2 h2 hs2 hd2 hp2 ht => by
    have f2 := s2 _ _ fa
    have tt : TS K H2 (upd H2 a (.lst (ts.take (0 : Int).toNat ++ [y] ++ ts.drop (0 : Int).toNat))) := But.ts (But.upd _ _ _) f2 rfl
    refine ⟨cur2.deep, hd2, cur2, cv2, t :: acc, y :: ts, rfl, fun b o e => by rw [upd_ne (ne_of_none e ha)]; exact s2 _ _ (s1 _ _ e), h2.ts tt, hs2, rfl, ?_, upd_same, ⟨ht.ts tt, la.imp fun _ _ h => (h.ts s2.ts).ts tt⟩, by rw [List.length_cons]; omega⟩
    rw [hpa, hp2]
    simp
  cases cur with
  | take _ _ _ => cases hsc
  | pair _ _ => cases hsc
  | thing => cases hsc
  | name x =>
    obtain ⟨b, rfl, tb⟩ := hc
    refine ⟨_, rfl, b, _, _, rfl, tb, ifF (by decide +kernel) ⟨_, rfl, _, rfl, b, _, _, rfl, tb, rfl, sz2, fun c hcn => ?_⟩⟩
    have sc := same_new hcn (.tup [.ref a, .str x.str])
    have e : pathOf p = (acc, x) := by rw [hpa]; rfl
    refine fin _ c a ts (s1.trans sc) (by rw [e]; exact .of upd_same) ha (sc _ _ fa) ?_
    rw [e]
    exact la.imp fun _ _ h => h.ts sc.ts
  | give p1 p2 =>
    have hdc' : max p1.deep p2.deep + 1 = m := hdc
    obtain ⟨b, y, y', rfl, tb, hy, hy'⟩ := hc
    refine ⟨_, rfl, b, _, _, rfl, tb, ifT (by decide +kernel) ⟨_, fun σ' H' h => h, ?_⟩⟩
    refine ⟨_, rfl, b, _, _, rfl, tb, ifT (by decide +kernel) ⟨_, rfl, tyL fa, _, rfl, b, _, _, rfl, tb, rfl, sz1, fun c hcn => ?_⟩⟩
    have sc := same_new hcn (.tup [y'])
    refine ⟨a, ts, 0, _, rfl, rfl, sc _ _ fa, small' (by omega), by omega, by omega, ?_⟩
    refine ⟨_, rfl, b, _, _, rfl, (But.ts (But.upd a _ _) (sc _ _ fa) rfl) _ _ (sc.tup tb), rfl, ?_⟩
    obtain ⟨m', h1, cur', cv', acc', ts', h2, h3, h4, h5, h6, h7, h8, h9, h10⟩ := next (upd H1 c (.tup [y'])) p1 y (.ar p2) (.ref c) sc (hy.same sc) hsc (by omega) rfl ⟨c, y', rfl, .of upd_same, hy'.same sc⟩
    exact ⟨m', h1, cur', cv', acc', ts', h2, h3, h4, h5, h6, h7, h8, h9, h10⟩
  | first p1 =>
    have hdc' : p1.deep + 1 = m := hdc
    obtain ⟨b, y, rfl, tb, hy⟩ := hc
    refine ⟨_, rfl, b, _, _, rfl, tb, ifT (by decide +kernel) ⟨_, fun σ' H' h => h, ?_⟩⟩
    refine ⟨_, rfl, b, _, _, rfl, tb, ifF (by decide +kernel) ⟨_, rfl, tyL fa, _, rfl, b, _, _, rfl, tb, .inr ⟨_, rfl, _, _, rfl, rfl, ?_⟩⟩⟩
    rw [show decide (Str.ofString "first" = Str.ofString "second") = false by decide +kernel]
    refine ⟨a, ts, 0, _, rfl, rfl, fa, small' (by omega), by omega, by omega, ?_⟩
    refine ⟨_, rfl, b, _, _, rfl, (But.ts (But.upd a _ _) fa rfl) _ _ tb, rfl, ?_⟩
    obtain ⟨m', h1, cur', cv', acc', ts', h2, h3, h4, h5, h6, h7, h8, h9, h10⟩ := next H1 p1 y .one (.int 1) (.refl _) hy hsc (by omega) rfl rfl
    exact ⟨m', h1, cur', cv', acc', ts', h2, h3, h4, h5, h6, h7, h8, h9, h10⟩
  | second p1 =>
    have hdc' : p1.deep + 1 = m := hdc
    obtain ⟨b, y, rfl, tb, hy⟩ := hc
    refine ⟨_, rfl, b, _, _, rfl, tb, ifT (by decide +kernel) ⟨_, fun σ' H' h => h, ?_⟩⟩
    refine ⟨_, rfl, b, _, _, rfl, tb, ifF (by decide +kernel) ⟨_, rfl, tyL fa, _, rfl, b, _, _, rfl, tb, .inr ⟨_, rfl, _, _, rfl, rfl, ?_⟩⟩⟩
    rw [show decide (Str.ofString "second" = Str.ofString "second") = true by decide +kernel]
    refine ⟨a, ts, 0, _, rfl, rfl, fa, small' (by omega), by omega, by omega, ?_⟩
    refine ⟨_, rfl, b, _, _, rfl, (But.ts (But.upd a _ _) fa rfl) _ _ tb, rfl, ?_⟩
    obtain ⟨m', h1, cur', cv', acc', ts', h2, h3, h4, h5, h6, h7, h8, h9, h10⟩ := next H1 p1 y .two (.int 2) (.refl _) hy hsc (by omega) rfl rfl
    exact ⟨m', h1, cur', cv', acc', ts', h2, h3, h4, h5, h6, h7, h8, h9, h10⟩
end
end KF

set_option Elab.async false
set_option linter.all false
set_option maxRecDepth 100000
set_option maxHeartbeats 4000000
namespace KF
open PySem PySem.Spec L2 TL
theorem ev_int' (k : Kd) (i : Int) : PyData.eqv (.int i) k.dat = false := by cases k <;> (rw [Kd.dat, PyData.eqv]) <;> (intros; rename_i z; cases z)
theorem ev_ii (i j : Int) : PyData.eqv (.int i) (.int j) = (i == j) := by rw [PyData.eqv]
theorem mv_ev1' (m : Mv) : PyData.eqv (.int 1) m.dat = decide (m = .one) := by
  cases m with
  | one => rw [Mv.dat, ev_ii]; rfl
  | two => rw [Mv.dat, ev_ii]; rfl
  | kd k => rw [Mv.dat, ev_int', decide_eq_false fun z => by cases z]
theorem mv_ev2' (m : Mv) : PyData.eqv (.int 2) m.dat = decide (m = .two) := by
  cases m with
  | one => rw [Mv.dat, ev_ii]; rfl
  | two => rw [Mv.dat, ev_ii]; rfl
  | kd k => rw [Mv.dat, ev_int', decide_eq_false fun z => by cases z]
theorem lay_i (i : Int) : (PyData.int i).canLay0 = true := by simp only [PyData.canLay0]
theorem kit_it {K : PySem.W.Frag} : PySem.W.kitOne K (.type "int") (.type "tuple") = some false := kit_ty (by decide +kernel)
section
variable {P : Program} {w : World} {K : PySem.W.Frag} {mg : Str → Option Value} {base : Heap}
def spSameWay (K : PySem.W.Frag) : Sp := fun vs H Q _ => ∃ (a b : Addr) (td : List Td) (ms : List Mv) (ts us : List V), vs = [.ref a, .ref b] ∧ H a = some (.lst ts) ∧ All2 (TdAt K H) td ts ∧ H b = some (.lst us) ∧ All2 (MvAt K H) ms us ∧ Ret H Q fun _ u => u = .bl (fitsAll td ms)
theorem ok_sameWay (T : Tx w K mg) : Df P w K mg base CX0 1 "same_way" ["told", "moves"] [] (spSameWay K) := by
  refine df0 T.d_same_way T.g_same_way sc_same_way (fun _ _ _ _ _ _ us hl => match us, hl with | [_, _], _ => rfl) (fun vs H Q E h => ?_) (fun cdv A outer sh H vs Q E hr h => ?_)
  · obtain ⟨a, b, td, ms, ts, us, rfl, _⟩ := h
    rfl
  obtain ⟨a, b, td, ms, ts, us, rfl, ha, ht, hb, hm, fin⟩ := h
  refine ⟨_, (pss_cons (ps_if (pt_cmpR op_ne (pe_callB call_len_seq rfl T.n_len PySem.boot_len (pa_cons (pv 0) pa_nil)) (pe_callB call_len_seq rfl T.n_len PySem.boot_len (pa_cons (pv 1) pa_nil)) (nomark _)) (pss_one (ps_ret pe_bl)) pss_nil) (pss_cons (ps_for PassesOwn.never rfl (pi_zip rfl T.n_zip (pa_cons (pv 0) (pa_cons (pv 1) pa_nil))) (pg_tup rfl (pgs_cons (pg_name (i := 2) sc_same_way.nd rfl (Or.inl rfl)) (pgs_cons (pg_name (i := 3) sc_same_way.nd rfl (Or.inl rfl)) pgs_nil)))
      (pss_one (ps_if (pt_val (pe_callB call_isi rfl T.n_isinstance (by decide +kernel) (pa_cons (pv 2) (pa_cons (pe_bltn (v := .ty "tuple") rfl T.n_tuple (by decide +kernel) rfl) pa_nil))))
          (pss_one (ps_if (PW.pt (pw_or (pt_cmpR (op_eqX hr.u) (pv 3) pe_int (nomark _)) (pw_or1 (pt_cmpR (op_eqX hr.u) (pv 3) pe_int (nomark _))))) (pss_one (ps_ret pe_bl)) pss_nil))
          (pss_one (ps_if (pt_cmpR (op_neX hr.u) (pv 2) (pv 3) (nomark _)) (pss_one (ps_ret pe_bl)) pss_nil))))) (pss_one (ps_ret pe_bl)))), ?_⟩
  have lt := ht.length
  have lm := hm.length
  refine ⟨_, rfl, a, _, rfl, .inl (.of ha), _, rfl, b, _, rfl, .inl (.of hb), rfl, _, rfl, ?_⟩
  by_cases hlen : td.length = ms.length
  · have hd : (!decide (V.int (ts.length : Nat) = V.int (us.length : Nat))) = false := by rw [lt, lm, hlen, decide_eq_true rfl]; rfl
    refine ifF hd ⟨_, rfl, _, rfl, a, b, ts, us, rfl, .of ha, .of hb, for_it (walk_zip (xs := ts) (ys := us) (n := ts.length) (by omega)) (fun i σ H1 => Same H H1 ∧ (∃ z2 z3, σ = [some (.ref a), some (.ref b), z2, z3]) ∧ ∀ (j : Nat) (t : Td) (m : Mv), j < i → td[j]? = some t → ms[j]? = some m → fits t m = true)
      ⟨.refl H, ⟨_, _, rfl⟩, fun j t m h => absurd h (Nat.not_lt_zero _)⟩ (fun i σ H1 _ h => ⟨.of (h.1 _ _ ha), .of (h.1 _ _ hb)⟩) ?_ ?_⟩
    · rintro i v σ H1 H1' hi' ⟨s1, ⟨z2, z3, rfl⟩, hprev⟩ ⟨T1, x, y, rfl, hT, rfl, hx, hy⟩
      have hil : i < td.length := by rw [← lt]; exact (List.getElem?_eq_some_iff.mp hx).1
      have q1 := List.getElem?_eq_getElem hil
      have q2 := List.getElem?_eq_getElem (l := ms) (i := i) (by omega)
      have sT := same_new hT (.tup [x, y])
      obtain ⟨x', e1, p1⟩ := ((ht.imp fun _ _ h => h.ts s1.ts).imp fun _ _ h => h.ts sT.ts).get q1
      obtain rfl : x' = x := Option.some.inj (e1.symm.trans hx)
      obtain ⟨y', e2, p2⟩ := ((hm.imp fun _ _ h => h.ts s1.ts).imp fun _ _ h => h.ts sT.ts).get q2
      obtain rfl : y' = y := Option.some.inj (e2.symm.trans hy)
      have s2 := s1.trans sT
      have stop : fits td[i] ms[i] = false → Q (.bl false) (upd H1 T1 (.tup [x', y'])) := fun hf => fin.of s2 (by rw [fitsAll_take q1 q2 hf])
      have go : fits td[i] ms[i] = true → ∀ (j : Nat) (t : Td) (m : Mv), j < i + 1 → td[j]? = some t → ms[j]? = some m → fits t m = true := fun hf j t m hj f1 f2 => by
        by_cases e : j = i
        · subst e; rw [q1] at f1; rw [q2] at f2; cases f1; cases f2; exact hf
        · exact hprev j t m (by omega) f1 f2
      refine ⟨T1, _, rfl, .of upd_same, rfl, _, _, rfl, _, _, rfl, rfl, ?_⟩
      revert stop go
      generalize td[i] = t at p1
      generalize ms[i] = m at p2
      intro stop go
      cases t with
      | one =>
        obtain rfl : x' = .int 1 := p1
        refine ⟨_, rfl, _, _, _, _, false, rfl, .ty "tuple", .base (.int _), kit_it, _, rfl, ifF rfl ⟨_, rfl, _, rfl, .int 1, m.dat, .int 1, p2.dp, lay_i 1, m.lays, by rw [Nat.min_comm]; exact Mv.lay_depth _ _, _, rfl, ?_⟩⟩
        rw [mv_ev1']
        cases m with
        | one => exact ifF (by decide) ⟨s2, ⟨_, _, rfl⟩, go rfl⟩
        | two => exact ifT (by decide) (stop rfl)
        | kd k => exact ifT (by rw [decide_eq_false fun z => by cases z]; rfl) (stop rfl)
      | two =>
        obtain rfl : x' = .int 2 := p1
        refine ⟨_, rfl, _, _, _, _, false, rfl, .ty "tuple", .base (.int _), kit_it, _, rfl, ifF rfl ⟨_, rfl, _, rfl, .int 2, m.dat, .int 2, p2.dp, lay_i 2, m.lays, by rw [Nat.min_comm]; exact Mv.lay_depth _ _, _, rfl, ?_⟩⟩
        rw [mv_ev2']
        cases m with
        | one => exact ifT (by decide) (stop rfl)
        | two => exact ifF (by decide) ⟨s2, ⟨_, _, rfl⟩, go rfl⟩
        | kd k => exact ifT (by rw [decide_eq_false fun z => by cases z]; rfl) (stop rfl)
      | ar p =>
        obtain ⟨c, u, rfl, tc, hu⟩ := p1
        refine ⟨_, rfl, _, _, _, _, true, rfl, .ty "tuple", sqt_ty tc, kit_tt, _, rfl, ifT rfl ⟨_, rfl, m.dat, .int 1, p2.dp, .int 1, m.lays, lay_i 1, Mv.lay_depth _ _, _, rfl, ?_⟩⟩
        rw [mv_ev1]
        cases m with
        | one => exact ifT (by decide) (ifT rfl (stop rfl))
        | two =>
          refine ifF (by decide) ⟨_, rfl, Mv.two.dat, .int 2, p2.dp, .int 2, Mv.two.lays, lay_i 2, Mv.lay_depth _ _, _, rfl, ?_⟩
          rw [mv_ev2]
          exact ifT (by decide) (stop rfl)
        | kd k =>
          refine ifF (decide_eq_false fun z => by cases z) ⟨_, rfl, (Mv.kd k).dat, .int 2, p2.dp, .int 2, (Mv.kd k).lays, lay_i 2, Mv.lay_depth _ _, _, rfl, ?_⟩
          rw [mv_ev2]
          exact ifF (decide_eq_false fun z => by cases z) ⟨s2, ⟨_, _, rfl⟩, go rfl⟩
    · rintro σ H1 ⟨s1, ⟨z2, z3, rfl⟩, hall⟩
      refine fin.of s1 ?_
      have : fitsAll td ms = true := fitsAll_iff.mpr ⟨hlen, fun i t m e1 e2 => hall i t m (by rw [lt]; exact (List.getElem?_eq_some_iff.mp e1).1) e1 e2⟩
      rw [this]
  · have hd : (!decide (V.int (ts.length : Nat) = V.int (us.length : Nat))) = true := by
      rw [lt, lm, decide_eq_false fun z => hlen (by have := V.int.inj z; omega)]; rfl
    refine ifT hd (fin.at ?_)
    have : fitsAll td ms = false := by
      cases c : fitsAll td ms with
      | false => rfl
      | true => exact absurd (fitsAll_len c) hlen
    rw [this]
def wayIn (k : Kd) (td : List Td) : Option Nat := (waysOf k).findIdx? fun e => fitsAll td e.1
def spWayIn (K : PySem.W.Frag) : Sp := fun vs H Q _ => ∃ (a : Addr) (kv : V) (k : Kd) (td : List Td) (ts : List V) (n : Nat), vs = [kv, .ref a] ∧ KdAt K H k kv ∧ k.depth ≤ 12 ∧ k.leaves ≤ 300 ∧ H a = some (.lst ts) ∧ All2 (TdAt K H) td ts ∧ wayIn k td = some n ∧ Ret H Q fun _ u => u = .int n
theorem ok_wayIn (T : Tx w K mg) : Df P w K mg base CX0 14 "way_in" ["kind", "told"] [] (spWayIn K) := by
  have GW := (ok_ways (P := P) (base := base) T 13)
  have GS := (ok_sameWay (P := P) (base := base) T).mono (show 1 ≤ 13 by omega)
  refine df0 T.d_way_in T.g_way_in sc_way_in (fun _ _ _ _ _ _ us hl => match us, hl with | [_, _], _ => rfl) (fun vs H Q E h => ?_) (fun cdv A outer sh H vs Q E hr h => ?_)
  · obtain ⟨a, kv, k, td, ts, n, rfl, _⟩ := h
    rfl
  obtain ⟨a, kv, k, td, ts, n, rfl, hk, hd, hl, ha, ht, hw, fin⟩ := h
  refine ⟨_, (pss_cons (ps_for PassesOwn.never rfl (pi_enum rfl T.n_enumerate (pa_cons (cal GW hr pass0 (pa_cons (pv 0) pa_nil)) pa_nil)) (pg_tup rfl (pgs_cons (pg_name (i := 2) sc_way_in.nd rfl (Or.inl rfl)) (pgs_cons (pg_tup rfl (pgs_cons (pg_name (i := 3) sc_way_in.nd rfl (Or.inl rfl)) (pgs_cons (pg_name (i := 4) sc_way_in.nd rfl (Or.inl rfl)) pgs_nil))) pgs_nil)))
      (pss_one (ps_if (pt_val (cal GS hr pass0 (pa_cons (pv 1) (pa_cons (pv 3) pa_nil)))) (pss_one (ps_ret (pv 2))) pss_nil))) (pss_one (ps_never))), ?_⟩
  refine ⟨_, rfl, kv, k, rfl, hk, by omega, hl, fun b l1 H1 s1 n1 g1 r1 => ⟨b, l1, rfl, .of g1, ?_⟩⟩
  have a1 := r1 H1 (.self s1)
  have m1 := a1.length
  obtain ⟨hn1, hn2, hn3⟩ := List.findIdx?_eq_some_iff_getElem.mp hw
  refine for_it walk_enum (fun i σ H2 => Same H1 H2 ∧ (∃ z2 z3 z4, σ = [some kv, some (.ref a), z2, z3, z4]) ∧ i ≤ n) ⟨.refl _, ⟨_, _, _, rfl⟩, Nat.zero_le _⟩ (fun i σ H2 _ h => .of (h.1 _ _ g1)) ?_ ?_
  · rintro i x σ H2 H3 hi ⟨s2, ⟨z2, z3, z4, rfl⟩, hin⟩ hY
    obtain ⟨T1, xi, xv, rfl, hT, rfl, ei, ev⟩ := hY
    cases ei
    have hil : i < (waysOf k).length := by rw [← m1]; exact hi
    have hq := List.getElem?_eq_getElem hil
    obtain ⟨xv', hxv', pe⟩ := (r1 H2 (.same s1 s2)).get hq
    obtain rfl : xv' = xv := Option.some.inj (hxv'.symm.trans ev)
    have sT := same_new hT (.tup [.int (i : Nat), xv'])
    obtain ⟨tw, yw, rfl, htw, bw, ww, rfl, gw, aw⟩ := pe
    have s3 := s2.trans sT
    refine ⟨T1, _, rfl, .of upd_same, rfl, _, _, rfl, _, _, rfl, ⟨tw, _, rfl, sT.tup htw, rfl, _, _, rfl, _, _, rfl, rfl, rfl, _, rfl, _, rfl, a, bw, td, (waysOf k)[i].1, ts, ww, rfl, s3 _ _ (s1 _ _ ha), ht.imp fun _ _ h => h.ts (s1.trans s3).ts, sT _ _ gw, aw.imp fun _ _ h => h.ts sT.ts, fun u H4 s4 e => ?_⟩⟩
    subst e
    refine ⟨_, rfl, ?_⟩
    by_cases e : i = n
    · subst e
      exact ifT hn2 ⟨_, rfl, fin.of (s1.trans (s3.trans s4)) rfl⟩
    · have hlt : i < n := by omega
      refine ifF (Bool.eq_false_iff.mpr (hn3 i hlt)) ⟨s3.trans s4, ⟨_, _, _, rfl⟩, by omega⟩
  · rintro σ H2 ⟨s2, _, hin⟩
    rw [m1] at hin
    omega
end
end KF

set_option Elab.async false
set_option linter.all false
set_option maxRecDepth 100000
set_option maxHeartbeats 4000000
namespace KF
open PySem PySem.Spec L2 TL
section
variable {X : Cx} {C : Addr} {e : Expr} {es : List Expr} {ta : TA} {p1 p2 pos : Pos}
/-- KindError.__init__(self, ..), read off the class -/
theorem pe_keinit {pl : Sem Bool} (hg : Gl X "KindError") (hm : X.mg "KindError" = some (.ref C)) (h1 : PySem.W.specialIn X.K (.ref C) "__getattribute__" = some (some (.builtin "type.__getattribute__"))) (h2 : PySem.W.readsIn X.K C (.type "type") = true)
    (h3 : PySem.W.findCls X.K (.ref C) (.type "type") "__init__" = some (.val (.builtin "ValueError.__init__"))) (ha : PA X (e :: es) ta)
    (hc : eval (.Call (.Attribute (.Name "KindError" p1) "__init__" p2) (e :: es) [] pos) X.env = (do
      let ov ← eval (.Name "KindError" p1) X.env
      standAt p2.atName
      let (f, first) ← holding [ov] (getMethod ov "__init__" pl)
      callWith pos f first (backTo pos (starEach (e :: es) X.env)) (backToKw pos (keywordEach [] X.env))) := by rfl)
    (he : starEach (e :: es) X.env = (false, eval e X.env) :: starEach es X.env := by rfl) (hpl : (backTo pos (starEach es X.env)).any (·.1) = false := by rfl) :
    PE X (.Call (.Attribute (.Name "KindError" p1) "__init__" p2) (e :: es) [] pos) (tVeI X.K ta) := by
  refine ⟨fun pins s σ H Q I h => ?_⟩
  refine PySem.W.methodCall_KW (ld_glob I hg hm ?_ (by decide)) hc
  refine PySem.W.method_cls I.kIn h1 (PySem.W.cls_value I.kIn h2 h3 (by decide +kernel) ?_)
  show wpAny _ _ (callWith pos (Value.builtin "ValueError.__init__") [] (backTo pos (starEach (e :: es) X.env)) []) _ _ _
  refine PyProof.Rows.callWith_method1 (thn (ha.run pos pins _ σ H _ (I.tok _) h) fun us s1 ⟨vs, H1, I1, r1, a, C, ws, ev, hl, T, ea, q⟩ => ?_) he hpl
  subst ev
  cases r1 with
  | @cons _ u0 _ ur ra rw' =>
    obtain rfl : u0 = Value.ref a := ra
    have hlen : ur.length ≤ sizeLine := by
      rw [← Paired.length rw', sizeLine_eq]
      omega
    exact oinit_ok T I1 ea hlen fun s' J => ⟨.non, H1, J, rfl, q⟩
end
section
variable {P : Program} {w : World} {K : PySem.W.Frag} {mg : Str → Option Value} {base : Heap}
abbrev noMaking (K : PySem.W.Frag) : Value := .ref (He.ga K "NoMaking")
def spNoInit (K : PySem.W.Frag) : Sp := fun vs H Q _ => ∃ (a : Addr) (i : Int), vs = [.ref a, .int i] ∧ H a = some (exo a (He.ga K "NoMaking") none) ∧ ∀ dx, H dx = none → dx ≠ a → Q .non (upd (upd H dx (exd dx [("at", .int i)])) a (exo a (He.ga K "NoMaking") (some dx)))
theorem ok_noInit (T : Tx w K mg) : ∃ fd, FnOk P w K mg base CX0 1 (He.ma K (He.ga K "NoMaking") "__init__") fd ["self", "at"] (spNoInit K) ∧ Binds K fd ["self", "at"] [] := by
  obtain ⟨fd, F⟩ := T.d_NoMaking___init__
  obtain ⟨h1, h2, h3⟩ := T.k_KindError
  refine ⟨fd, F.ok sc_NoMaking___init__ (fun vs H Q E h => ?_) (fun cdv A outer sh H vs Q E hr h => ?_), FunD.bindsN F (fun _ _ _ _ _ _ us hl => match us, hl with | [_, _], _ => rfl)⟩
  · obtain ⟨a, i, rfl, _⟩ := h
    rfl
  obtain ⟨a, i, rfl, ha, q⟩ := h
  refine ⟨_, PSs.nox (pss_cons (ps_expr (pe_keinit (C := He.ga K "KindError") rfl T.c_KindError h1 h2 h3 (pa_cons (pv 0) (pa_cons pe_str pa_nil)))) (pss_one (ps_ost (pv 0) (pv 1)))), ?_⟩
  exact ⟨_, rfl, a, _, _, rfl, (by show 1 ≤ 1000; decide), T.o_NoMaking, ha, _, rfl, _, rfl, a, _, rfl, T.o_NoMaking, T.a_NoMaking_at, .inl ⟨ha, q⟩⟩
/-- raise NoMaking(o.f) -/
theorem ps_noMaking {X : Cx} {ta : TA} {e : Expr} {W : WX} {p p2 pos : Pos} (T : Tx X.w X.K X.mg) (hc : X.calm = true) (tk : Takes X W) (hr : L2.Room 10 X.A) (hg : Gl X "NoMaking") (ha : PA X [e] ta)
    (mono : ∀ σ H (Q Q' : List V → Hp → Prop), (∀ vs H', Q vs H' → Q' vs H') → ta σ H Q → ta σ H Q')
    (he : starEach [e] X.env = (false, eval e X.env) :: starEach [] X.env := by rfl) (hpl : (backTo pos (starEach [] X.env)).any (·.1) = false := by rfl) :
    PS X (.Raise (some (.Call (.Name "NoMaking" p) [e] [] pos)) none p2) (fun _ σ H => ta σ H fun vs H1 => ∃ i : Int, vs = [.int i] ∧ ∀ H2 dx, Same H1 H2 → H2 dx = some (.xd [("at", .int i)]) → W (noMaking X.K) (some dx) σ H2) := by
  obtain ⟨fd, F, B⟩ := ok_noInit (P := X.prog) (base := X.base) T
  obtain ⟨i1, i2⟩ := T.i_NoMaking
  refine ⟨fun pins s σ H D I h => (ps_raise hc tk (pmk_oex (k := 1) T.o_NoMaking i1 i2 F (hr.mono (by decide)) B .nil pass0 hg T.c_NoMaking ha (he := he) (hpl := hpl))).run pins s σ H D I (mono σ H _ _ (fun vs H1 hq => ?_) h)⟩
  obtain ⟨i, rfl, q⟩ := hq
  refine ⟨by show 1 ≤ 1000; decide, fun a ha => ⟨a, i, rfl, upd_same, fun dx hdx hne => ⟨rfl, dx, [("at", .int i)], upd_same, by rw [upd_ne hne, upd_same], by rw [upd_ne hne] at hdx; exact hdx, q _ dx (fun b o hb => ?_) upd_same⟩⟩⟩
  have hdx' : H1 dx = none := by rw [upd_ne hne] at hdx; exact hdx
  have n1 := ne_of_none hb hdx'
  have n2 := ne_of_none hb ha
  rw [upd_ne n1, del_ne n2, upd_ne n2, upd_ne n1, upd_ne n2]
  exact hb
theorem mono_flds {K : PySem.W.Frag} {i : Nat} {f : Str} : ∀ σ H (Q Q' : List V → Hp → Prop), (∀ vs H', Q vs H' → Q' vs H') → tCons (tFld K (tVar i) f) tNil σ H Q → tCons (tFld K (tVar i) f) tNil σ H Q' :=
  fun σ H Q Q' g ⟨v, e, a, C, dx, fs, u, h1, h2, h3, h4, h5, q⟩ => ⟨v, e, a, C, dx, fs, u, h1, h2, h3, h4, h5, g _ _ q⟩
/-! ### the names of a kind -/
def someOf (l : Ctx) (k : Kd) : List Nm := (l.filter fun q => decide (q.2 = k)).map (·.1)
theorem someOf_snoc (l : Ctx) (k : Kd) (q : Nm × Kd) : someOf (l ++ [q]) k = if q.2 = k then someOf l k ++ [q.1] else someOf l k := by
  unfold someOf
  rw [List.filter_append, List.map_append]
  by_cases h : q.2 = k
  · rw [if_pos h, List.filter_cons_of_pos (by simpa using h)]; rfl
  · rw [if_neg h, List.filter_cons_of_neg (by simpa using h)]
    simp
theorem someOf_le (l : Ctx) (k : Kd) : (someOf l k).length ≤ l.length := by
  unfold someOf
  rw [List.length_map]
  exact List.length_filter_le _ _
theorem lc_some {σ : L2.St} {H : Hp} {D a : Addr} {ws : List V} {l : Ctx} {k : Kd} {g : TG} {tt : TT} {te : TE} {vs : List Nat} {Qd : Hp → Prop} (ha : H a = some (.lst ws)) (hl : All2 (NmAt K H) l ws) (hz : l.length ≤ 100000) (hD : H D = none)
    (hs : ∀ (q : Nm × Kd) (x : V) (H2 : Hp) (Q1 : VK) (Q0 : Hp → Prop), q ∈ l → Same H H2 → NmAt K H2 q x → (q.2 = k → Q1 (.str q.1.str) H2) → (q.2 ≠ k → Q0 H2) → g x (wipe σ vs) H2 fun σ2 H3 => wipe σ2 vs = wipe σ vs ∧ tt σ2 H3 fun b H4 => if b = true then te σ2 H4 Q1 else Q0 H4)
    (hd : ∀ H2, Same H H2 → H2 D = some (.lst (nmsV (someOf l k))) → Qd H2) :
    ∃ W : Nat → Nat → Hp → Prop, (∃ m, W 0 m (upd H D (.lst []))) ∧ ∀ i' m H, W i' m H →
      ((Itl K a).stop i' H ∧ Qd H) ∨ ((Itl K a).go i' H ∧ ∃ Nx : Hp → Prop, (∀ H', Nx H' → ∃ m', m' < m ∧ W (i' + 1) m' H') ∧ ∀ x H', (Itl K a).yld i' H x H' → g x (wipe σ vs) H' fun σ2 H2 => wipe σ2 vs = wipe σ vs ∧ tt σ2 H2 fun b H3 =>
        if b = true then te σ2 H3 fun y H4 => ∃ acc, H4 D = some (.lst acc) ∧ acc.length < sizeLine ∧ Nx (upd H4 D (.lst (acc ++ [y]))) else Nx H3) := by
  have m1 := hl.length
  have aD := ne_of_none ha hD
  refine lc_it (walk_list (xs := ws)) (fun j H2 => Same H H2 ∧ H2 D = some (.lst (nmsV (someOf (l.take j) k)))) ⟨same_new hD _, upd_same⟩ (fun j H2 _ h => .of (h.1 _ _ ha)) ?_ ?_
  · rintro j x H2 H3 hj ⟨s2, d2⟩ ⟨rfl, hx⟩
    have hjl : j < l.length := by rw [← m1]; exact hj
    have hq := List.getElem?_eq_getElem hjl
    obtain ⟨x', hx', pe⟩ := (hl.imp fun _ _ h => h.same s2).get hq
    obtain rfl : x' = x := Option.some.inj (hx'.symm.trans hx)
    have et : l.take (j + 1) = l.take j ++ [l[j]] := by rw [List.take_succ, hq]; rfl
    have zl := someOf_le (l.take j) k
    rw [List.length_take] at zl
    refine hs l[j] x' H3 _ _ (List.getElem_mem hjl) s2 pe (fun e => ⟨_, d2, ?_, fun b o hb => ?_, ?_⟩) (fun e => ⟨s2, ?_⟩)
    · unfold nmsV
      rw [List.length_map]
      exact small' (by omega)
    · rw [upd_ne (ne_of_none hb hD)]; exact s2 _ _ hb
    · rw [upd_same, et, someOf_snoc, if_pos e]
      unfold nmsV
      rw [List.map_append]; rfl
    · rw [et, someOf_snoc, if_neg e]; exact d2
  · rintro H2 ⟨s2, d2⟩
    rw [m1, List.take_length] at d2
    exact hd H2 s2 d2
theorem nmsV_flat (l : List Nm) : (nmsV l).all flatV = true := by
  unfold nmsV
  rw [List.all_map]
  exact List.all_eq_true.mpr fun _ _ => rfl
def spWhichOf (K : PySem.W.Frag) : Sp := fun vs H Q _ => ∃ (a : Addr) (x : Nm) (kv : V) (k : Kd) (l : Ctx) (ws : List V) (n : Nat), vs = [.ref a, .str x.str, kv] ∧ H a = some (.lst ws) ∧ All2 (NmAt K H) l ws ∧ KdAt K H k kv ∧ k.depth ≤ 100 ∧ l.length ≤ 10000 ∧
  (someOf l k).findIdx? (fun y => decide (y = x)) = some n ∧ Ret H Q fun _ u => u = .int n
theorem ok_whichOf (T : Tx w K mg) : Df P w K mg base CX0 1 "which_of" ["known", "name", "kind"] [] (spWhichOf K) := by
  refine df0 T.d_which_of T.g_which_of sc_which_of (fun _ _ _ _ _ _ us hl => match us, hl with | [_, _, _], _ => rfl) (fun vs H Q E h => ?_) (fun cdv A outer sh H vs Q E hr h => ?_)
  · obtain ⟨a, x, kv, k, l, ws, n, rfl, _⟩ := h
    rfl
  obtain ⟨a, x, kv, k, l, ws, n, rfl, ha, hl, hk, hkd, hz, hn, fin⟩ := h
  refine ⟨_, (pss_cons (ps_setLc (i := 3) (own := [("one", 4), ("other", 5)]) (g := gTup K 2 (gCons (gName 4) (gCons (gName 5) gNil))) (tt := tTest (tOp (rEqK K) (tVar 5) (tVar 2))) (te := tVar 4) rfl sc_which_of.nd rfl rfl (sw_true rfl rfl rfl (by decide +kernel)) (pi_list (pv 0)) (blkOk_by (own := [("one", 4), ("other", 5)]) (N := ["known", "name", "kind", "some", "one", "other"]) (sc := defScope s_which_of) (by decide +kernel))
          (fun _ _ _ _ _ => pg_tup rfl (pgs_cons (pg_name (i := 4) sc_which_of.nd rfl (Or.inl rfl)) (pgs_cons (pg_name (i := 5) sc_which_of.nd rfl (Or.inl rfl)) pgs_nil))) (fun _ _ _ _ _ => pts_one (pt_cmpR (op_eqK hr.u) (pv 5) (pv 2) (nomark _))) (fun _ _ _ _ _ => pv 4)) (pss_one (ps_ret (pe_bm PySem.F.plainAttrs_list PySem.F.slot_list_index PySem.F.type_list_index mt_index (pv 3) (pa_cons (pv 1) pa_nil))))), ?_⟩
  refine ⟨_, rfl, a, rfl, ⟨_, .of ha⟩, fun D hD => ?_⟩
  refine lc_some (k := k) ha hl (by omega) hD (fun q v H2 Q1 Q0 hm s2 hv h1 h0 => ?_) fun H2 s2 gD => ?_
  · obtain ⟨t, y, rfl, ht, hy⟩ := hv
    refine ⟨t, _, rfl, ht, rfl, _, _, rfl, _, _, rfl, rfl, rfl, _, rfl, _, rfl, q.2, k, hy, hk.same s2, by omega, _, rfl, ?_⟩
    exact if2 (fun e => ⟨_, rfl, h1 (of_decide_eq_true e)⟩) fun e => h0 (of_decide_eq_false e)
  · obtain ⟨hn1, hn2, hn3⟩ := List.findIdx?_eq_some_iff_getElem.mp hn
    refine ⟨_, rfl, tyL gD, _, rfl, D, _, .str x.str, n, .str ((someOf l k)[n]).str, rfl, rfl, .of gD, rfl, nmsV_flat _, nmsV_get (List.getElem?_eq_getElem hn1), ?_, fun m z hm hz => ?_, fin.of s2 rfl⟩
    · rw [eqV_str, of_decide_eq_true hn2]
      exact decide_eq_true rfl
    · obtain ⟨y, hy, rfl⟩ := get_map hz
      have := hn3 m hm
      rw [eqV_str]
      refine decide_eq_false fun e => this ?_
      have e2 : (someOf l k)[m] = y := by
        have := List.getElem?_eq_getElem (l := someOf l k) (i := m) (by omega)
        rw [this] at hy
        exact Option.some.inj hy
      rw [e2]
      exact decide_eq_true (Nm.inj e)
end
end KF

set_option Elab.async false
set_option linter.all false
set_option maxRecDepth 100000
set_option maxHeartbeats 4000000
namespace KF
open PySem PySem.Spec L2 TL
/-! ### what is told -/
abbrev Item := Nat × Nat × Nat
def TaP (T : Kd → Pg → List Nat → List Nat → List Item → Prop) : List Td → List Mv → List Nat → List Nat → List Item → Prop
  | [], [], rs, rs', its => rs' = rs ∧ its = []
  | .ar q :: td, .kd c :: mv, rs, rs', its => ∃ rs1 i1 i2, T c q rs rs1 i1 ∧ TaP T td mv rs1 rs' i2 ∧ its = i1 ++ i2
  | .one :: td, .one :: mv, rs, rs', its => TaP T td mv rs rs' its
  | .two :: td, .two :: mv, rs, rs', its => TaP T td mv rs rs' its
  | _, _, _, _, _ => False
structure TmP (rows : List (List Line)) (T : Kd → Pg → List Nat → List Nat → List Item → Prop) (l : Ctx) (p : Pg) (r : Nat) (its : List Item) (κ : Kd) (w : Nat) (mv : List Mv) (m : Bool) (ln : List Line) (i : Nat) (ns : List Nat) (wh : Nat) (rest : List Item) : Prop where
  sp : isSp p = true
  kn : knownAs l (pathOf p).2 = some κ
  wi : wayIn κ (pathOf p).1 = some w
  wy : (waysOf κ)[w]? = some (mv, m)
  rw_ : rows[r]? = some ln
  at_ : ln[i]? = some (shown κ, w, ns)
  few : ln.length ≤ 100000
  txt : ∀ x ∈ ln, ∃ k, x.1 = shown k
  fst : ∀ (j : Nat) (x : Line), j < i → ln[j]? = some x → ¬ (x.1 = shown κ ∧ x.2.1 = w)
  wh_ : (someOf l κ).findIdx? (fun y => decide (y = (pathOf p).2)) = some wh
  its_ : its = (r, i, wh) :: rest
  ta : ∃ rs', TaP T (pathOf p).1 mv ns rs' rest
def Tl (rows : List (List Line)) : Nat → Ctx → Nat → Kd → Pg → List Nat → List Nat → List Item → Prop
  | 0, _, _, _, _, _, _, _ => False
  | _ + 1, _, _, .one, p, rs, rs', its => p = .thing ∧ rs' = rs ∧ its = []
  | n + 1, l, t, .both a b, p, rs, rs', its => ∃ p1 p2 rs1 i1 i2, p = .pair p1 p2 ∧ Tl rows n l t a p1 rs rs1 i1 ∧ Tl rows n l t b p2 rs1 rs' i2 ∧ its = i1 ++ i2
  | n + 1, l, t, .to a b, p, rs, rs', its => ∃ q, p = .take (.x t) a q ∧ Tl rows n (l ++ [(.x t, a)]) (t + 1) b q rs rs' its
  | n + 1, l, t, .mark _, p, rs, rs', its => ∃ r, rs = r :: rs' ∧ ∃ κ w mv m ln i ns wh rest, TmP rows (Tl rows n l t) l p r its κ w mv m ln i ns wh rest
def ItAt (K : PySem.W.Frag) (H : Hp) (x : Item) (v : V) : Prop := ∃ t, v = .ref t ∧ SqT K H t [.int x.1, .int x.2.1, .int x.2.2]
theorem ItAt.ts {K : PySem.W.Frag} {H H' : Hp} (h : TS K H H') {x : Item} {v : V} : ItAt K H x v → ItAt K H' x v := fun ⟨t, e, q⟩ => ⟨t, e, h _ _ q⟩
/-! ### the maker -/
def mkF (r0 kv c r : V) (q mk : Addr) (d : Int) : List (Str × V) := [("row", r0), ("kind", kv), ("starts", c), ("rooms", r), ("lines", .ref q), ("making", .ref mk), ("done", .int d)]
def MkAt (K : PySem.W.Frag) (H : Hp) (s q mk : Addr) (d : Int) : Prop := ∃ dx r0 kv c r, H s = some (.ins (He.ga K "Maker") dx (mkF r0 kv c r q mk d))
section
variable {r0 kv c r : V} {q mk : Addr} {d : Int}
theorem mkF_lines : (mkF r0 kv c r q mk d).lookup ("lines" : Str) = some (.ref q) := by unfold mkF; rw [lookup_put, if_neg (by decide +kernel), lookup_put, if_neg (by decide +kernel), lookup_put, if_neg (by decide +kernel), lookup_put, if_neg (by decide +kernel), lookup_put, if_pos rfl]
theorem mkF_making : (mkF r0 kv c r q mk d).lookup ("making" : Str) = some (.ref mk) := by unfold mkF; rw [lookup_put, if_neg (by decide +kernel), lookup_put, if_neg (by decide +kernel), lookup_put, if_neg (by decide +kernel), lookup_put, if_neg (by decide +kernel), lookup_put, if_neg (by decide +kernel), lookup_put, if_pos rfl]
theorem mkF_done : (mkF r0 kv c r q mk d).lookup ("done" : Str) = some (.int d) := by unfold mkF; rw [lookup_put, if_neg (by decide +kernel), lookup_put, if_neg (by decide +kernel), lookup_put, if_neg (by decide +kernel), lookup_put, if_neg (by decide +kernel), lookup_put, if_neg (by decide +kernel), lookup_put, if_neg (by decide +kernel), lookup_put, if_pos rfl]
theorem mkF_starts : (mkF r0 kv c r q mk d).lookup ("starts" : Str) = some c := by unfold mkF; rw [lookup_put, if_neg (by decide +kernel), lookup_put, if_neg (by decide +kernel), lookup_put, if_pos rfl]
theorem mkF_no {m : Str} (h1 : ¬ m = "row") (h2 : ¬ m = "kind") (h3 : ¬ m = "starts") (h4 : ¬ m = "rooms") (h5 : ¬ m = "lines") (h6 : ¬ m = "making") (h7 : ¬ m = "done") : (mkF r0 kv c r q mk d).lookup m = none := by
  unfold mkF; rw [lookup_put, if_neg h1, lookup_put, if_neg h2, lookup_put, if_neg h3, lookup_put, if_neg h4, lookup_put, if_neg h5, lookup_put, if_neg h6, lookup_put, if_neg h7]; rfl
theorem mkF_tell : (mkF r0 kv c r q mk d).lookup ("tell" : Str) = none := mkF_no (by decide +kernel) (by decide +kernel) (by decide +kernel) (by decide +kernel) (by decide +kernel) (by decide +kernel) (by decide +kernel)
theorem mkF_tell_mark : (mkF r0 kv c r q mk d).lookup ("tell_mark" : Str) = none := mkF_no (by decide +kernel) (by decide +kernel) (by decide +kernel) (by decide +kernel) (by decide +kernel) (by decide +kernel) (by decide +kernel)
end
/-- what the teller may change -/
def tx (mk rl : Addr) (a : Addr) : Prop := a = mk ∨ a = rl
section
variable {P : Program} {w : World} {K : PySem.W.Frag} {mg : Str → Option Value} {base : Heap}
/-- the standing things of a teller -/
structure TeAt (K : PySem.W.Frag) (X : Addr → Prop) (H : Hp) (s q mk rl a : Addr) (rows : List (List Line)) (l : Ctx) (ws : List V) (rs : List Nat) (ms : List Item) (mv : List V) : Prop where
  mkr : MkAt K H s q mk 0
  lin : LinesAt K X H rows q
  kn : H a = some (.lst ws)
  kn2 : All2 (NmAt K H) l ws
  kn3 : ¬ X a
  rl_ : H rl = some (.lst (natV rs))
  mk_ : H mk = some (.lst mv)
  mk2 : All2 (ItAt K H) ms mv
  x1 : X mk
  x2 : X rl
  ne : rl ≠ mk
theorem TeAt.soft {X : Addr → Prop} {H : Hp} {s q mk rl a : Addr} {rows : List (List Line)} {l : Ctx} {ws : List V} {rs : List Nat} {ms : List Item} {mv : List V} (t : TeAt K X H s q mk rl a rows l ws rs ms mv) : ∀ b o, tx mk rl b → H b = some o → Soft o = true := by
  rintro b o (rfl | rfl) e
  · rw [t.mk_] at e; cases e; rfl
  · rw [t.rl_] at e; cases e; rfl
theorem TeAt.same {X : Addr → Prop} {H H' : Hp} {s q mk rl a : Addr} {rows : List (List Line)} {l : Ctx} {ws : List V} {rs : List Nat} {ms : List Item} {mv : List V} (t : TeAt K X H s q mk rl a rows l ws rs ms mv) (h : Same H H') : TeAt K X H' s q mk rl a rows l ws rs ms mv := by
  obtain ⟨⟨dx, r0, kv, c, r, h1⟩, ⟨h2, qs, h3, h4⟩, h5, h6, h7, h8, h9, h10, h11, h12, h13⟩ := t
  exact ⟨⟨dx, r0, kv, c, r, h _ _ h1⟩, ⟨h2, qs, h _ _ h3, h4.imp fun _ _ z => z.but (ButX.of h) h.ts⟩, h _ _ h5, h6.imp fun _ _ z => z.same h, h7, h _ _ h8, h _ _ h9, h10.imp fun _ _ z => z.ts h.ts, h11, h12, h13⟩
theorem TeAt.sne {X : Addr → Prop} {H : Hp} {s q mk rl a : Addr} {rows : List (List Line)} {l : Ctx} {ws : List V} {rs : List Nat} {ms : List Item} {mv : List V} (t : TeAt K X H s q mk rl a rows l ws rs ms mv) : ¬ tx mk rl s := by
  obtain ⟨⟨dx, r0, kv, c, r, h1⟩, _, _, _, _, h8, h9, _⟩ := t
  rintro (rfl | rfl)
  · rw [h1] at h9; cases h9
  · rw [h1] at h8; cases h8
/-- after a change at the making list and the rooms' list -/
theorem TeAt.but {X : Addr → Prop} {H H' : Hp} {s q mk rl a : Addr} {rows : List (List Line)} {l : Ctx} {ws : List V} {rs rs' : List Nat} {ms ms' : List Item} {mv mv' : List V} (t : TeAt K X H s q mk rl a rows l ws rs ms mv) (u : ButX (tx mk rl) H H')
    (h1 : H' rl = some (.lst (natV rs'))) (h2 : H' mk = some (.lst mv')) (h3 : All2 (ItAt K H') ms' mv') : TeAt K X H' s q mk rl a rows l ws rs' ms' mv' := by
  have ts := u.ts t.soft (K := K)
  have ns := t.sne
  obtain ⟨⟨dx, r0, kv, c, r, g1⟩, ⟨g2, qs, g3, g4⟩, g5, g6, g7, g8, g9, g10, g11, g12, g13⟩ := t
  have sub : ∀ b, tx mk rl b → X b := by rintro b (rfl | rfl) <;> assumption
  exact ⟨⟨dx, r0, kv, c, r, u _ _ ns g1⟩, ⟨g2, qs, u _ _ (fun z => g2 (sub _ z)) g3, g4.imp fun _ _ z => z.but (u.mono sub) ts⟩, u _ _ (fun z => g7 (sub _ z)) g5, g6.imp fun _ _ z => z.ts ts, g7, h1, h2, h3, g11, g12, g13⟩
def spTell (K : PySem.W.Frag) (n : Nat) : Sp := fun vs H Q _ => ∃ (X : Addr → Prop) (s q mk rl a : Addr) (kv v : V) (rows : List (List Line)) (l : Ctx) (ws : List V) (rs rs' : List Nat) (ms its : List Item) (mv : List V) (t : Nat) (k : Kd) (p : Pg), vs = [.ref s, .ref a, kv, v, .ref rl] ∧ TeAt K X H s q mk rl a rows l ws rs ms mv ∧
  KdAt K H k kv ∧ PgAt K H p v ∧ Tl rows n l t k p rs rs' its ∧ (∀ x ∈ l, x.2.depth ≤ 12 ∧ x.2.leaves ≤ 24) ∧ k.depth ≤ 12 ∧ k.leaves ≤ 24 ∧ l.length + n ≤ 1000 ∧ p.deep ≤ 200 ∧ ms.length + its.length ≤ 100000 ∧
  ∀ H' mv', ButX (tx mk rl) H H' → H' rl = some (.lst (natV rs')) → H' mk = some (.lst mv') → All2 (ItAt K H') (ms ++ its) mv' → Q .non H'
def spTellMark (K : PySem.W.Frag) (n : Nat) : Sp := fun vs H Q _ => ∃ (X : Addr → Prop) (s q mk a : Addr) (v : V) (rows : List (List Line)) (l : Ctx) (ws : List V) (ms its : List Item) (mv : List V) (t : Nat) (p : Pg) (r : Nat) (κ : Kd) (w : Nat) (mvs : List Mv) (m : Bool) (ln : List Line) (i : Nat) (ns : List Nat) (wh : Nat) (rest : List Item),
  vs = [.ref s, .ref a, v, .int r] ∧ MkAt K H s q mk 0 ∧ LinesAt K X H rows q ∧ H a = some (.lst ws) ∧ All2 (NmAt K H) l ws ∧ ¬ X a ∧ H mk = some (.lst mv) ∧ All2 (ItAt K H) ms mv ∧ X mk ∧ PgAt K H p v ∧
  TmP rows (Tl rows n l t) l p r its κ w mvs m ln i ns wh rest ∧ (∀ x ∈ l, x.2.depth ≤ 12 ∧ x.2.leaves ≤ 24) ∧ l.length + n ≤ 1000 ∧ p.deep ≤ 200 ∧ ms.length + its.length ≤ 100000 ∧
  ∀ H' mv', But mk H H' → H' mk = some (.lst mv') → All2 (ItAt K H') (ms ++ its) mv' → Q .non H'
theorem lay_ln (x : Line) : (PyData.tuple [.str x.1, .int x.2.1]).canLay0 = true ∨ True := .inr trivial
theorem rfl_app (x : List Item) : x ++ [] = x := List.append_nil x
theorem ok_tell_of (T : Tx w K mg) (n : Nat) (GT : Dm P w K mg base CX0 (2 * n + 20) "Maker" "tell" ["self", "known", "kind", "program", "rooms"] (spTell K n))
    (GM : Dm P w K mg base CX0 (2 * n + 21) "Maker" "tell_mark" ["self", "known", "program", "room"] (spTellMark K n)) :
    Dm P w K mg base CX0 (2 * (n + 1) + 20) "Maker" "tell" ["self", "known", "kind", "program", "rooms"] (spTell K (n + 1)) := by
  refine dm0 T.d_Maker_tell T.cl_Maker T.m_Maker_tell sc_Maker_tell (fun _ _ _ _ _ _ us hl => match us, hl with | [_, _, _, _, _], _ => rfl) (fun vs H Q E h => ?_) (fun cdv A outer sh H vs Q E hr h => ?_)
  · obtain ⟨X, s, q, mk, rl, a, kv, v, rows, l, ws, rs, rs', ms, its, mv, t, k, p, rfl, _⟩ := h
    rfl
  obtain ⟨X, s, q, mk, rl, a, kv, v, rows, l, ws, rs, rs', ms, its, mv, t, k, p, rfl, hte, hk, hp, htl, hld, hkd, hkl, hz, hpd, hz2, fin⟩ := h
  have GT1 := GT.mono (show 2 * n + 20 ≤ 2 * n + 21 by omega)
  have GM1 := GM.mono (show 2 * n + 21 ≤ 2 * n + 21 by omega)
  refine ⟨_, (pss_cons (ps_if (pt_cmpR (op_eqK hr.u) (pv 2) (pe_glob (v := .ref (He.ga K "ONE")) rfl T.i_ONE rfl) (nomark _)) (pss_one (ps_retN)) pss_nil) (pss_one (ps_if (pt_tag (pv 2) mono_var)
        (pss_cons (ps_expr (mcal GT1 hr pass0 (pv 0) (pa_cons (pv 1) (pa_cons (pv_at 2 1) (pa_cons (pv_at 3 1) (pa_cons (pv 4) pa_nil)))))) (pss_one (ps_expr (mcal GT1 hr pass0 (pv 0) (pa_cons (pv 1) (pa_cons (pv_at 2 2) (pa_cons (pv_at 3 2) (pa_cons (pv 4) pa_nil))))))))
        (pss_one (ps_if (pt_tag (pv 2) mono_var)
            (pss_one (ps_expr (mcal GT1 hr pass0 (pv 0) (pa_cons (pe_op op_cat (pv 1) (pe_lst (pa_cons (pe_tup (pa_cons (pv_at 3 1) (pa_cons (pv_at 2 1) pa_nil))) pa_nil))) (pa_cons (pv_at 2 2) (pa_cons (pv_at 3 3) (pa_cons (pv 4) pa_nil)))))))
            (pss_one (ps_expr (mcal GM1 hr pass0 (pv 0) (pa_cons (pv 1) (pa_cons (pv 3) (pa_cons (pe_bm PySem.F.plainAttrs_list PySem.F.slot_list_pop PySem.F.type_list_pop mt_popAt (pv 4) (pa_cons pe_int pa_nil)) pa_nil))))))))))), ?_⟩
  refine ⟨_, rfl, k, .one, hk, one_at T H, by show min k.depth 0 ≤ 300; omega, _, rfl, ?_⟩
  have hmk := hte.mkr
  obtain ⟨dx, r0, kv0, c0, rr, hobj⟩ := hmk
  cases k with
  | one =>
    rw [Tl] at htl
    obtain ⟨rfl, rfl, rfl⟩ := htl
    refine ifT (decide_eq_true rfl) (fin H mv (ButX.of (.refl H)) hte.rl_ hte.mk_ ?_)
    rw [List.append_nil]
    exact hte.mk2
  | both k1 k2 =>
    rw [Tl] at htl
    obtain ⟨p1, p2, rs1, i1, i2, rfl, h1, h2, rfl⟩ := htl
    have hkd' : 1 + max k1.depth k2.depth ≤ 12 := hkd
    have hkl' : k1.leaves + k2.leaves ≤ 24 := hkl
    have hpd' : max p1.deep p2.deep + 1 ≤ 200 := hpd
    obtain ⟨b, y, z, rfl, tb, hy, hz'⟩ := hk
    obtain ⟨c, y', z', rfl, tc, hy', hz''⟩ := hp
    rw [List.length_append] at hz2
    refine ifF (decide_eq_false fun e => by cases e) ⟨_, rfl, b, _, _, rfl, tb, ifT (by decide +kernel) ?_⟩
    refine ⟨_, rfl, s, dx, _, rfl, hobj, mkF_tell, _, rfl, _, rfl, b, _, _, rfl, tb, rfl, _, rfl, c, _, _, rfl, tc, rfl, _, rfl, ?_⟩
    refine ⟨X, s, q, mk, rl, a, y, y', rows, l, ws, rs, rs1, ms, i1, mv, t, k1, p1, rfl, hte, hy, hy', h1, hld, by omega, by omega, by omega, by omega, by omega, fun H1 mv1 u1 r1 m1 a1 => ?_⟩
    have ts1 := u1.ts hte.soft (K := K)
    have hte1 := hte.but u1 r1 m1 a1
    obtain ⟨dx1, r01, kv01, c01, rr1, hobj1⟩ := hte1.mkr
    refine ⟨_, rfl, s, dx1, _, rfl, hobj1, mkF_tell, _, rfl, _, rfl, b, _, _, rfl, ts1 _ _ tb, rfl, _, rfl, c, _, _, rfl, ts1 _ _ tc, rfl, _, rfl, ?_⟩
    refine ⟨X, s, q, mk, rl, a, z, z', rows, l, ws, rs1, rs', ms ++ i1, i2, mv1, t, k2, p2, rfl, hte1, hz'.ts ts1, hz''.ts ts1, h2, hld, by omega, by omega, by omega, by omega, by rw [List.length_append]; omega, fun H2 mv2 u2 r2 m2 a2 => ?_⟩
    rw [List.append_assoc] at a2
    exact fin H2 mv2 (u1.trans u2) r2 m2 a2
  | to k1 k2 =>
    rw [Tl] at htl
    obtain ⟨p1, rfl, h1⟩ := htl
    have hkd' : 1 + max k1.depth k2.depth ≤ 12 := hkd
    have hkl' : k1.leaves + k2.leaves ≤ 24 := hkl
    have hpd' : p1.deep + 1 ≤ 200 := hpd
    obtain ⟨b, y, z, rfl, tb, hy, hz'⟩ := hk
    obtain ⟨c, y', z', rfl, tc, hy', hz''⟩ := hp
    refine ifF (decide_eq_false fun e => by cases e) ⟨_, rfl, b, _, _, rfl, tb, ifF (by decide +kernel) ⟨_, rfl, b, _, _, rfl, tb, ifT (by decide +kernel) ?_⟩⟩
    have hwl := hte.kn2.length
    refine ⟨_, rfl, s, dx, _, rfl, hobj, mkF_tell, _, rfl, _, rfl, c, _, _, rfl, tc, rfl, _, rfl, b, _, _, rfl, tb, rfl, sz2, fun c1 hc1 => ⟨sz1, fun c2 hc2 => ?_⟩⟩
    have s1 := same_new hc1 (.tup [.str (Nm.x t).str, y])
    have s2 := same_new hc2 (.lst [.ref c1])
    refine ⟨a, c2, _, _, rfl, rfl, s2 _ _ (s1 _ _ hte.kn), upd_same, by show ws.length + 1 ≤ sizeLine; exact small (by omega), fun c3 hc3 => ?_⟩
    have s3 := same_new hc3 (.lst (ws ++ [.ref c1]))
    have s123 := s1.trans (s2.trans s3)
    refine ⟨_, rfl, b, _, _, rfl, s123.tup tb, rfl, _, rfl, c, _, _, rfl, s123.tup tc, rfl, _, rfl, ?_⟩
    have hte3 := hte.same s123
    have hc3H : H c3 = none := s1.free (s2.free hc3)
    let X' : Addr → Prop := fun b => X b ∧ b ≠ c3
    have hteX : TeAt K X' _ s q mk rl c3 rows (l ++ [(.x t, k1)]) (ws ++ [.ref c1]) rs ms mv :=
      ⟨hte3.mkr, ⟨fun z => hte3.lin.1 z.1, by
        obtain ⟨qs, g1, g2⟩ := hte3.lin.2
        exact ⟨qs, g1, g2.imp fun _ _ h => h.to fun _ _ _ na z => na z.1⟩⟩, upd_same, hte3.kn2.snoc ⟨c1, y, rfl, (s2.trans s3).tup (.of upd_same), hy.same s123⟩, fun z => z.2 rfl, hte3.rl_, hte3.mk_, hte3.mk2,
        ⟨hte3.x1, fun e => by rw [← e, hte.mk_] at hc3H; cases hc3H⟩, ⟨hte3.x2, fun e => by rw [← e, hte.rl_] at hc3H; cases hc3H⟩, hte3.ne⟩
    refine ⟨X', s, q, mk, rl, c3, z, z', rows, l ++ [(.x t, k1)], ws ++ [.ref c1], rs, rs', ms, its, mv, t + 1, k2, p1, rfl, hteX, hz'.same s123, hz''.same s123, h1, fun x hx => ?_, by omega, by omega, by rw [List.length_append]; show l.length + 1 + n ≤ _; omega, by omega, hz2, fun H2 mv2 u2 r2 m2 a2 => fin H2 mv2 ((ButX.of s123).trans u2) r2 m2 a2⟩
    rcases List.mem_append.mp hx with hx | hx
    · exact hld x hx
    · simp at hx; subst hx; exact ⟨by show k1.depth ≤ 12; omega, by show k1.leaves ≤ 24; omega⟩
  | mark mm =>
    rw [Tl] at htl
    obtain ⟨r, rfl, κ, ww, mvs, m, ln, i, ns, wh, rest, htm⟩ := htl
    obtain ⟨b, rfl, tb⟩ := hk
    refine ifF (decide_eq_false fun e => by cases e) ⟨_, rfl, b, _, _, rfl, tb, ifF (by decide +kernel) ⟨_, rfl, b, _, _, rfl, tb, ifF (by decide +kernel) ?_⟩⟩
    refine ⟨_, rfl, s, dx, _, rfl, hobj, mkF_tell_mark, _, rfl, _, rfl, _, rfl, tyL hte.rl_, rl, natV (r :: rs'), 0, 0, .int r, rfl, rfl, hte.rl_, by omega, by omega, by unfold seqIndex?; simp [natV], rfl, ?_⟩
    have e0 : (natV (r :: rs')).eraseIdx 0 = natV rs' := rfl
    rw [e0]
    have u0 : ButX (tx mk rl) H (upd H rl (.lst (natV rs'))) := ButX.upd (.inr rfl)
    have ts0 := u0.ts hte.soft (K := K)
    have m0 : upd H rl (.lst (natV rs')) mk = some (.lst mv) := by rw [upd_ne (Ne.symm hte.ne)]; exact hte.mk_
    have hte0 := hte.but (rs' := rs') u0 upd_same m0 (hte.mk2.imp fun _ _ h => h.ts ts0)
    refine ⟨X, s, q, mk, a, v, rows, l, ws, ms, its, mv, t, p, r, κ, ww, mvs, m, ln, i, ns, wh, rest, rfl, hte0.mkr, hte0.lin, hte0.kn, hte0.kn2, hte0.kn3, hte0.mk_, hte0.mk2, hte0.x1, hp.ts ts0, htm, hld, by omega, hpd, hz2, fun H1 mv1 u1 m1 a1 => fin H1 mv1 (u0.trans fun b o nb e => u1 _ _ (fun z => nb (.inl z)) e) (u1 _ _ hte.ne hte0.rl_) m1 a1⟩
end
end KF

set_option Elab.async false
set_option linter.all false
set_option maxRecDepth 100000
set_option maxHeartbeats 4000000
namespace KF
open PySem PySem.Spec L2 TL
theorem LR.u65 {k : Nat} {A : Around} (r : LR k A) : A.units + 65 < cLine := by have := r.un; omega
theorem shown_low (k : Kd) : Low (shown k) := by
  have e1 : tl (Str.ofString "( ") = [40, 32] := by rw [tl_lit]; rfl
  have e2 : tl (Str.ofString " )") = [32, 41] := by rw [tl_lit]; rfl
  have e3 : tl (Str.ofString " ") = [32] := by rw [tl_lit]; rfl
  have e4 : tl (Str.ofString "->") = [45, 62] := by rw [tl_lit]; rfl
  have e5 : tl (Str.ofString "*") = [42] := by rw [tl_lit]; rfl
  induction k with
  | one =>
    intro c hc
    have e : tl (shown .one) = [49] := by show tl (Str.ofString "1") = _; rw [tl_lit]; rfl
    rw [e] at hc
    simp at hc
    omega
  | mark m =>
    intro c hc
    have e : tl (shown (.mark m)) = [if m then 98 else 97] := by
      cases m
      · show tl (Str.ofString "a") = _; rw [tl_lit]; rfl
      · show tl (Str.ofString "b") = _; rw [tl_lit]; rfl
    rw [e] at hc
    simp at hc
    subst hc
    split <;> decide
  | to a b h h' =>
    intro c hc
    rw [shown] at hc
    simp only [tl_append, e1, e2, e3, e4, e5, List.mem_append, List.mem_cons, List.not_mem_nil, or_false] at hc
    have ha := h c
    have hb := h' c
    rcases hc with (((((hc | hc) | hc) | hc) | hc) | hc) | hc
    all_goals first | exact ha hc | exact hb hc | omega
  | both a b h h' =>
    intro c hc
    rw [shown] at hc
    simp only [tl_append, e1, e2, e3, e4, e5, List.mem_append, List.mem_cons, List.not_mem_nil, or_false] at hc
    have ha := h c
    have hb := h' c
    rcases hc with (((((hc | hc) | hc) | hc) | hc) | hc) | hc
    all_goals first | exact ha hc | exact hb hc | omega
def lnD (x : Str × Nat) : PyData := .tuple [.str x.1, .int x.2]
theorem lnD_eqv (x y : Str × Nat) : PyData.eqv (lnD x) (lnD y) = (decide (x.1 = y.1) && decide (x.2 = y.2)) := by
  unfold lnD
  rw [ev_tt, ev_cc, ev_cc, ev_nn, ev_ss, ev_ii, Bool.and_true]
  congr 1
  by_cases h : x.2 = y.2
  · rw [h]; simp
  · rw [decide_eq_false h]
    exact beq_eq_false_iff_ne.mpr fun z => h (by omega)
theorem lnD_lay {x : Str × Nat} (h : PyData.strOk x.1 = true) : (lnD x).canLay0 = true := by
  simp only [lnD, PyData.canLay0, PyData.canLayAll0, h]; decide
theorem lnD_depth (x : Str × Nat) : (lnD x).depth = 1 := by
  simp only [lnD, PyData.depth, PyData.depthAll]; decide
theorem lnD_lays : ∀ {l : List (Str × Nat)}, (∀ x ∈ l, PyData.strOk x.1 = true) → PyData.canLayAll0 (l.map lnD) = true ∧ PyData.depthAll (l.map lnD) ≤ 1
  | [], _ => ⟨by rw [List.map_nil, PyData.canLayAll0], by rw [List.map_nil, PyData.depthAll]; decide⟩
  | x :: l, h => by
    obtain ⟨h1, h2⟩ := lnD_lays (l := l) fun y hy => h y (List.mem_cons_of_mem _ hy)
    rw [List.map_cons, PyData.canLayAll0, PyData.depthAll, lnD_lay (h x List.mem_cons_self), h1, lnD_depth]
    exact ⟨rfl, by omega⟩
theorem TaP_len {T : Kd → Pg → List Nat → List Nat → List Item → Prop} : ∀ {td : List Td} {mv : List Mv} {rs rs' : List Nat} {its : List Item}, TaP T td mv rs rs' its → td.length = mv.length
  | [], [], _, _, _, _ => rfl
  | .ar _ :: td, .kd _ :: mv, _, _, _, h => by obtain ⟨_, _, _, _, h, _⟩ := h; exact congrArg (· + 1) (TaP_len h)
  | .one :: td, .one :: mv, _, _, _, h => congrArg (· + 1) (TaP_len (td := td) (mv := mv) h)
  | .two :: td, .two :: mv, _, _, _, h => congrArg (· + 1) (TaP_len (td := td) (mv := mv) h)
  | [], _ :: _, _, _, _, h => by simp [TaP] at h
  | _ :: _, [], _, _, _, h => by simp [TaP] at h
  | .ar _ :: _, .one :: _, _, _, _, h => by simp [TaP] at h
  | .ar _ :: _, .two :: _, _, _, _, h => by simp [TaP] at h
  | .one :: _, .kd _ :: _, _, _, _, h => by simp [TaP] at h
  | .one :: _, .two :: _, _, _, _, h => by simp [TaP] at h
  | .two :: _, .kd _ :: _, _, _, _, h => by simp [TaP] at h
  | .two :: _, .one :: _, _, _, _, h => by simp [TaP] at h
theorem path_deep {p : Pg} (h : isSp p = true) : ∀ q, Td.ar q ∈ (pathOf p).1 → q.deep < p.deep := by
  induction p with
  | name x => intro q hq; cases hq
  | thing => cases h
  | take x k p ih => cases h
  | pair p q ih ih' => cases h
  | give p q ih ih' =>
    intro r hr
    show r.deep < max p.deep q.deep + 1
    rcases List.mem_append.mp hr with z | z
    · have := ih h r z; omega
    · cases List.mem_singleton.mp z; omega
  | first p ih =>
    intro r hr
    show r.deep < p.deep + 1
    rcases List.mem_append.mp hr with z | z
    · have := ih h r z; omega
    · cases List.mem_singleton.mp z
  | second p ih =>
    intro r hr
    show r.deep < p.deep + 1
    rcases List.mem_append.mp hr with z | z
    · have := ih h r z; omega
    · cases List.mem_singleton.mp z
section
variable {P : Program} {w : World} {K : PySem.W.Frag} {mg : Str → Option Value} {base : Heap}
theorem ok_tellMark_of (T : Tx w K mg) (n : Nat) (GT : Dm P w K mg base CX0 (2 * n + 20) "Maker" "tell" ["self", "known", "kind", "program", "rooms"] (spTell K n)) :
    Dm P w K mg base CX0 (2 * n + 21) "Maker" "tell_mark" ["self", "known", "program", "room"] (spTellMark K n) := by
  have GMI := (ok_movesIn (P := P) (base := base) T).mono (show 1 ≤ 2 * n + 20 by omega)
  have GK := (ok_knownAs (P := P) (base := base) T).mono (show 1 ≤ 2 * n + 20 by omega)
  have GSh := (ok_shown (P := P) (base := base) T 13).mono (show 13 ≤ 2 * n + 20 by omega)
  have GWI := (ok_wayIn (P := P) (base := base) T).mono (show 14 ≤ 2 * n + 20 by omega)
  have GWh := (ok_whichOf (P := P) (base := base) T).mono (show 1 ≤ 2 * n + 20 by omega)
  have GW := (ok_waysN (P := P) (base := base) T 13).mono (show 13 ≤ 2 * n + 20 by omega)
  refine dm0 T.d_Maker_tell_mark T.cl_Maker T.m_Maker_tell_mark sc_Maker_tell_mark (fun _ _ _ _ _ _ us hl => match us, hl with | [_, _, _, _], _ => rfl) (fun vs H Q E h => ?_) (fun cdv A outer sh H vs Q E hr h => ?_)
  · obtain ⟨X, s, q, mk, a, v, rows, l, ws, ms, its, mv, t, p, r, κ, ww, mvs, m, ln, i, ns, wh, rest, rfl, _⟩ := h
    rfl
  obtain ⟨X, s, q, mk, a, v, rows, l, ws, ms, its, mv, t, p, r, κ, ww, mvs, m, ln, i, ns, wh, rest, rfl, hmk, hlin, ha, hl, hxa, hm1, hm2, hxm, hp, htm, hld, hz, hpd, hz2, fin⟩ := h
  refine ⟨_, (pss_cons (ps_asg (cal GMI hr pass0 (pa_cons (pv 2) pa_nil)) (pg_tup rfl (pgs_cons (pg_name (i := 4) sc_Maker_tell_mark.nd rfl (Or.inl rfl)) (pgs_cons (pg_name (i := 5) sc_Maker_tell_mark.nd rfl (Or.inl rfl)) pgs_nil)))) (pss_cons (ps_set (i := 6) sc_Maker_tell_mark.nd rfl (.inl rfl) (cal GK hr pass0 (pa_cons (pv 1) (pa_cons (pv 5) pa_nil)))) (pss_cons (ps_set (i := 7) sc_Maker_tell_mark.nd rfl (.inl rfl) (cal GSh hr pass0 (pa_cons (pv 6) pa_nil))) (pss_cons (ps_set (i := 8) sc_Maker_tell_mark.nd rfl (.inl rfl) (cal GWI hr pass0 (pa_cons (pv 6) (pa_cons (pv 4) pa_nil)))) (pss_cons (ps_set (i := 9) sc_Maker_tell_mark.nd rfl (.inl rfl) (pe_bm PySem.F.plainAttrs_list PySem.F.slot_list_index PySem.F.type_list_index (mt_indexD hr.u65)
        (pe_lc (own := [("line", 13)]) (g := gName 13) (tt := tYes) (te := tSl (rSlA K) (tVar 13) tNoPart (tPart (tC (.int 2)))) rfl sc_Maker_tell_mark.nd (pi_list (pe_ix ix_list (pe_fld (pv 0) rfl) (pv 3) (fun _ _ => rfl))) (blkOk_by (own := [("line", 13)]) (N := ["self", "known", "program", "room", "told", "name", "kind", "text", "way", "at", "rooms", "one", "move", "line"]) (sc := defScope s_Maker_tell_mark) (by decide +kernel))
          (fun _ _ _ _ _ => pg_name (i := 13) sc_Maker_tell_mark.nd rfl (Or.inl rfl)) (fun _ _ _ _ _ => pts_nil) (fun _ _ _ _ _ => pe_slice sl_tupA (pv 13) po_none (po_some pe_int)))
        (pa_cons (pe_tup (pa_cons (pv 7) (pa_cons (pv 8) pa_nil))) pa_nil))) (pss_cons (ps_expr (pe_bm PySem.F.plainAttrs_list PySem.F.slot_list_append PySem.F.type_list_append mt_append (pe_fld (pv 0) rfl) (pa_cons (pe_tup (pa_cons (pv 3) (pa_cons (pv 9) (pa_cons (cal GWh hr pass0 (pa_cons (pv 1) (pa_cons (pv 5) (pa_cons (pv 6) pa_nil)))) pa_nil)))) pa_nil))) (pss_cons (ps_set (i := 10) sc_Maker_tell_mark.nd rfl (.inl rfl) (pe_callTy call_list_of rfl T.n_list (by decide +kernel) (pa_cons (pe_ix ix_tup (pe_ix ix_list (pe_ix ix_list (pe_fld (pv 0) rfl) (pv 3) (fun _ _ => rfl)) (pv 9) (fun _ _ => rfl)) pe_int (fun _ _ => rfl)) pa_nil))) (pss_one (ps_for PassesOwn.never rfl (pi_zip rfl T.n_zip (pa_cons (pv 4) (pa_cons (pe_ix ix_tup (pe_ix ix_list (cal GW hr pass0 (pa_cons (pv 6) pa_nil)) (pv 8) (fun _ _ => rfl)) pe_int (fun _ _ => rfl)) pa_nil))) (pg_tup rfl (pgs_cons (pg_name (i := 11) sc_Maker_tell_mark.nd rfl (Or.inl rfl)) (pgs_cons (pg_name (i := 12) sc_Maker_tell_mark.nd rfl (Or.inl rfl)) pgs_nil)))
      (pss_one (ps_if (pt_val (pe_callB call_isi rfl T.n_isinstance (by decide +kernel) (pa_cons (pv 11) (pa_cons (pe_bltn (v := .ty "tuple") rfl T.n_tuple (by decide +kernel) rfl) pa_nil))))
          (pss_one (ps_expr (mcal GT hr pass0 (pv 0) (pa_cons (pv 1) (pa_cons (pv 12) (pa_cons (pv_at 11 0) (pa_cons (pv 10) pa_nil))))))) pss_nil))))))))))), ?_⟩
  obtain ⟨hsp, hkn, hwi, hwy, hrw, hat, hfew, htxt, hfst, hwh, rfl, rsf, hta⟩ := htm
  obtain ⟨hκ1, hκ2⟩ := hld _ (knownAs_mem hkn)
  have hκ1' : κ.depth ≤ 12 := hκ1
  have hκ2' : κ.leaves ≤ 24 := hκ2
  refine ⟨_, rfl, v, p, rfl, hp, hsp, by omega, fun H1 b1 td ts s1 ht1 ntd g1 al1 => ?_⟩
  refine ⟨b1, _, rfl, ht1, rfl, _, _, rfl, _, _, rfl, rfl, ?_⟩
  refine ⟨_, rfl, _, rfl, a, (pathOf p).2, l, ws, κ, rfl, s1 _ _ ha, hl.imp fun _ _ h => h.same s1, hkn, fun kv hkv => ?_⟩
  refine ⟨_, rfl, kv, κ, rfl, hkv, by omega, by omega, ?_⟩
  refine ⟨_, rfl, _, rfl, td, kv, κ, _, ts, ww, rfl, hkv, by omega, by omega, g1, al1, hwi, fun _ H2 s2 e => ?_⟩
  subst e
  have s12 := s1.trans s2
  obtain ⟨dx, r0, kv0, c0, rr, hobj⟩ := id hmk
  obtain ⟨hq1, qs, hq2, hq3⟩ := id hlin
  obtain ⟨lv, hlv, lc, lvs, rfl, nlc, glc, alc⟩ := hq3.get hrw
  have hlv2 : atI qs (r : Int) = some (.ref lc) := atI_nat hlv
  refine ⟨_, rfl, s, _, dx, _, _, rfl, s12 _ _ hobj, T.cl_Maker, T.a_Maker_lines, mkF_lines, _, rfl, q, qs, _, _, rfl, rfl, .of (s12 _ _ hq2), hlv2, lc, rfl, ⟨_, .of (s12 _ _ glc)⟩, fun D hD => ?_⟩
  have ml := alc.length
  have alc2 : All2 (LnAt K X H2) ln lvs := alc.imp fun _ _ h => h.but (ButX.of s12) s12.ts
  refine lc_build (K := K) (walk_list (xs := lvs)) (fun H (x : Line) v => ∃ t, v = V.ref t ∧ SqT K H t [.str x.1, .int x.2.1]) ln ml.symm (by omega) hD (fun H' s' => .of (s' _ _ (s12 _ _ glc))) (fun j x v H3 H4 Q2 hb2 s3 hY q2 => ?_) (fun H3 ys s3 gD rD => ?_)
  · obtain ⟨rfl, hx⟩ := hY
    obtain ⟨x', hx', u, c, rfl, hu, _⟩ := (alc2.imp fun _ _ h => h.but (ButX.of s3) s3.ts).get hb2
    obtain rfl : V.ref u = v := Option.some.inj (hx'.symm.trans hx)
    refine ⟨rfl, _, rfl, _, rfl, u, _, rfl, hu, fun z => ?_, fun z e he => ?_⟩
    · exact absurd z (by show ¬ (HT.sIx 3 0 none = 0 ∧ HT.sIx 3 3 (some 2) = 3); decide +kernel)
    · exact q2 _ _ (same_new he _) fun H'' xx => ⟨e, rfl, (xx.all (same_new he _)) _ _ (.of upd_same)⟩
  have r3 := rD H3 (.self s3)
  have s13 := s12.trans s3
  refine ⟨tyL gD, _, rfl, _, rfl, sz2, fun c4 hc4 => ?_⟩
  have s4 := same_new hc4 (.tup [.str (shown κ), .int (ww : Nat)])
  have s14 := s13.trans s4
  have dpl : DpAll K (upd H3 c4 (.tup [.str (shown κ), .int (ww : Nat)])) ys (ln.map fun x : Line => lnD (x.1, x.2.1)) := All2.dp (f := fun x : Line => lnD (x.1, x.2.1)) (fun x v ⟨t, e, q⟩ => e ▸ .tup (s4.tup q) (.cons (.str _) (.cons (.int _) .nil))) r3
  have okall : ∀ x ∈ ln.map (fun x : Line => (x.1, x.2.1)), PyData.strOk x.1 = true := fun x hx => by
    obtain ⟨y, hy, rfl⟩ := List.mem_map.mp hx
    obtain ⟨k, e⟩ := htxt y hy
    show PyData.strOk y.1 = true
    rw [e]; exact (shown_low k).ok
  obtain ⟨lay1, lay2⟩ := lnD_lays okall
  have emap : (ln.map fun x : Line => lnD (x.1, x.2.1)) = (ln.map fun x : Line => (x.1, x.2.1)).map lnD := by rw [List.map_map]; rfl
  refine ⟨D, .ref c4, lnD (shown κ, ww), ln.map fun x : Line => lnD (x.1, x.2.1), i, lnD (shown κ, ww), rfl, rfl, .lst (.of (s4 _ _ gD)) dpl, .tup (.of upd_same) (.cons (.str _) (.cons (.int _) .nil)), ?_, ?_, by rw [List.getElem?_map, hat]; rfl, by rw [lnD_eqv]; simp, fun j z hj hz' => ?_, ?_⟩
  · unfold SeqAt.shaped
    rw [emap, PyData.canLay0, lay1, PyData.depth]
    exact decide_eq_true (by omega)
  · unfold SeqAt.shaped
    rw [lnD_lay (shown_low κ).ok, lnD_depth]; rfl
  · obtain ⟨y, hy, rfl⟩ := get_map hz'
    have := hfst j y hj hy
    rw [lnD_eqv]
    cases e : (decide (y.1 = shown κ) && decide (y.2.1 = ww)) with
    | false => rfl
    | true =>
      have e2 := Bool.and_eq_true_iff.mp e
      exact absurd ⟨of_decide_eq_true e2.1, of_decide_eq_true e2.2⟩ this
  have m4 := s14 _ _ hm1
  refine ⟨_, rfl, s, _, dx, _, _, rfl, s14 _ _ hobj, T.cl_Maker, T.a_Maker_making, mkF_making, tyL m4, _, rfl, _, rfl, _, rfl, _, rfl, _, rfl, a, (pathOf p).2, kv, κ, l, ws, wh, rfl, s14 _ _ ha, hl.imp fun _ _ h => h.same s14, (hkv.same (s2.trans (s3.trans s4))), by omega, by omega, hwh, fun _ H5 s5 e => ?_⟩
  subst e
  have s15 := s14.trans s5
  refine ⟨sz3, fun c6 hc6 => ?_⟩
  have s6 := same_new hc6 (.tup [.int (r : Nat), .int (i : Nat), .int (wh : Nat)])
  have s16 := s15.trans s6
  have m6 := s16 _ _ hm1
  have mlen := hm2.length
  refine ⟨mk, mv, _, rfl, rfl, m6, small' (by omega), ?_⟩
  have smk : s ≠ mk := by rintro rfl; rw [hobj] at hm1; cases hm1
  obtain ⟨H6, eH6⟩ : ∃ H6, H6 = upd H5 c6 (.tup [.int (r : Nat), .int (i : Nat), .int (wh : Nat)]) := ⟨_, rfl⟩
  rw [← eH6] at s6 s16 m6 ⊢
  have tupc : SqT K H6 c6 [.int (r : Nat), .int (i : Nat), .int (wh : Nat)] := by rw [eH6]; exact .of upd_same
  have u7 : But mk H6 (upd H6 mk (.lst (mv ++ [.ref c6]))) := But.upd _ _ _
  have ts7 : TS K H6 (upd H6 mk (.lst (mv ++ [.ref c6]))) := But.ts u7 m6 rfl
  obtain ⟨H7, eH7⟩ : ∃ H7, H7 = upd H6 mk (.lst (mv ++ [.ref c6])) := ⟨_, rfl⟩
  rw [← eH7] at u7 ts7 ⊢
  have m7 : H7 mk = some (.lst (mv ++ [.ref c6])) := by rw [eH7]; exact upd_same
  have bx7 : ButX X H6 H7 := fun b o nb e => u7 _ _ (fun z => nb (z ▸ hxm)) e
  have hobj7 := u7 _ _ smk (s16 _ _ hobj)
  have q7 : H7 q = some (.lst qs) := bx7 _ _ hq1 (s16 _ _ hq2)
  have lc7 : H7 lc = some (.lst lvs) := bx7 _ _ nlc (s16 _ _ glc)
  have alc7 : All2 (LnAt K X H7) ln lvs := (alc.imp fun _ _ h => h.but (ButX.of s16) s16.ts).imp fun _ _ h => h.but bx7 ts7
  obtain ⟨uv, huv, u, ca, rfl, hu, nca, gca⟩ := alc7.get hat
  refine ⟨_, rfl, s, _, dx, _, _, rfl, hobj7, T.cl_Maker, T.a_Maker_lines, mkF_lines, _, rfl, q, qs, _, _, rfl, rfl, .of q7, hlv2, _, rfl, lc, lvs, _, _, rfl, rfl, .of lc7, atI_nat huv, u, _, _, _, rfl, rfl, hu, atI_nat (j := 2) rfl, ca, _, rfl, .inl (.of gca), fun rl hrl => ?_⟩
  have s8 := same_new hrl (.lst (natV ns))
  obtain ⟨H8, eH8⟩ : ∃ H8, H8 = upd H7 rl (.lst (natV ns)) := ⟨_, rfl⟩
  rw [← eH8] at s8 ⊢
  have g8 : H8 rl = some (.lst (natV ns)) := by rw [eH8]; exact upd_same
  have ts8 : TS K H H8 := s16.ts.trans (ts7.trans s8.ts)
  have tdmk : td ≠ mk := by rintro rfl; rw [hm1] at ntd; cases ntd
  have s26 : Same H1 H6 := s2.trans (s3.trans (s4.trans (s5.trans s6)))
  have td8 : H8 td = some (.lst ts) := s8 _ _ (u7 _ _ tdmk (s26 _ _ g1))
  have ts28 : TS K H1 H8 := s26.ts.trans (ts7.trans s8.ts)
  have al8 := al1.imp fun _ _ h => h.ts ts28
  have hkv8 := hkv.ts ts28
  have amk : a ≠ mk := fun e => hxa (e ▸ hxm)
  have a8 : H8 a = some (.lst ws) := s8 _ _ (u7 _ _ amk (s16 _ _ ha))
  let X2 : Addr → Prop := fun b => X b ∨ b = rl
  have hX2 : ∀ b o, H7 b = some o → ¬ X b → ¬ X2 b := fun b o e nb z => z.elim nb fun e' => by rw [e', hrl] at e; cases e
  have te8 : TeAt K X2 H8 s q mk rl a rows l ws ns (ms ++ [(r, i, wh)]) (mv ++ [.ref c6]) :=
    ⟨⟨dx, r0, kv0, c0, rr, s8 _ _ hobj7⟩, ⟨hX2 _ _ q7 hq1, qs, s8 _ _ q7, ((((hq3.imp fun _ _ h => h.but (ButX.of s16) s16.ts).imp fun _ _ h => h.but bx7 ts7).imp fun _ _ h => h.to hX2).imp fun _ _ h => h.but (ButX.of s8) s8.ts)⟩, a8, hl.imp fun _ _ h => h.ts ts8, hX2 _ _ (u7 _ _ amk (s16 _ _ ha)) hxa, g8, s8 _ _ m7,
      (hm2.imp fun _ _ h => h.ts ts8).snoc ⟨c6, rfl, s8.tup (ts7 _ _ tupc)⟩, .inl hxm, .inr rfl, fun e => by rw [e, m7] at hrl; cases hrl⟩
  have mlen2 := TaP_len hta
  refine ⟨_, rfl, _, rfl, kv, κ, rfl, hkv8, by omega, by omega, fun b9 l9 H9 s9 n9 g9 r9 => ?_⟩
  obtain ⟨wv, hwv, tw, yw, rfl, htw, bw, wws, rfl, nbw, gbw, abw⟩ := (r9 H9 (.self s9)).get hwy
  have te9 := te8.same s9
  refine ⟨_, rfl, b9, l9, _, _, rfl, rfl, .of g9, atI_nat hwv, tw, _, _, _, rfl, rfl, htw, atI_nat (j := 0) rfl, td, bw, ts, wws, rfl, .of (s9 _ _ td8), .of gbw, ?_⟩
  have lts := al8.length
  have lws := abw.length
  have ntd2 : ¬ tx mk rl td := by
    rintro (e | e)
    · exact tdmk e
    · rw [e] at td8
      have := u7 _ _ tdmk (s26 _ _ g1)
      rw [e, hrl] at this
      cases this
  have nbw2 : ¬ tx mk rl bw := by
    rintro (e | e)
    · rw [e, te8.mk_] at nbw; cases nbw
    · rw [e, g8] at nbw; cases nbw
  have pd := path_deep hsp
  have lws' : wws.length = mvs.length := lws
  have hmin : ts.length = min ts.length wws.length := by rw [lts, lws', mlen2, Nat.min_self]
  refine for_it (walk_zip (xs := ts) (ys := wws) (n := ts.length) hmin) (fun j σ H1' => ButX (tx mk rl) H9 H1' ∧ (∃ z11 z12, σ = [some (.ref s), some (.ref a), some v, some (.int (r : Nat)), some (.ref td), some (.str (pathOf p).2.str), some kv, some (.str (shown κ)), some (.int (ww : Nat)), some (.int (i : Nat)), some (.ref rl), z11, z12, none]) ∧
      ∃ (rs1 : List Nat) (i1 i2 : List Item) (mv1 : List V), TeAt K X2 H1' s q mk rl a rows l ws rs1 (ms ++ (r, i, wh) :: i1) mv1 ∧ TaP (Tl rows n l t) ((pathOf p).1.drop j) (mvs.drop j) rs1 rsf i2 ∧ rest = i1 ++ i2)
    ⟨ButX.of (.refl _), ⟨_, _, rfl⟩, ns, [], rest, mv ++ [.ref c6], te9, hta, rfl⟩ (fun j σ H1' _ h => ⟨.of (h.1 _ _ ntd2 (s9 _ _ td8)), .of (h.1 _ _ nbw2 gbw)⟩) ?_ ?_
  · rintro j vv σ H1' H2' hj ⟨u1, ⟨z11, z12, rfl⟩, rs1, i1, i2, mv1, te1, tap, erest⟩ ⟨T1, x, y, rfl, hT, rfl, hx, hy⟩
    have ts1 : TS K H9 H1' := u1.ts te9.soft
    have sT := same_new hT (.tup [x, y])
    have hjl : j < (pathOf p).1.length := by omega
    have hjm : j < mvs.length := by omega
    have q1 := List.getElem?_eq_getElem hjl
    have q2 := List.getElem?_eq_getElem hjm
    obtain ⟨x', e1, p1⟩ := (((al8.imp fun _ _ h => h.ts s9.ts).imp fun _ _ h => h.ts ts1).imp fun _ _ h => h.ts sT.ts).get q1
    obtain rfl : x' = x := Option.some.inj (e1.symm.trans hx)
    obtain ⟨y', e2, p2⟩ := ((abw.imp fun _ _ h => h.ts ts1).imp fun _ _ h => h.ts sT.ts).get q2
    obtain rfl : y' = y := Option.some.inj (e2.symm.trans hy)
    rw [List.drop_eq_getElem_cons hjl, List.drop_eq_getElem_cons hjm] at tap
    have hmem := List.getElem_mem hjl
    have hmem2 := List.getElem_mem hjm
    have teT := te1.same sT
    refine ⟨T1, _, rfl, .of upd_same, rfl, _, _, rfl, _, _, rfl, rfl, ?_⟩
    revert tap p1 p2 hmem hmem2
    generalize (pathOf p).1[j] = td1
    generalize mvs[j] = m1
    intro tap p1 p2 hmem hmem2
    cases td1 with
    | one =>
      obtain rfl : x' = .int 1 := p1
      cases m1 with
      | one => exact ⟨_, rfl, _, _, _, _, false, rfl, .ty "tuple", .base (.int _), kit_it, _, rfl, ifF rfl ⟨u1.same sT, ⟨_, _, rfl⟩, rs1, i1, i2, mv1, teT, tap, erest⟩⟩
      | two => exact tap.elim
      | kd c => exact tap.elim
    | two =>
      obtain rfl : x' = .int 2 := p1
      cases m1 with
      | one => exact tap.elim
      | two => exact ⟨_, rfl, _, _, _, _, false, rfl, .ty "tuple", .base (.int _), kit_it, _, rfl, ifF rfl ⟨u1.same sT, ⟨_, _, rfl⟩, rs1, i1, i2, mv1, teT, tap, erest⟩⟩
      | kd c => exact tap.elim
    | ar qa =>
      obtain ⟨c1, uq, rfl, tc1, huq⟩ := p1
      cases m1 with
      | one => exact tap.elim
      | two => exact tap.elim
      | kd c =>
        obtain ⟨rs2, j1, j2, tl1, tap2, rfl⟩ := tap
        refine ⟨_, rfl, _, _, _, _, true, rfl, .ty "tuple", sqt_ty tc1, kit_tt, _, rfl, ifT rfl ?_⟩
        obtain ⟨dx1, r01, kv01, c01, rr1, hobj1⟩ := id teT.mkr
        refine ⟨_, rfl, s, dx1, _, rfl, hobj1, mkF_tell, _, rfl, _, rfl, _, rfl, c1, _, _, rfl, tc1, rfl, _, rfl, ?_⟩
        have hws := waysOf_sub κ _ (List.mem_of_getElem? hwy) c hmem2
        have hqd := pd qa hmem
        have zz : (ms ++ (r, i, wh) :: i1).length + j1.length ≤ 100000 := by
          rw [List.length_append, List.length_cons]
          rw [erest, List.length_cons, List.length_append, List.length_append] at hz2
          omega
        refine ⟨X2, s, q, mk, rl, a, y', uq, rows, l, ws, rs1, rs2, ms ++ (r, i, wh) :: i1, j1, mv1, t, c, qa, rfl, teT, p2, huq, tl1, hld, by omega, by omega, hz, by omega, zz, fun H3 mv3 u3 g3 m3 a3 => ?_⟩
        have te3 := teT.but u3 g3 m3 a3
        refine ⟨(u1.same sT).trans u3, ⟨_, _, rfl⟩, rs2, i1 ++ j1, j2, mv3, ?_, tap2, by rw [erest, List.append_assoc]⟩
        have e : ms ++ (r, i, wh) :: (i1 ++ j1) = ms ++ (r, i, wh) :: i1 ++ j1 := by rw [List.append_assoc]; rfl
        rw [e]
        exact te3
  · rintro σ H1' ⟨u1, ⟨z11, z12, rfl⟩, rs1, i1, i2, mv1, te1, tap, erest⟩
    have e1 : (pathOf p).1.drop ts.length = [] := List.drop_eq_nil_of_le (by omega)
    have e2 : mvs.drop ts.length = [] := List.drop_eq_nil_of_le (by omega)
    rw [e1, e2] at tap
    obtain ⟨_, rfl⟩ := tap
    rw [List.append_nil] at erest
    subst erest
    refine fin H1' mv1 (fun b o nb e => u1 _ _ ?_ (s9 _ _ (s8 _ _ (u7 _ _ nb (s16 _ _ e))))) te1.mk_ te1.mk2
    rintro (z | z)
    · exact nb z
    · have := u7 _ _ nb (s16 _ _ e)
      rw [z, hrl] at this
      cases this
end
end KF

set_option Elab.async false
set_option linter.all false
set_option maxRecDepth 100000
set_option maxHeartbeats 4000000
namespace KF
open PySem PySem.Spec L2 TL
theorem ok_tell {P : Program} {w : World} {K : PySem.W.Frag} {mg : Str → Option Value} {base : Heap} (T : Tx w K mg) : ∀ n, Dm P w K mg base CX0 (2 * n + 20) "Maker" "tell" ["self", "known", "kind", "program", "rooms"] (spTell K n)
  | 0 => dm_none T.d_Maker_tell T.cl_Maker T.m_Maker_tell (fun _ _ _ _ _ _ us hl => match us, hl with | [_, _, _, _, _], _ => rfl) fun vs H Q E ⟨_, _, _, _, _, _, _, _, _, _, _, _, _, _, _, _, _, _, _, _, _, _, _, h, _⟩ => by rw [Tl] at h; exact h
  | n + 1 => ok_tell_of T n (ok_tell T n) (ok_tellMark_of T n (ok_tell T n))
/-! ### what is made -/
def stepP (p : Pg) : Td → Pg
  | .one => .first p
  | .two => .second p
  | .ar q => .give p q
def buildP (p : Pg) (td : List Td) : Pg := td.foldl stepP p
theorem buildP_path : ∀ {p : Pg}, isSp p = true → buildP (.name (pathOf p).2) (pathOf p).1 = p
  | .name x, _ => rfl
  | .give p q, h => by
    show buildP (.name (pathOf p).2) ((pathOf p).1 ++ [.ar q]) = _
    unfold buildP
    rw [List.foldl_append]
    show Pg.give (buildP (.name (pathOf p).2) (pathOf p).1) q = _
    rw [buildP_path (p := p) h]
  | .first p, h => by
    show buildP (.name (pathOf p).2) ((pathOf p).1 ++ [.one]) = _
    unfold buildP
    rw [List.foldl_append]
    show Pg.first (buildP (.name (pathOf p).2) (pathOf p).1) = _
    rw [buildP_path (p := p) h]
  | .second p, h => by
    show buildP (.name (pathOf p).2) ((pathOf p).1 ++ [.two]) = _
    unfold buildP
    rw [List.foldl_append]
    show Pg.second (buildP (.name (pathOf p).2) (pathOf p).1) = _
    rw [buildP_path (p := p) h]
  | .take _ _ _, h => by cases h
  | .pair _ _, h => by cases h
  | .thing, h => by cases h
/-- what the maker may change -/
def px (s rl : Addr) (b : Addr) : Prop := b = s ∨ b = rl
structure MaAt (K : PySem.W.Frag) (X : Addr → Prop) (H : Hp) (s q mk rl a : Addr) (rows : List (List Line)) (l : Ctx) (ws : List V) (rs : List Nat) (M : List Item) (mv : List V) (d : Nat) : Prop where
  mkr : MkAt K H s q mk d
  lin : LinesAt K X H rows q
  kn : H a = some (.lst ws)
  kn2 : All2 (NmAt K H) l ws
  kn3 : ¬ X a
  rl_ : H rl = some (.lst (natV rs))
  mk_ : H mk = some (.lst mv)
  mk2 : All2 (ItAt K H) M mv
  mk3 : ¬ X mk
  x1 : X s
  x2 : X rl
section
variable {K : PySem.W.Frag} {X : Addr → Prop} {H H' : Hp} {s q mk rl a : Addr} {rows : List (List Line)} {l : Ctx} {ws : List V} {rs rs' : List Nat} {M : List Item} {mv : List V} {d d' : Nat}
theorem MaAt.soft (t : MaAt K X H s q mk rl a rows l ws rs M mv d) : ∀ b o, px s rl b → H b = some o → Soft o = true := by
  obtain ⟨dx, r0, kv, c, r, h1⟩ := t.mkr
  rintro b o (rfl | rfl) e
  · rw [h1] at e; cases e; rfl
  · rw [t.rl_] at e; cases e; rfl
theorem MaAt.sub (t : MaAt K X H s q mk rl a rows l ws rs M mv d) : ∀ b, px s rl b → X b := by
  rintro b (rfl | rfl)
  · exact t.x1
  · exact t.x2
theorem MaAt.same (t : MaAt K X H s q mk rl a rows l ws rs M mv d) (h : Same H H') : MaAt K X H' s q mk rl a rows l ws rs M mv d := by
  obtain ⟨⟨dx, r0, kv, c, r, h1⟩, ⟨h2, qs, h3, h4⟩, h5, h6, h7, h8, h9, h10, h11, h12, h13⟩ := t
  exact ⟨⟨dx, r0, kv, c, r, h _ _ h1⟩, ⟨h2, qs, h _ _ h3, h4.imp fun _ _ z => z.but (ButX.of h) h.ts⟩, h _ _ h5, h6.imp fun _ _ z => z.same h, h7, h _ _ h8, h _ _ h9, h10.imp fun _ _ z => z.ts h.ts, h11, h12, h13⟩
theorem MaAt.but (t : MaAt K X H s q mk rl a rows l ws rs M mv d) (u : ButX (px s rl) H H') (h1 : H' rl = some (.lst (natV rs'))) (h2 : MkAt K H' s q mk d') : MaAt K X H' s q mk rl a rows l ws rs' M mv d' := by
  have ts := u.ts t.soft (K := K)
  have sub := t.sub
  obtain ⟨_, ⟨g2, qs, g3, g4⟩, g5, g6, g7, g8, g9, g10, g11, g12, g13⟩ := t
  exact ⟨h2, ⟨g2, qs, u _ _ (fun z => g2 (sub _ z)) g3, g4.imp fun _ _ z => z.but (u.mono sub) ts⟩, u _ _ (fun z => g7 (sub _ z)) g5, g6.imp fun _ _ z => z.ts ts, g7, h1, u _ _ (fun z => g11 (sub _ z)) g9, g10.imp fun _ _ z => z.ts ts, g11, g12, g13⟩
theorem pre_drop {its i1 i2 post : List Item} (e : its = i1 ++ i2) (h : M.drop d <+: its ++ post) : M.drop (d + i1.length) <+: i2 ++ post := by
  obtain ⟨t, ht⟩ := h
  have h2 := congrArg (List.drop i1.length) ht
  rw [List.drop_append, List.drop_drop, e, List.append_assoc, List.drop_left] at h2
  exact ⟨_, h2⟩
end
theorem mkF_make {r0 kv c r : V} {q mk : Addr} {d : Int} : (mkF r0 kv c r q mk d).lookup ("make" : Str) = none := mkF_no (by decide +kernel) (by decide +kernel) (by decide +kernel) (by decide +kernel) (by decide +kernel) (by decide +kernel) (by decide +kernel)
theorem mkF_make_mark {r0 kv c r : V} {q mk : Addr} {d : Int} : (mkF r0 kv c r q mk d).lookup ("make_mark" : Str) = none := mkF_no (by decide +kernel) (by decide +kernel) (by decide +kernel) (by decide +kernel) (by decide +kernel) (by decide +kernel) (by decide +kernel)
theorem mkF_go {r0 kv c r : V} {q mk : Addr} {d : Int} : (mkF r0 kv c r q mk d).lookup ("go" : Str) = none := mkF_no (by decide +kernel) (by decide +kernel) (by decide +kernel) (by decide +kernel) (by decide +kernel) (by decide +kernel) (by decide +kernel)
/-- what is let out: no making, where the making ends -/
def NoMk (K : PySem.W.Frag) (X : Addr → Prop) (H : Hp) (m : Nat) (E : XK) : Prop := ∀ H' dx, ButX X H H' → H' dx = some (.xd [("at", .int (m : Nat))]) → E (noMaking K) (some dx) H'
theorem NoMk.but {K : PySem.W.Frag} {X Y : Addr → Prop} {H H1 : Hp} {m : Nat} {E : XK} (n : NoMk K X H m E) (u : ButX X H H1) (s : ∀ H', ButX Y H1 H' → ButX X H H') : NoMk K Y H1 m E := fun H' dx u' e => n H' dx (s H' u') e
section
variable {P : Program} {w : World} {K : PySem.W.Frag} {mg : Str → Option Value} {base : Heap}
def spMake (K : PySem.W.Frag) (n : Nat) : Sp := fun vs H Q E => ∃ (X : Addr → Prop) (s q mk rl a : Addr) (kv : V) (rows : List (List Line)) (l : Ctx) (ws : List V) (rs rs' : List Nat) (M its post : List Item) (mv : List V) (d t : Nat) (k : Kd) (p : Pg), vs = [.ref s, .ref a, kv, .ref rl, .int t] ∧ MaAt K X H s q mk rl a rows l ws rs M mv d ∧
  KdAt K H k kv ∧ Tl rows n l t k p rs rs' its ∧ M.drop d <+: its ++ post ∧ d ≤ M.length ∧ M.length ≤ 100000 ∧ (∀ x ∈ l, x.2.depth ≤ 12 ∧ x.2.leaves ≤ 24) ∧ k.depth ≤ 12 ∧ k.leaves ≤ 24 ∧ l.length + n ≤ 1000 ∧ t + n ≤ 1000 ∧
  (M.length < d + its.length → NoMk K (px s rl) H M.length E) ∧ ∀ H' u, ButX (px s rl) H H' → H' rl = some (.lst (natV rs')) → MkAt K H' s q mk ((d + its.length : Nat) : Int) → PgAt K H' p u → d + its.length ≤ M.length → Q u H'
def spGo (K : PySem.W.Frag) (n : Nat) : Sp := fun vs H Q E => ∃ (X : Addr → Prop) (s q mk rl a b c : Addr) (v0 : V) (rows : List (List Line)) (l : Ctx) (ws us : List V) (rs rs' : List Nat) (M its post : List Item) (mv : List V) (d t : Nat) (p0 : Pg) (td : List Td) (mvs : List Mv), vs = [.ref s, .ref a, v0, .ref b, .ref c] ∧ MaAt K X H s q mk rl a rows l ws rs M mv d ∧
  PgAt K H p0 v0 ∧ H b = some (.lst us) ∧ All2 (MvAt K H) mvs us ∧ ¬ px s rl b ∧ SqT K H c [.ref rl, .int t] ∧ TaP (Tl rows n l t) td mvs rs rs' its ∧ M.drop d <+: its ++ post ∧ d ≤ M.length ∧ M.length ≤ 100000 ∧ (∀ x ∈ l, x.2.depth ≤ 12 ∧ x.2.leaves ≤ 24) ∧ (∀ k, Mv.kd k ∈ mvs → k.depth ≤ 12 ∧ k.leaves ≤ 24) ∧ l.length + n ≤ 1000 ∧ t + n ≤ 1000 ∧
  (M.length < d + its.length → NoMk K (px s rl) H M.length E) ∧ ∀ H' u, ButX (px s rl) H H' → MkAt K H' s q mk ((d + its.length : Nat) : Int) → PgAt K H' (buildP p0 td) u → d + its.length ≤ M.length → Q u H'
theorem ok_go_of (T : Tx w K mg) (n : Nat) (GM : Dm P w K mg base (L2.CX P w) (3 * n + 30) "Maker" "make" ["self", "known", "kind", "rooms", "takes"] (spMake K n)) :
    Dm P w K mg base (L2.CX P w) (3 * n + 31) "Maker" "go" ["self", "known", "program", "moves", "rest"] (spGo K n) := by
  refine dmX T.d_Maker_go T.cl_Maker T.m_Maker_go sc_Maker_go (fun _ _ _ _ _ _ us hl => match us, hl with | [_, _, _, _, _], _ => rfl) (fun vs H Q E h => ?_) (fun cdv A outer sh H vs Q E hr h => ?_)
  · obtain ⟨X, s, q, mk, rl, a, b, c, v0, rows, l, ws, us, rs, rs', M, its, post, mv, d, t, p0, td, mvs, rfl, _⟩ := h
    rfl
  obtain ⟨X, s, q, mk, rl, a, b, c, v0, rows, l, ws, us, rs, rs', M, its, post, mv, d, t, p0, td, mvs, rfl, hma, hp0, hb, hmv, hnb, hc, htap, hpre, hdM, hM, hld, hmk, hz1, hz2, hE, fin⟩ := h
  have hx : Passes (L2.CX P w) (cxOf (L2.CX P w) P w K mg base ["self", "known", "program", "moves", "rest", "rooms", "takes", "move"] "Maker.go" (defScope s_Maker_go) (He.ma K (He.ga K "Maker") "go") cdv A outer sh H E) E := passes_call (takes_of rfl rfl rfl rfl) fun _ _ _ _ h => h
  refine ⟨_, (pss_cons (ps_asg (pv 4) (pg_tup rfl (pgs_cons (pg_name (i := 5) sc_Maker_go.nd rfl (Or.inl rfl)) (pgs_cons (pg_name (i := 6) sc_Maker_go.nd rfl (Or.inl rfl)) pgs_nil)))) (pss_cons (ps_for (passes_of rfl) rfl (pi_list (pv 3)) (pg_name (i := 7) sc_Maker_go.nd rfl (Or.inl rfl))
      (pss_one (ps_if (pt_cmpR (op_eqX hr.u) (pv 7) pe_int (nomark _)) (pss_one (ps_set (i := 2) sc_Maker_go.nd rfl (.inl rfl) (pe_tup (pa_cons pe_str (pa_cons (pv 2) pa_nil)))))
          (pss_one (ps_if (pt_cmpR (op_eqX hr.u) (pv 7) pe_int (nomark _)) (pss_one (ps_set (i := 2) sc_Maker_go.nd rfl (.inl rfl) (pe_tup (pa_cons pe_str (pa_cons (pv 2) pa_nil)))))
            (pss_one (ps_set (i := 2) sc_Maker_go.nd rfl (.inl rfl) (pe_tup (pa_cons pe_str (pa_cons (pv 2) (pa_cons (mcal GM hr hx (pv 0) (pa_cons (pv 1) (pa_cons (pv 7) (pa_cons (pv 5) (pa_cons (pv 6) pa_nil))))) pa_nil))))))))))) (pss_one (ps_ret (pv 2))))), ?_⟩
  refine ⟨_, rfl, c, _, rfl, hc, rfl, _, _, rfl, _, _, rfl, rfl, ?_⟩
  have lus := hmv.length
  have ltd := TaP_len htap
  refine ⟨_, rfl, b, rfl, ⟨_, .of hb⟩, for_list (xs := us) (fun j σ H1 => ButX (px s rl) H H1 ∧ ∃ (v1 : V) (z7 : Option V) (rs1 : List Nat) (i1 i2 : List Item), σ = [some (.ref s), some (.ref a), some v1, some (.ref b), some (.ref c), some (.ref rl), some (.int (t : Nat)), z7] ∧ MaAt K X H1 s q mk rl a rows l ws rs1 M mv (d + i1.length) ∧
      PgAt K H1 (buildP p0 (td.take j)) v1 ∧ TaP (Tl rows n l t) (td.drop j) (mvs.drop j) rs1 rs' i2 ∧ its = i1 ++ i2 ∧ d + i1.length ≤ M.length)
    ⟨ButX.of (.refl H), v0, none, rs, [], its, rfl, hma, hp0, htap, rfl, hdM⟩ (fun j σ H1 _ h => .of (h.1 _ _ hnb hb)) ?_ ?_⟩
  · rintro j x σ H1 hx' ⟨u1, v1, z7, rs1, i1, i2, rfl, ma1, hp1, tap, eits, hd1⟩
    have hjm : j < mvs.length := by rw [← lus]; exact (List.getElem?_eq_some_iff.mp hx').1
    have hjt : j < td.length := by omega
    have q2 := List.getElem?_eq_getElem hjm
    have q1 := List.getElem?_eq_getElem hjt
    have ts1 : TS K H H1 := u1.ts hma.soft
    obtain ⟨x', e1, p2⟩ := (hmv.imp fun _ _ h => h.ts ts1).get q2
    obtain rfl : x' = x := Option.some.inj (e1.symm.trans hx')
    have hmem := List.getElem_mem hjm
    have etk : buildP p0 (td.take (j + 1)) = stepP (buildP p0 (td.take j)) td[j] := by
      unfold buildP
      rw [List.take_succ, q1, List.foldl_append]; rfl
    rw [List.drop_eq_getElem_cons hjt, List.drop_eq_getElem_cons hjm] at tap
    rw [etk]
    refine ⟨_, rfl, _, _, p2.dp, .int 1, Mv.lays _, lay_i 1, Mv.lay_depth _ _, _, rfl, ?_⟩
    rw [mv_ev1]
    revert tap p2 hmem
    generalize td[j] = td1
    generalize mvs[j] = m1
    intro tap p2 hmem
    cases m1 with
    | one =>
      cases td1 with
      | one =>
        refine ifT (by decide) ⟨_, rfl, sz2, fun e he => ?_⟩
        have se := same_new he (.tup [.str "first", v1])
        exact ⟨u1.same se, _, _, rs1, i1, i2, rfl, ma1.same se, ⟨e, v1, rfl, .of upd_same, hp1.same se⟩, tap, eits, hd1⟩
      | two => exact tap.elim
      | ar qa => exact tap.elim
    | two =>
      cases td1 with
      | one => exact tap.elim
      | two =>
        refine ifF (by decide) ⟨_, rfl, _, _, p2.dp, .int 2, Mv.lays _, lay_i 2, Mv.lay_depth _ _, _, rfl, ?_⟩
        rw [mv_ev2]
        refine ifT (by decide) ⟨_, rfl, sz2, fun e he => ?_⟩
        have se := same_new he (.tup [.str "second", v1])
        exact ⟨u1.same se, _, _, rs1, i1, i2, rfl, ma1.same se, ⟨e, v1, rfl, .of upd_same, hp1.same se⟩, tap, eits, hd1⟩
      | ar qa => exact tap.elim
    | kd k =>
      cases td1 with
      | one => exact tap.elim
      | two => exact tap.elim
      | ar qa =>
        obtain ⟨rs2, j1, j2, tl1, tap2, rfl⟩ := tap
        refine ifF (decide_eq_false fun z => by cases z) ⟨_, rfl, _, _, p2.dp, .int 2, Mv.lays _, lay_i 2, Mv.lay_depth _ _, _, rfl, ?_⟩
        rw [mv_ev2]
        obtain ⟨dx1, r01, kv01, c01, rr1, hobj1⟩ := id ma1.mkr
        have hkb := hmk k hmem
        have hpre1 : M.drop (d + i1.length) <+: j1 ++ (j2 ++ post) := by
          have := pre_drop eits hpre
          rwa [List.append_assoc] at this
        refine ifF (decide_eq_false fun z => by cases z) ⟨_, rfl, _, rfl, s, dx1, _, rfl, hobj1, mkF_make, _, rfl, _, rfl, _, rfl, _, rfl, ?_⟩
        have elen : its.length = i1.length + (j1.length + j2.length) := by rw [eits, List.length_append, List.length_append]
        refine ⟨X, s, q, mk, rl, a, x', rows, l, ws, rs1, rs2, M, j1, j2 ++ post, mv, d + i1.length, t, k, qa, rfl, ma1, p2, tl1, hpre1, hd1, hM, hld, hkb.1, hkb.2, hz1, hz2, fun hlt => (hE (by omega)).but u1 fun H' u' => u1.trans u', fun H3 u3 b3 g3 m3 hp3 hd3 => ?_⟩
        have ma3 := ma1.but b3 g3 m3
        have ts3 : TS K H1 H3 := b3.ts ma1.soft
        refine ⟨sz3, fun e he => ?_⟩
        have se := same_new he (.tup [.str "give", v1, u3])
        have elen2 : d + i1.length + j1.length = d + (i1 ++ j1).length := by rw [List.length_append]; omega
        rw [elen2] at ma3 hd3
        exact ⟨(u1.trans b3).same se, _, _, rs2, i1 ++ j1, j2, rfl, ma3.same se, ⟨e, v1, u3, rfl, .of upd_same, (hp1.ts ts3).same se, hp3.same se⟩, tap2, by rw [eits, List.append_assoc], hd3⟩
  · rintro σ H1 ⟨u1, v1, z7, rs1, i1, i2, rfl, ma1, hp1, tap, eits, hd1⟩
    have e1 : td.drop us.length = [] := List.drop_eq_nil_of_le (by omega)
    have e2 : mvs.drop us.length = [] := List.drop_eq_nil_of_le (by omega)
    rw [e1, e2] at tap
    obtain ⟨_, rfl⟩ := tap
    rw [List.append_nil] at eits
    subst eits
    rw [show td.take us.length = td from List.take_of_length_le (by omega)] at hp1
    exact ⟨_, rfl, fin H1 v1 u1 ma1.mkr hp1 hd1⟩
end
end KF

set_option Elab.async false
set_option linter.all false
set_option maxRecDepth 100000
set_option maxHeartbeats 4000000
namespace KF
open PySem PySem.Spec L2 TL
theorem mkF_put {r0 kv c r : V} {q mk : Addr} {d e : Int} : putF "done" (.int e) (mkF r0 kv c r q mk d) = mkF r0 kv c r q mk e := by
  unfold mkF
  show (if ("row" : Str) = "done" then _ else _ :: (if ("kind" : Str) = "done" then _ else _ :: (if ("starts" : Str) = "done" then _ else _ :: (if ("rooms" : Str) = "done" then _ else _ :: (if ("lines" : Str) = "done" then _ else _ :: (if ("making" : Str) = "done" then _ else _ :: (if ("done" : Str) = "done" then _ else _))))))) = _
  rw [if_neg (by decide +kernel), if_neg (by decide +kernel), if_neg (by decide +kernel), if_neg (by decide +kernel), if_neg (by decide +kernel), if_neg (by decide +kernel), if_pos rfl]
theorem head_of {M r : List Item} {x : Item} {d : Nat} (h : M.drop d <+: x :: r) (hd : d < M.length) : M[d]? = some x ∧ M.drop (d + 1) <+: r := by
  obtain ⟨t, ht⟩ := h
  rw [List.drop_eq_getElem_cons hd] at ht
  obtain ⟨e1, e2⟩ := List.cons.inj ht
  exact ⟨by rw [List.getElem?_eq_getElem hd, e1], t, e2⟩
section
variable {P : Program} {w : World} {K : PySem.W.Frag} {mg : Str → Option Value} {base : Heap}
def spMakeMark (K : PySem.W.Frag) (n : Nat) : Sp := fun vs H Q E => ∃ (X : Addr → Prop) (s q mk a : Addr) (rows : List (List Line)) (l : Ctx) (ws : List V) (M its post : List Item) (mv : List V) (d t r : Nat) (p : Pg) (κ : Kd) (w : Nat) (mvs : List Mv) (m : Bool) (ln : List Line) (i : Nat) (ns : List Nat) (wh : Nat) (rest : List Item), vs = [.ref s, .ref a, .int r, .int t] ∧
  MkAt K H s q mk d ∧ LinesAt K X H rows q ∧ H a = some (.lst ws) ∧ All2 (NmAt K H) l ws ∧ ¬ X a ∧ H mk = some (.lst mv) ∧ All2 (ItAt K H) M mv ∧ ¬ X mk ∧ X s ∧ TmP rows (Tl rows n l t) l p r its κ w mvs m ln i ns wh rest ∧ M.drop d <+: its ++ post ∧ d ≤ M.length ∧ M.length ≤ 100000 ∧
  (∀ x ∈ l, x.2.depth ≤ 12 ∧ x.2.leaves ≤ 24) ∧ l.length + n ≤ 1000 ∧ t + n ≤ 1000 ∧ (M.length < d + its.length → NoMk K (fun b => b = s) H M.length E) ∧
  ∀ H' u, But s H H' → MkAt K H' s q mk ((d + its.length : Nat) : Int) → PgAt K H' p u → d + its.length ≤ M.length → Q u H'
theorem ok_makeMark_of (T : Tx w K mg) (n : Nat) (GG : Dm P w K mg base (L2.CX P w) (3 * n + 31) "Maker" "go" ["self", "known", "program", "moves", "rest"] (spGo K n)) :
    Dm P w K mg base (L2.CX P w) (3 * n + 32) "Maker" "make_mark" ["self", "known", "room", "takes"] (spMakeMark K n) := by
  have GR := (ok_readKind (P := P) (base := base) T).mono (show 21 ≤ 3 * n + 31 by omega)
  have GW := (ok_waysN (P := P) (base := base) T 13).mono (show 13 ≤ 3 * n + 31 by omega)
  refine dmX T.d_Maker_make_mark T.cl_Maker T.m_Maker_make_mark sc_Maker_make_mark (fun _ _ _ _ _ _ us hl => match us, hl with | [_, _, _, _], _ => rfl) (fun vs H Q E h => ?_) (fun cdv A outer sh H vs Q E hr h => ?_)
  · obtain ⟨X, s, q, mk, a, rows, l, ws, M, its, post, mv, d, t, r, p, κ, ww, mvs, m, ln, i, ns, wh, rest, rfl, _⟩ := h
    rfl
  obtain ⟨X, s, q, mk, a, rows, l, ws, M, its, post, mv, d, t, r, p, κ, ww, mvs, m, ln, i, ns, wh, rest, rfl, hmk, hlin, ha, hl, hxa, hm1, hm2, hxm, hxs, htm, hpre, hdM, hM, hld, hz1, hz2, hE, fin⟩ := h
  have hx : Passes (L2.CX P w) (cxOf (L2.CX P w) P w K mg base ["self", "known", "room", "takes", "told", "at", "which", "text", "way", "rooms", "kind", "some", "name", "other"] "Maker.make_mark" (defScope s_Maker_make_mark) (He.ma K (He.ga K "Maker") "make_mark") cdv A outer sh H E) E := passes_call (takes_of rfl rfl rfl rfl) fun _ _ _ _ h => h
  refine ⟨_, (pss_cons (ps_if (pt_cmpR op_eq (pe_fld (pv 0) rfl) (pe_callB call_len_seq rfl T.n_len PySem.boot_len (pa_cons (pe_fld (pv 0) rfl) pa_nil)) (nomark _)) (pss_one (ps_noMaking T rfl (takes_of rfl rfl rfl rfl) hr.room rfl (pa_cons (pe_fld (pv 0) rfl) pa_nil) mono_flds)) pss_nil) (pss_cons (ps_asg (pe_ix ix_list (pe_fld (pv 0) rfl) (pe_fld (pv 0) rfl) (fun _ _ => rfl)) (pg_tup rfl (pgs_cons (pg_name (i := 4) sc_Maker_make_mark.nd rfl (Or.inl rfl)) (pgs_cons (pg_name (i := 5) sc_Maker_make_mark.nd rfl (Or.inl rfl)) (pgs_cons (pg_name (i := 6) sc_Maker_make_mark.nd rfl (Or.inl rfl)) pgs_nil))))) (pss_cons (ps_if (PW.pt (pw_or (pt_cmpR op_ne (pv 4) (pv 2) (nomark _)) (pw_or1 (pt_not (pt_chain op_le op_lt pe_int (pv 5) (pe_callB call_len_seq rfl T.n_len PySem.boot_len (pa_cons (pe_ix ix_list (pe_fld (pv 0) rfl) (pv 2) (fun _ _ => rfl)) pa_nil))))))) (pss_one (ps_never)) pss_nil) (pss_cons (ps_asg (pe_ix ix_list (pe_ix ix_list (pe_fld (pv 0) rfl) (pv 2) (fun _ _ => rfl)) (pv 5) (fun _ _ => rfl)) (pg_tup rfl (pgs_cons (pg_name (i := 7) sc_Maker_make_mark.nd rfl (Or.inl rfl)) (pgs_cons (pg_name (i := 8) sc_Maker_make_mark.nd rfl (Or.inl rfl)) (pgs_cons (pg_name (i := 9) sc_Maker_make_mark.nd rfl (Or.inl rfl)) pgs_nil))))) (pss_cons (ps_set (i := 10) sc_Maker_make_mark.nd rfl (.inr rfl) (cal GR hr pass0 (pa_cons (pv 7) pa_nil))) (pss_cons (ps_setLc (i := 11) (own := [("name", 12), ("other", 13)]) (g := gTup K 2 (gCons (gName 12) (gCons (gName 13) gNil))) (tt := tTest (tOp (rEqK K) (tVar 13) (tVar 10))) (te := tVar 12) rfl sc_Maker_make_mark.nd rfl rfl (sw_true rfl rfl rfl (by decide +kernel)) (pi_list (pv 1)) (blkOk_by (own := [("name", 12), ("other", 13)]) (N := ["self", "known", "room", "takes", "told", "at", "which", "text", "way", "rooms", "kind", "some", "name", "other"]) (sc := defScope s_Maker_make_mark) (by decide +kernel))
          (fun _ _ _ _ _ => pg_tup rfl (pgs_cons (pg_name (i := 12) sc_Maker_make_mark.nd rfl (Or.inl rfl)) (pgs_cons (pg_name (i := 13) sc_Maker_make_mark.nd rfl (Or.inl rfl)) pgs_nil))) (fun _ _ _ _ _ => pts_one (pt_cmpR (op_eqK hr.u) (pv 13) (pv 10) (nomark _))) (fun _ _ _ _ _ => pv 12)) (pss_cons (ps_if (pt_not (pt_chain op_le op_lt pe_int (pv 6) (pe_callB call_len_seq rfl T.n_len PySem.boot_len (pa_cons (pv 11) pa_nil)))) (pss_one (ps_never)) pss_nil) (pss_cons (ps_fld (pv 0) (pe_op op_add (pe_fld (pv 0) rfl) pe_int) rfl) (pss_one (ps_ret (mcal GG hr hx (pv 0) (pa_cons (pv 1) (pa_cons (pe_tup (pa_cons pe_str (pa_cons (pe_ix ix_list (pv 11) (pv 6) (fun _ _ => rfl)) pa_nil))) (pa_cons (pe_ix ix_tup (pe_ix ix_list (cal GW hr pass0 (pa_cons (pv 10) pa_nil)) (pv 8) (fun _ _ => rfl)) pe_int (fun _ _ => rfl)) (pa_cons (pe_tup (pa_cons (pe_callTy call_list_of rfl T.n_list (by decide +kernel) (pa_cons (pv 9) pa_nil)) (pa_cons (pv 3) pa_nil))) pa_nil))))))))))))))), ?_⟩
  obtain ⟨hsp, hkn, hwi, hwy, hrw, hat, hfew, htxt, hfst, hwh, rfl, rsf, hta⟩ := htm
  obtain ⟨hκ1, hκ2⟩ := hld _ (knownAs_mem hkn)
  have hκ1' : κ.depth ≤ 12 := hκ1
  have hκ2' : κ.leaves ≤ 24 := hκ2
  obtain ⟨dx, r0, kv0, c0, rr, hobj⟩ := id hmk
  obtain ⟨hq1, qs, hq2, hq3⟩ := id hlin
  have mlen := hm2.length
  refine ⟨_, rfl, s, _, dx, _, _, rfl, hobj, T.cl_Maker, T.a_Maker_done, mkF_done, _, rfl, s, _, dx, _, _, rfl, hobj, T.cl_Maker, T.a_Maker_making, mkF_making, mk, _, rfl, .inl (.of hm1), rfl, _, rfl, ?_⟩
  by_cases hend : d = M.length
  · refine ifT (decide_eq_true (by rw [mlen, hend])) ⟨_, rfl, s, _, dx, _, _, rfl, hobj, T.cl_Maker, T.a_Maker_done, mkF_done, _, rfl, fun H2 dxx s2 e => ?_⟩
    exact hE (by rw [List.length_cons]; omega) H2 dxx (ButX.of s2) (by rw [e, hend])
  have hdlt : d < M.length := by omega
  obtain ⟨hMd, hpre2⟩ := head_of (r := rest ++ post) hpre hdlt
  refine ifF (decide_eq_false fun z => hend (by have := V.int.inj z; omega)) ?_
  obtain ⟨iv, hiv, ti, rfl, hti0⟩ := hm2.get hMd
  have hti : SqT K H ti [.int (r : Nat), .int (i : Nat), .int (wh : Nat)] := hti0
  obtain ⟨lv, hlv, lc, lvs, rfl, nlc, glc, alc⟩ := hq3.get hrw
  have hlv2 : atI qs (r : Int) = some (.ref lc) := atI_nat hlv
  obtain ⟨uv, huv, u, ca, rfl, hu, nca, gca⟩ := alc.get hat
  have huv2 : atI lvs (i : Int) = some (.ref u) := atI_nat huv
  have hil : i < lvs.length := (List.getElem?_eq_some_iff.mp huv).1
  refine ⟨_, rfl, s, _, dx, _, _, rfl, hobj, T.cl_Maker, T.a_Maker_making, mkF_making, _, rfl, s, _, dx, _, _, rfl, hobj, T.cl_Maker, T.a_Maker_done, mkF_done, mk, mv, _, _, rfl, rfl, .of hm1, atI_nat hiv, ti, _, rfl, hti, rfl, _, _, rfl, _, _, rfl, _, _, rfl, rfl, ?_⟩
  refine ⟨_, rfl, _, rfl, rfl, _, rfl, ifF (by rw [decide_eq_true rfl]; rfl) ?_⟩
  refine ⟨_, rfl, _, _, rfl, rfl, true, congrArg V.bl (decide_eq_true (by omega)), ifT rfl ⟨_, rfl, s, _, dx, _, _, rfl, hobj, T.cl_Maker, T.a_Maker_lines, mkF_lines, _, rfl, q, qs, _, _, rfl, rfl, .of hq2, hlv2, lc, _, rfl, .inl (.of glc), _, _, rfl, rfl, true, congrArg V.bl (decide_eq_true (by omega)), ifF rfl ?_⟩⟩
  refine ⟨_, rfl, s, _, dx, _, _, rfl, hobj, T.cl_Maker, T.a_Maker_lines, mkF_lines, _, rfl, q, qs, _, _, rfl, rfl, .of hq2, hlv2, _, rfl, lc, lvs, _, _, rfl, rfl, .of glc, huv2, u, _, rfl, hu, rfl, _, _, rfl, _, _, rfl, _, _, rfl, rfl, ?_⟩
  refine ⟨_, rfl, κ, rfl, hκ1', hκ2', fun kv H1 s1 hkv => ?_⟩
  refine ⟨_, rfl, a, rfl, ⟨_, .of (s1 _ _ ha)⟩, fun D hD => ?_⟩
  have hl1 := hl.imp fun _ _ h => h.same s1
  refine lc_some (k := κ) (s1 _ _ ha) hl1 (by omega) hD (fun qn v H2 Q1 Q0 hmem s2 hv h1 h0 => ?_) fun H2 s2 gD => ?_
  · obtain ⟨tq, y, rfl, htq, hy⟩ := hv
    refine ⟨tq, _, rfl, htq, rfl, _, _, rfl, _, _, rfl, rfl, rfl, _, rfl, _, rfl, qn.2, κ, hy, hkv.same s2, by omega, _, rfl, ?_⟩
    exact if2 (fun e => ⟨_, rfl, h1 (of_decide_eq_true e)⟩) fun e => h0 (of_decide_eq_false e)
  have s12 := s1.trans s2
  obtain ⟨hn1, hn2, hn3⟩ := List.findIdx?_eq_some_iff_getElem.mp hwh
  have hnm : (someOf l κ)[wh] = (pathOf p).2 := of_decide_eq_true hn2
  have zsome : (nmsV (someOf l κ)).length = (someOf l κ).length := by unfold nmsV; rw [List.length_map]
  refine ⟨_, rfl, _, _, rfl, rfl, true, congrArg V.bl (decide_eq_true (by omega)), ifT rfl ⟨_, rfl, D, _, rfl, .inl (.of gD), _, _, rfl, rfl, true, congrArg V.bl (decide_eq_true (by omega)), ifF rfl ?_⟩⟩
  refine ⟨_, rfl, s, _, dx, _, _, rfl, s12 _ _ hobj, T.cl_Maker, T.a_Maker_done, mkF_done, _, _, rfl, rfl, _, rfl, s, _, dx, _, rfl, s12 _ _ hobj, T.cl_Maker, T.a_Maker_done, (by show 7 < 1000; decide), ?_⟩
  rw [mkF_put]
  obtain ⟨H3, eH3⟩ : ∃ H3, H3 = upd H2 s (.ins (He.ga K "Maker") dx (mkF r0 kv0 c0 rr q mk ((d : Int) + 1))) := ⟨_, rfl⟩
  rw [← eH3]
  have u3 : But s H2 H3 := by rw [eH3]; exact But.upd _ _ _
  have g3 : H3 s = some (.ins (He.ga K "Maker") dx (mkF r0 kv0 c0 rr q mk ((d : Int) + 1))) := by rw [eH3]; exact upd_same
  have ts3 : TS K H2 H3 := But.ts u3 (s12 _ _ hobj) rfl
  have bx3 : ButX X H2 H3 := fun b o nb e => u3 _ _ (fun z => nb (z ▸ hxs)) e
  have sD : D ≠ s := fun e => by rw [e, s12 _ _ hobj] at gD; cases gD
  have D3 := u3 _ _ sD gD
  refine ⟨_, rfl, s, dx, _, rfl, g3, mkF_go, _, rfl, _, rfl, _, rfl, D, _, _, _, rfl, rfl, .of D3, atI_nat (nmsV_get (List.getElem?_eq_getElem hn1)), sz2, fun c4 hc4 => ?_⟩
  have s4 := same_new hc4 (.tup [.str "name", .str ((someOf l κ)[wh]).str])
  have hkv4 : KdAt K _ κ kv := ((hkv.same s2).ts ts3).same s4
  refine ⟨_, rfl, kv, κ, rfl, hkv4, by omega, by omega, fun b9 l9 H5 s5 n9 g9 r9 => ?_⟩
  obtain ⟨wv, hwv, tw, yw, rfl, htw, bw, wws, rfl, nbw, gbw, abw⟩ := (r9 H5 (.self s5)).get hwy
  have ca5 : H5 ca = some (.lst (natV ns)) := s5 _ _ (s4 _ _ (bx3 _ _ nca (s12 _ _ gca)))
  refine ⟨_, rfl, b9, l9, _, _, rfl, rfl, .of g9, atI_nat hwv, tw, _, _, _, rfl, rfl, htw, atI_nat (j := 0) rfl, _, rfl, ca, _, rfl, .inl (.of ca5), fun rl hrl => ⟨_, rfl, sz2, fun c7 hc7 => ?_⟩⟩
  have s6 := same_new hrl (.lst (natV ns))
  have s7 := same_new hc7 (.tup [.ref rl, .int (t : Nat)])
  have s57 := s5.trans (s6.trans s7)
  have s47 := s4.trans s57
  have rl7 := s7 _ _ (show upd H5 rl (.lst (natV ns)) rl = _ from upd_same)
  have free7 : ∀ {b : Addr} {o : HO}, H b = some o → b ≠ s → b ≠ rl := fun {b o} e nb e' => by
    have := s5 _ _ (s4 _ _ (u3 _ _ nb (s12 _ _ e)))
    rw [e', hrl] at this
    cases this
  let X2 : Addr → Prop := fun b => X b ∨ b = rl
  have nX2 : ∀ b o, H b = some o → ¬ X b → ¬ X2 b := fun b o e nb z => z.elim nb (free7 e fun e' => nb (e' ▸ hxs))
  have ts07 : TS K H _ := s12.ts.trans (ts3.trans s47.ts)
  have bx07 : ButX X H (upd (upd H5 rl (.lst (natV ns))) c7 (.tup [.ref rl, .int (t : Nat)])) := (ButX.of s12).trans (bx3.same s47)
  have amk : ∀ {b : Addr}, ¬ X b → b ≠ s := fun nb e => nb (e ▸ hxs)
  have e1 : ((d : Int) + 1) = ((d + 1 : Nat) : Int) := by omega
  have ma : MaAt K X2 (upd (upd H5 rl (.lst (natV ns))) c7 (.tup [.ref rl, .int (t : Nat)])) s q mk rl a rows l ws ns M mv (d + 1) :=
    ⟨⟨dx, r0, kv0, c0, rr, by rw [← e1]; exact s47 _ _ g3⟩, ⟨nX2 _ _ hq2 hq1, qs, bx07 _ _ hq1 hq2, (hq3.imp fun _ _ h => h.to nX2).imp fun _ _ h => h.but (bx07.mono fun b hb => .inl hb) ts07⟩, bx07 _ _ hxa ha, hl.imp fun _ _ h => h.ts ts07, nX2 _ _ ha hxa, rl7, bx07 _ _ hxm hm1, hm2.imp fun _ _ h => h.ts ts07, nX2 _ _ hm1 hxm, .inl hxs, .inr rfl⟩
  have bw7 := s7 _ _ (s6 _ _ gbw)
  have nbw2 : ¬ px s rl bw := by
    rintro (e | e)
    · rw [e, s5 _ _ (s4 _ _ g3)] at gbw; cases gbw
    · rw [e, hrl] at gbw; cases gbw
  have hws := waysOf_sub κ _ (List.mem_of_getElem? hwy)
  have e2 : d + ((r, i, wh) :: rest).length = d + 1 + rest.length := by rw [List.length_cons]; omega
  rw [e2] at fin hE
  refine ⟨X2, s, q, mk, rl, a, bw, c7, .ref c4, rows, l, ws, wws, ns, rsf, M, rest, post, mv, d + 1, t, .name (pathOf p).2, (pathOf p).1, mvs, rfl, ma, ⟨c4, rfl, by rw [← hnm]; exact s57.tup (.of upd_same)⟩, bw7, abw.imp fun _ _ h => h.ts (s6.trans s7).ts, nbw2, .of upd_same, hta, hpre2, by omega, hM, hld, fun k hk => by have := hws k hk; omega, hz1, hz2, fun hlt => ?_, fun H8 u8 b8 m8 hp8 hd8 => ?_⟩
  · intro H' dxx hb' e
    refine hE hlt H' dxx (fun b o nb e' => hb' _ _ ?_ (s47 _ _ (u3 _ _ nb (s12 _ _ e')))) e
    rintro (z | z)
    · exact nb z
    · exact free7 e' nb z
  · rw [buildP_path hsp] at hp8
    refine fin H8 u8 (fun b o nb e' => b8 _ _ ?_ (s47 _ _ (u3 _ _ nb (s12 _ _ e')))) m8 hp8 hd8
    rintro (z | z)
    · exact nb z
    · exact free7 e' nb z
end
end KF

set_option Elab.async false
set_option linter.all false
set_option maxRecDepth 100000
set_option maxHeartbeats 4000000
namespace KF
open PySem PySem.Spec L2 TL
section
variable {P : Program} {w : World} {K : PySem.W.Frag} {mg : Str → Option Value} {base : Heap}
theorem ok_make_of (T : Tx w K mg) (n : Nat) (GM : Dm P w K mg base (L2.CX P w) (3 * n + 30) "Maker" "make" ["self", "known", "kind", "rooms", "takes"] (spMake K n))
    (GK : Dm P w K mg base (L2.CX P w) (3 * n + 32) "Maker" "make_mark" ["self", "known", "room", "takes"] (spMakeMark K n)) :
    Dm P w K mg base (L2.CX P w) (3 * (n + 1) + 30) "Maker" "make" ["self", "known", "kind", "rooms", "takes"] (spMake K (n + 1)) := by
  have GM1 := GM.mono (show 3 * n + 30 ≤ 3 * n + 32 by omega)
  have GN := (ok_taken (P := P) (K := K) (base := base) T).mono (show 1 ≤ 3 * n + 32 by omega)
  refine dmX T.d_Maker_make T.cl_Maker T.m_Maker_make sc_Maker_make (fun _ _ _ _ _ _ us hl => match us, hl with | [_, _, _, _, _], _ => rfl) (fun vs H Q E h => ?_) (fun cdv A outer sh H vs Q E hr h => ?_)
  · obtain ⟨X, s, q, mk, rl, a, kv, rows, l, ws, rs, rs', M, its, post, mv, d, t, k, p, rfl, _⟩ := h
    rfl
  obtain ⟨X, s, q, mk, rl, a, kv, rows, l, ws, rs, rs', M, its, post, mv, d, t, k, p, rfl, hma, hk, htl, hpre, hdM, hM, hld, hkd, hkl, hz1, hz2, hE, fin⟩ := h
  have hx : Passes (L2.CX P w) (cxOf (L2.CX P w) P w K mg base ["self", "known", "kind", "rooms", "takes", "one", "name"] "Maker.make" (defScope s_Maker_make) (He.ma K (He.ga K "Maker") "make") cdv A outer sh H E) E := passes_call (takes_of rfl rfl rfl rfl) fun _ _ _ _ h => h
  refine ⟨_, (pss_cons (ps_if (pt_cmpR (op_eqK hr.u) (pv 2) (pe_glob (v := .ref (He.ga K "ONE")) rfl T.i_ONE rfl) (nomark _)) (pss_one (ps_ret (pe_tup (pa_cons pe_str pa_nil)))) pss_nil) (pss_cons (ps_if (pt_tag (pv 2) mono_var) (pss_cons (ps_set (i := 5) sc_Maker_make.nd rfl (.inl rfl) (mcal GM1 hr hx (pv 0) (pa_cons (pv 1) (pa_cons (pv_at 2 1) (pa_cons (pv 3) (pa_cons (pv 4) pa_nil)))))) (pss_one (ps_ret (pe_tup (pa_cons pe_str (pa_cons (pv 5) (pa_cons (mcal GM1 hr hx (pv 0) (pa_cons (pv 1) (pa_cons (pv_at 2 2) (pa_cons (pv 3) (pa_cons (pv 4) pa_nil))))) pa_nil))))))) pss_nil) (pss_cons (ps_if (pt_tag (pv 2) mono_var) (pss_cons (ps_set (i := 6) sc_Maker_make.nd rfl (.inl rfl) (cal GN hr pass0 (pa_cons (pv 4) pa_nil))) (pss_one (ps_ret (pe_tup (pa_cons pe_str (pa_cons (pv 6) (pa_cons (pv_at 2 1) (pa_cons (mcal GM1 hr hx (pv 0) (pa_cons (pe_op op_cat (pv 1) (pe_lst (pa_cons (pe_tup (pa_cons (pv 6) (pa_cons (pv_at 2 1) pa_nil))) pa_nil))) (pa_cons (pv_at 2 2) (pa_cons (pv 3) (pa_cons (pe_op op_add (pv 4) pe_int) pa_nil))))) pa_nil)))))))) pss_nil) (pss_one (ps_ret (mcal GK hr hx (pv 0) (pa_cons (pv 1) (pa_cons (pe_bm PySem.F.plainAttrs_list PySem.F.slot_list_pop PySem.F.type_list_pop mt_popAt (pv 3) (pa_cons pe_int pa_nil)) (pa_cons (pv 4) pa_nil))))))))), ?_⟩
  refine ⟨_, rfl, k, .one, hk, one_at T H, by show min k.depth 0 ≤ 300; omega, _, rfl, ?_⟩
  obtain ⟨dx, r0, kv0, c0, rr, hobj⟩ := id hma.mkr
  cases k with
  | one =>
    rw [Tl] at htl
    obtain ⟨rfl, rfl, rfl⟩ := htl
    refine ifT (decide_eq_true rfl) ⟨sz1, fun c hc => ?_⟩
    have s1 := same_new hc (.tup [.str "thing"])
    exact fin _ _ (ButX.of s1) (s1 _ _ hma.rl_) ((hma.same s1).mkr) ⟨c, rfl, .of upd_same⟩ hdM
  | both k1 k2 =>
    rw [Tl] at htl
    obtain ⟨p1, p2, rs1, i1, i2, rfl, h1, h2, rfl⟩ := htl
    have hkd' : 1 + max k1.depth k2.depth ≤ 12 := hkd
    have hkl' : k1.leaves + k2.leaves ≤ 24 := hkl
    obtain ⟨b, y, z, rfl, tb, hy, hz'⟩ := hk
    rw [List.length_append] at hE fin
    refine ifF (decide_eq_false fun e => by cases e) ⟨_, rfl, b, _, _, rfl, tb, ifT (by decide +kernel) ?_⟩
    refine ⟨_, rfl, s, dx, _, rfl, hobj, mkF_make, _, rfl, _, rfl, b, _, _, rfl, tb, rfl, _, rfl, _, rfl, ?_⟩
    have hpre1 : M.drop d <+: i1 ++ (i2 ++ post) := by rwa [List.append_assoc] at hpre
    refine ⟨X, s, q, mk, rl, a, y, rows, l, ws, rs, rs1, M, i1, i2 ++ post, mv, d, t, k1, p1, rfl, hma, hy, h1, hpre1, hdM, hM, hld, by omega, by omega, by omega, by omega, fun hlt => hE (by omega), fun H1 u1 b1 g1 m1 hp1 hd1 => ?_⟩
    have ma1 := hma.but b1 g1 m1
    have ts1 : TS K H H1 := b1.ts hma.soft
    obtain ⟨dx1, r01, kv01, c01, rr1, hobj1⟩ := id ma1.mkr
    refine ⟨_, rfl, _, rfl, s, dx1, _, rfl, hobj1, mkF_make, _, rfl, _, rfl, b, _, _, rfl, ts1 _ _ tb, rfl, _, rfl, _, rfl, ?_⟩
    refine ⟨X, s, q, mk, rl, a, z, rows, l, ws, rs1, rs', M, i2, post, mv, d + i1.length, t, k2, p2, rfl, ma1, hz'.ts ts1, h2, pre_drop rfl hpre, hd1, hM, hld, by omega, by omega, by omega, by omega, fun hlt => (hE (by omega)).but b1 fun H' u' => b1.trans u', fun H2 u2 b2 g2 m2 hp2 hd2 => ⟨sz3, fun c hc => ?_⟩⟩
    have s3 := same_new hc (.tup [.str "pair", u1, u2])
    have ts2 : TS K H1 H2 := b2.ts ma1.soft
    have ma2 := (ma1.but b2 g2 m2).same s3
    rw [← Nat.add_assoc] at fin
    exact fin _ _ ((b1.trans b2).same s3) (s3 _ _ g2) ma2.mkr ⟨c, u1, u2, rfl, .of upd_same, (hp1.ts ts2).same s3, hp2.same s3⟩ hd2
  | to k1 k2 =>
    rw [Tl] at htl
    obtain ⟨p1, rfl, h1⟩ := htl
    have hkd' : 1 + max k1.depth k2.depth ≤ 12 := hkd
    have hkl' : k1.leaves + k2.leaves ≤ 24 := hkl
    obtain ⟨b, y, z, rfl, tb, hy, hz'⟩ := hk
    have hwl := hma.kn2.length
    refine ifF (decide_eq_false fun e => by cases e) ⟨_, rfl, b, _, _, rfl, tb, ifF (by decide +kernel) ⟨_, rfl, b, _, _, rfl, tb, ifT (by decide +kernel) ?_⟩⟩
    refine ⟨_, rfl, t, rfl, by omega, ?_⟩
    refine ⟨_, rfl, _, rfl, b, _, _, rfl, tb, rfl, _, rfl, s, dx, _, rfl, hobj, mkF_make, _, rfl, _, rfl, _, rfl, b, _, _, rfl, tb, rfl, sz2, fun c1 hc1 => ⟨sz1, fun c2 hc2 => ?_⟩⟩
    have s1 := same_new hc1 (.tup [.str (Nm.x t).str, y])
    have s2 := same_new hc2 (.lst [.ref c1])
    refine ⟨a, c2, _, _, rfl, rfl, s2 _ _ (s1 _ _ hma.kn), upd_same, by show ws.length + 1 ≤ sizeLine; exact small (by omega), fun c3 hc3 => ?_⟩
    have s3 := same_new hc3 (.lst (ws ++ [.ref c1]))
    have s123 := s1.trans (s2.trans s3)
    have hma3 := hma.same s123
    have hc3H : H c3 = none := s1.free (s2.free hc3)
    let X' : Addr → Prop := fun b => X b ∧ b ≠ c3
    have hmaX : MaAt K X' _ s q mk rl c3 rows (l ++ [(.x t, k1)]) (ws ++ [.ref c1]) rs M mv d :=
      ⟨hma3.mkr, ⟨fun z => hma3.lin.1 z.1, by
        obtain ⟨qs, g1, g2⟩ := hma3.lin.2
        exact ⟨qs, g1, g2.imp fun _ _ h => h.to fun _ _ _ na z => na z.1⟩⟩, upd_same, hma3.kn2.snoc ⟨c1, y, rfl, (s2.trans s3).tup (.of upd_same), hy.same s123⟩, fun z => z.2 rfl, hma3.rl_, hma3.mk_, hma3.mk2, fun z => hma3.mk3 z.1,
        ⟨hma3.x1, fun e => by rw [← e, hobj] at hc3H; cases hc3H⟩, ⟨hma3.x2, fun e => by rw [← e, hma.rl_] at hc3H; cases hc3H⟩⟩
    refine ⟨_, rfl, b, _, _, rfl, s123.tup tb, rfl, _, rfl, _, rfl, _, _, rfl, rfl, ?_⟩
    refine ⟨X', s, q, mk, rl, c3, z, rows, l ++ [(.x t, k1)], ws ++ [.ref c1], rs, rs', M, its, post, mv, d, t + 1, k2, p1, rfl, hmaX, hz'.same s123, h1, hpre, hdM, hM, fun x hx => ?_, by omega, by omega, by rw [List.length_append]; show l.length + 1 + n ≤ _; omega, by omega, fun hlt => (hE hlt).but (ButX.of s123) fun H' u' => (ButX.of s123).trans u', fun H4 u4 b4 g4 m4 hp4 hd4 => ⟨sz4, fun c5 hc5 => ?_⟩⟩
    · rcases List.mem_append.mp hx with hx | hx
      · exact hld x hx
      · simp at hx; subst hx; exact ⟨by show k1.depth ≤ 12; omega, by show k1.leaves ≤ 24; omega⟩
    · have s5 := same_new hc5 (.tup [.str "take", .str (Nm.x t).str, y, u4])
      have ts4 : TS K H H4 := s123.ts.trans (b4.ts hmaX.soft)
      have ma4 := (hmaX.but b4 g4 m4).same s5
      exact fin _ _ (((ButX.of s123).trans b4).same s5) (s5 _ _ g4) ma4.mkr ⟨c5, y, u4, rfl, .of upd_same, (hy.ts ts4).same s5, hp4.same s5⟩ hd4
  | mark mm =>
    rw [Tl] at htl
    obtain ⟨r, rfl, κ, ww, mvs, m, ln, i, ns, wh, rest, htm⟩ := htl
    obtain ⟨b, rfl, tb⟩ := hk
    refine ifF (decide_eq_false fun e => by cases e) ⟨_, rfl, b, _, _, rfl, tb, ifF (by decide +kernel) ⟨_, rfl, b, _, _, rfl, tb, ifF (by decide +kernel) ?_⟩⟩
    refine ⟨_, rfl, s, dx, _, rfl, hobj, mkF_make_mark, _, rfl, _, rfl, tyL hma.rl_, rl, natV (r :: rs'), 0, 0, .int r, rfl, rfl, hma.rl_, by omega, by omega, by unfold seqIndex?; simp [natV], rfl, ?_⟩
    have e0 : (natV (r :: rs')).eraseIdx 0 = natV rs' := rfl
    rw [e0]
    have u0 : ButX (px s rl) H (upd H rl (.lst (natV rs'))) := ButX.upd (.inr rfl)
    have ts0 : TS K H _ := u0.ts hma.soft
    have srl : s ≠ rl := by rintro rfl; have := hma.rl_; rw [hobj] at this; cases this
    have mk0 : MkAt K (upd H rl (.lst (natV rs'))) s q mk d := ⟨dx, r0, kv0, c0, rr, by rw [upd_ne srl]; exact hobj⟩
    have ma0 := hma.but (rs' := rs') u0 upd_same mk0
    refine ⟨_, rfl, X, s, q, mk, a, rows, l, ws, M, its, post, mv, d, t, r, p, κ, ww, mvs, m, ln, i, ns, wh, rest, rfl, ma0.mkr, ma0.lin, ma0.kn, ma0.kn2, ma0.kn3, ma0.mk_, ma0.mk2, ma0.mk3, ma0.x1, htm, hpre, hdM, hM, hld, by omega, by omega, fun hlt => (hE hlt).but u0 fun H' u' => u0.trans (u'.mono fun b hb => .inl hb), fun H1 u1 b1 m1 hp1 hd1 => ?_⟩
    exact fin H1 u1 (u0.trans fun b o nb e => b1 _ _ (fun z => nb (.inl z)) e) (b1 _ _ (Ne.symm srl) upd_same) m1 hp1 hd1
theorem ok_make (T : Tx w K mg) : ∀ n, Dm P w K mg base (L2.CX P w) (3 * n + 30) "Maker" "make" ["self", "known", "kind", "rooms", "takes"] (spMake K n)
  | 0 => dm_none T.d_Maker_make T.cl_Maker T.m_Maker_make (fun _ _ _ _ _ _ us hl => match us, hl with | [_, _, _, _, _], _ => rfl) fun vs H Q E ⟨_, _, _, _, _, _, _, _, _, _, _, _, _, _, _, _, _, _, _, _, _, _, _, h, _⟩ => by rw [Tl] at h; exact h
  | n + 1 => ok_make_of T n (ok_make T n) (ok_makeMark_of T n (ok_go_of T n (ok_make T n)))
end
end KF

set_option Elab.async false
set_option linter.all false
set_option maxRecDepth 100000
set_option maxHeartbeats 4000000
namespace KF
open PySem PySem.Spec L2 TL
/-- o.f, as a target -/
def gFld (K : PySem.W.Frag) (ta : TE) (f : Str) : TG := fun v σ H Q => ta σ H fun x H1 => ∃ a C dx fs, x = .ref a ∧ H1 a = some (.ins C dx fs) ∧ Cls K C ∧ NoAttr K C f ∧ fs.length < 1000 ∧ Q σ (upd H1 a (.ins C dx (putF f v fs)))
theorem pg_fld {X : Cx} {o : Expr} {f : Str} {pos : Pos} {ta : TE} (ho : PE X o ta) : PG X (.Attribute o f pos) (gFld X.K ta f) := by
  refine ⟨fun pins s σ H v u Q I r h => ?_⟩
  rw [show assign (.Attribute o f pos) X.env u = (do
      let ov ← holding [u] (eval o X.env)
      standAt pos.atName
      holding [u, ov] (setAttr ov f u)
      release [u, ov] []) from rfl]
  refine wpAny_bind (wpAny_holding (thn (ho.run pins s σ H _ I h) fun ov s1 ⟨x, H1, I1, r1, a, C, dx, fs, ex, ea, c, n, l, q⟩ => ?_))
  subst ex
  obtain rfl : ov = Value.ref a := r1
  refine wpAny_bind (wpAny_standAt (wpAny_bind (wpAny_holding (setattr_ok I1 ea c n l r fun s3 I3 => ?_))))
  exact wpAny_release ⟨σ, _, I3, q⟩
theorem putF_new {f : Str} {v : V} : ∀ {fs : List (Str × V)}, (fs.map (·.1)).all (fun g => !decide (g = f)) = true → putF f v fs = fs ++ [(f, v)]
  | [], _ => rfl
  | (g, u) :: fs, h => by
    have h' : (!decide (g = f) && (fs.map (·.1)).all (fun g => !decide (g = f))) = true := h
    obtain ⟨h1, h2⟩ := Bool.and_eq_true_iff.mp h'
    have hn : ¬ g = f := fun e => by rw [decide_eq_true e] at h1; cases h1
    show (if g = f then _ else (g, u) :: putF f v fs) = _
    rw [if_neg hn, putF_new h2]; rfl
theorem LnAt.toL {K : PySem.W.Frag} {X Y : Addr → Prop} {H : Hp} (h : ∀ a vs, H a = some (.lst vs) → ¬ X a → ¬ Y a) {x : Line} {v : V} : LnAt K X H x v → LnAt K Y H x v := fun ⟨u, a, e, q1, q2, q3⟩ => ⟨u, a, e, q1, h a _ q3 q2, q3⟩
theorem RwAt.toL {K : PySem.W.Frag} {X Y : Addr → Prop} {H : Hp} (h : ∀ a vs, H a = some (.lst vs) → ¬ X a → ¬ Y a) {x : List Line} {v : V} : RwAt K X H x v → RwAt K Y H x v := fun ⟨a, vs, e, q1, q2, q3⟩ => ⟨a, vs, e, h a _ q2 q1, q2, q3.imp fun _ _ z => z.toL h⟩
theorem LinesAt.toL {K : PySem.W.Frag} {X Y : Addr → Prop} {H : Hp} (h : ∀ a vs, H a = some (.lst vs) → ¬ X a → ¬ Y a) {rows : List (List Line)} {q : Addr} : LinesAt K X H rows q → LinesAt K Y H rows q := fun ⟨g1, qs, g2, g3⟩ => ⟨h _ _ g2 g1, qs, g2, g3.imp fun _ _ z => z.toL h⟩
theorem LinesAt.but {K : PySem.W.Frag} {X : Addr → Prop} {H H' : Hp} (b : ButX X H H') (t : TS K H H') {rows : List (List Line)} {q : Addr} : LinesAt K X H rows q → LinesAt K X H' rows q := fun ⟨g1, qs, g2, g3⟩ => ⟨g1, qs, b _ _ g1 g2, g3.imp fun _ _ z => z.but b t⟩
/-- what the book asks of a row and a kind -/
structure BookOk (l : Ctx) (k : Kd) (starts : List Nat) (rows : List (List Line)) : Prop where
  bk : ∃ z, BookIs l k starts rows z ∧ (∀ x ∈ z, RoomOK x) ∧ z.length ≤ 100000
  ll : l.length ≤ 30
  ld : ∀ x ∈ l, x.2.depth ≤ 12 ∧ x.2.leaves ≤ 24
  kd : k.depth ≤ 12
  kl : k.leaves ≤ 24
section
variable {P : Program} {w : World} {K : PySem.W.Frag} {mg : Str → Option Value} {base : Heap}
def spMkInit (K : PySem.W.Frag) : Sp := fun vs H Q _ => ∃ (s dx a : Addr) (kv : V) (l : Ctx) (ws : List V) (k : Kd) (starts : List Nat) (rows : List (List Line)), vs = [.ref s, .ref a, kv] ∧ H s = some (.ins (He.ga K "Maker") dx []) ∧ H a = some (.lst ws) ∧ All2 (NmAt K H) l ws ∧ KdAt K H k kv ∧ BookOk l k starts rows ∧
  ∀ H' dx' r0 c r q mk, But s H H' → H' s = some (.ins (He.ga K "Maker") dx' (mkF r0 kv (.ref c) r q mk 0)) → H' c = some (.lst (natV starts)) → c ≠ mk → H mk = none → H' mk = some (.lst []) → LinesAt K (fun b => b = mk ∨ b = s) H' rows q → Q .non H'
theorem ok_mkInit (T : Tx w K mg) : Dc P w K mg base CX0 28 "Maker" ["self", "row", "kind"] (spMkInit K) := by
  have GB := (ok_bookOf (P := P) (base := base) T)
  refine dc0 T.d_Maker___init__ T.mk_Maker T.c_Maker sc_Maker___init__ (fun _ _ _ _ _ _ us hl => match us, hl with | [_, _, _], _ => rfl) (fun vs H Q E h => ?_) (fun cdv A outer sh H vs Q E hr h => ?_)
  · obtain ⟨s, dx, a, kv, l, ws, k, starts, rows, rfl, _⟩ := h
    rfl
  obtain ⟨s, dx, a, kv, l, ws, k, starts, rows, rfl, hs, ha, hl, hk, ⟨⟨z, hbk, hzok, hzl⟩, hll, hld, hkd, hkl⟩, fin⟩ := h
  refine ⟨_, (pss_cons (ps_fld (pv 0) (pe_callTy call_list_of rfl T.n_list (by decide +kernel) (pa_cons (pv 1) pa_nil)) rfl) (pss_cons (ps_fld (pv 0) (pv 2) rfl) (pss_cons (ps_asg (cal GB hr pass0 (pa_cons (pv 1) (pa_cons (pv 2) pa_nil))) (pg_tup rfl (pgs_cons (pg_fld (pv 0)) (pgs_cons (pg_fld (pv 0)) (pgs_cons (pg_fld (pv 0)) pgs_nil))))) (pss_cons (ps_fld (pv 0) (pe_lst pa_nil) rfl) (pss_one (ps_fld (pv 0) pe_int rfl)))))), ?_⟩
  refine ⟨_, rfl, a, ws, rfl, .inl (.of ha), fun r0 hr0 => ?_⟩
  have sr0 : s ≠ r0 := ne_of_none hs hr0
  refine ⟨_, rfl, s, _, dx, _, rfl, (by rw [upd_ne sr0]; exact hs), T.cl_Maker, T.a_Maker_row, (by show 0 < 1000; decide), ?_⟩
  rw [putF_new (by rfl)]
  refine ⟨_, rfl, _, rfl, s, _, dx, _, rfl, upd_same, T.cl_Maker, T.a_Maker_kind, (by show 1 < 1000; decide), ?_⟩
  rw [putF_new (by show [("row" : Str)].all _ = true; decide +kernel)]
  obtain ⟨H2, eH2⟩ : ∃ H2, H2 = upd (upd (upd H r0 (.lst ws)) s (.ins (He.ga K "Maker") dx ([] ++ [(("row" : Str), V.ref r0)]))) s (.ins (He.ga K "Maker") dx ([] ++ [(("row" : Str), V.ref r0)] ++ [(("kind" : Str), kv)])) := ⟨_, rfl⟩
  rw [← eH2]
  have g2 : H2 s = some (.ins (He.ga K "Maker") dx ([] ++ [(("row" : Str), V.ref r0)] ++ [(("kind" : Str), kv)])) := by rw [eH2]; exact upd_same
  have b2 : But s H H2 := fun b o nb e => by rw [eH2, upd_ne nb, upd_ne nb, upd_ne (ne_of_none e hr0)]; exact e
  have ts2 : TS K H H2 := But.ts b2 hs rfl
  have as : a ≠ s := by rintro rfl; rw [ha] at hs; cases hs
  refine ⟨_, rfl, _, rfl, a, kv, l, ws, k, starts, rows, z, rfl, b2 _ _ as ha, hl.imp fun _ _ h => h.ts ts2, hk.ts ts2, hbk, hzok, hzl, hll, hld, hkd, hkl, fun H3 bt c r q s3 ht hc hlin => ?_⟩
  have g3 := s3 _ _ g2
  refine ⟨bt, _, rfl, ht, rfl, _, _, rfl, _, rfl, s, _, dx, _, rfl, g3, T.cl_Maker, T.a_Maker_starts, (by show 2 < 1000; decide), ?_⟩
  rw [putF_new (by show [("row" : Str), "kind"].all _ = true; decide +kernel)]
  refine ⟨_, _, rfl, _, rfl, s, _, dx, _, rfl, upd_same, T.cl_Maker, T.a_Maker_rooms, (by show 3 < 1000; decide), ?_⟩
  rw [putF_new (by show [("row" : Str), "kind", "starts"].all _ = true; decide +kernel)]
  refine ⟨_, _, rfl, _, rfl, s, _, dx, _, rfl, upd_same, T.cl_Maker, T.a_Maker_lines, (by show 4 < 1000; decide), ?_⟩
  rw [putF_new (by show [("row" : Str), "kind", "starts", "rooms"].all _ = true; decide +kernel)]
  refine ⟨rfl, sz0, fun mk hmk => ?_⟩
  have smk : s ≠ mk := by rintro rfl; rw [upd_same] at hmk; cases hmk
  have hmk3 : H3 mk = none := by rw [upd_ne (Ne.symm smk), upd_ne (Ne.symm smk), upd_ne (Ne.symm smk)] at hmk; exact hmk
  refine ⟨_, rfl, s, _, dx, _, rfl, (by rw [upd_ne smk, upd_same]), T.cl_Maker, T.a_Maker_making, (by show 5 < 1000; decide), ?_⟩
  rw [putF_new (by show [("row" : Str), "kind", "starts", "rooms", "lines"].all _ = true; decide +kernel)]
  refine ⟨_, rfl, s, _, dx, _, rfl, upd_same, T.cl_Maker, T.a_Maker_done, (by show 6 < 1000; decide), ?_⟩
  rw [putF_new (by show [("row" : Str), "kind", "starts", "rooms", "lines", "making"].all _ = true; decide +kernel)]
  have cs : c ≠ s := by rintro rfl; rw [g3] at hc; cases hc
  have cm : c ≠ mk := by rintro rfl; rw [hc] at hmk3; cases hmk3
  have old : ∀ b o, b ≠ s → H3 b = some o → b ≠ mk := fun b o _ e e' => by rw [e', hmk3] at e; cases e
  refine fin _ dx (.ref r0) c (.ref r) q mk (fun b o nb e => ?_) upd_same ?_ cm ?_ ?_ ?_
  · have e3 := s3 _ _ (b2 _ _ nb e)
    rw [upd_ne nb, upd_ne nb, upd_ne (old _ _ nb e3), upd_ne nb, upd_ne nb, upd_ne nb]
    exact e3
  · rw [upd_ne cs, upd_ne cs, upd_ne cm, upd_ne cs, upd_ne cs, upd_ne cs]
    exact hc
  · cases e : H mk with
    | none => rfl
    | some o => have := s3 _ _ (b2 _ _ (Ne.symm smk) e); rw [hmk3] at this; cases this
  · rw [upd_ne (Ne.symm smk), upd_ne (Ne.symm smk), upd_same]
  · have l1 : LinesAt K (fun b => b = mk ∨ b = s) H3 rows q := hlin.toL fun x vs e _ z => by
      rcases z with z | z
      · rw [z, hmk3] at e; cases e
      · rw [z, g3] at e; cases e
    refine l1.but (fun b o nb e => ?_) fun b xs h => ?_
    · have n1 : b ≠ mk := fun e => nb (.inl e)
      have n2 : b ≠ s := fun e => nb (.inr e)
      rw [upd_ne n2, upd_ne n2, upd_ne n1, upd_ne n2, upd_ne n2, upd_ne n2]
      exact e
    · exact But.ts (But.upd _ _ _) upd_same rfl _ _ (But.ts (But.upd _ _ _) (by rw [upd_ne smk, upd_same]) rfl _ _ ((same_new hmk _).tup (But.ts (But.upd _ _ _) upd_same rfl _ _ (But.ts (But.upd _ _ _) upd_same rfl _ _ (But.ts (But.upd _ _ _) g3 rfl _ _ h)))))
end
end KF

set_option Elab.async false
set_option linter.all false
set_option maxRecDepth 100000
set_option maxHeartbeats 4000000
namespace KF
open PySem PySem.Spec L2 TL
section
variable {P : Program} {w : World} {K : PySem.W.Frag} {mg : Str → Option Value} {base : Heap}
theorem mkF_put_making {r0 kv c r : V} {q mk mk2 : Addr} {d : Int} : putF "making" (.ref mk2) (mkF r0 kv c r q mk d) = mkF r0 kv c r q mk2 d := by
  unfold mkF
  show (if ("row" : Str) = "making" then _ else _ :: (if ("kind" : Str) = "making" then _ else _ :: (if ("starts" : Str) = "making" then _ else _ :: (if ("rooms" : Str) = "making" then _ else _ :: (if ("lines" : Str) = "making" then _ else _ :: (if ("making" : Str) = "making" then _ else _)))))) = _
  rw [if_neg (by decide +kernel), if_neg (by decide +kernel), if_neg (by decide +kernel), if_neg (by decide +kernel), if_neg (by decide +kernel), if_pos rfl]
def spMakingOf (K : PySem.W.Frag) : Sp := fun vs H Q _ => ∃ (a : Addr) (kv v : V) (l : Ctx) (ws : List V) (k : Kd) (p : Pg) (starts : List Nat) (rows : List (List Line)) (its : List Item) (rs' : List Nat), vs = [.ref a, kv, v] ∧ H a = some (.lst ws) ∧ All2 (NmAt K H) l ws ∧ KdAt K H k kv ∧ PgAt K H p v ∧ BookOk l k starts rows ∧
  Lg 250 l 0 k p ∧ Tl rows 101 l 0 k p starts rs' its ∧ p.deep ≤ 200 ∧ its.length ≤ 100000 ∧ ∀ H' mk mv, Same H H' → H' mk = some (.lst mv) → All2 (ItAt K H') its mv → Q (.ref mk) H'
theorem ok_makingOf (T : Tx w K mg) : Df P w K mg base CX0 260 "making_of" ["row", "kind", "program"] [] (spMakingOf K) := by
  have GI := (ok_mkInit (P := P) (base := base) T)
  have GL := (ok_isLong (P := P) (base := base) T).mono (show 253 ≤ 259 by omega)
  have GT := (ok_tell (P := P) (base := base) T 101).mono (show 2 * 101 + 20 ≤ 259 by omega)
  refine df0 T.d_making_of T.g_making_of sc_making_of (fun _ _ _ _ _ _ us hl => match us, hl with | [_, _, _], _ => rfl) (fun vs H Q E h => ?_) (fun cdv A outer sh H vs Q E hr h => ?_)
  · obtain ⟨a, kv, v, l, ws, k, p, starts, rows, its, rs', rfl, _⟩ := h
    rfl
  obtain ⟨a, kv, v, l, ws, k, p, starts, rows, its, rs', rfl, ha, hl, hk, hp, hbk, hlg, htl, hpd, hil, fin⟩ := h
  refine ⟨_, (pss_cons (ps_set (i := 3) sc_making_of.nd rfl (.inl rfl) (mkl GI (hr.mono (by omega)) pass0 (pa_cons (pv 0) (pa_cons (pv 1) pa_nil)))) (pss_cons (ps_if (pt_not (pt_val (cal GL hr pass0 (pa_cons (pv 0) (pa_cons (pv 1) (pa_cons (pv 2) pa_nil)))))) (pss_one (ps_never)) pss_nil) (pss_cons (ps_expr (mcal GT hr pass0 (pv 3) (pa_cons (pe_callTy call_list_of rfl T.n_list (by decide +kernel) (pa_cons (pv 0) pa_nil)) (pa_cons (pv 1) (pa_cons (pv 2) (pa_cons (pe_callTy call_list_of rfl T.n_list (by decide +kernel) (pa_cons (pe_fld (pv 3) rfl) pa_nil)) pa_nil)))))) (pss_one (ps_ret (pe_fld (pv 3) rfl)))))), ?_⟩
  refine ⟨_, rfl, _, rfl, fun s dx hs0 hdx0 hne => ?_⟩
  have snew : Same H (upd (upd H dx (.own s)) s (.ins (He.ga K "Maker") dx [])) := fun y o hy => by
    rw [upd_ne (ne_of_none hy hs0), upd_ne (ne_of_none hy hdx0)]; exact hy
  refine ⟨s, dx, a, kv, l, ws, k, starts, rows, rfl, upd_same, snew _ _ ha, hl.imp fun _ _ h => h.same snew, hk.same snew, hbk, fun H1 dx' r0 c r q mk b1 g1 hc1 hcm hmk0 hmk1 hlin => ⟨rfl, ?_⟩⟩
  have s1 : Same H H1 := fun y o hy => b1 _ _ (ne_of_none hy hs0) (snew _ _ hy)
  have hmkH : H mk = none := snew.free hmk0
  refine ⟨_, rfl, _, rfl, _, rfl, a, kv, v, l, ws, k, p, rfl, s1 _ _ ha, hl.imp fun _ _ h => h.same s1, hk.same s1, hp.same s1, hlg, fun x hx => by have := (hbk.ld x hx).1; omega, by have := hbk.kd; omega, by have := hbk.ll; have := hl.length; omega, fun u H2 s2 e => ?_⟩
  subst e
  refine ⟨_, rfl, ifF rfl ?_⟩
  have s12 := s1.trans s2
  have g2 := s2 _ _ g1
  refine ⟨_, rfl, s, dx', _, rfl, g2, mkF_tell, _, rfl, a, ws, rfl, .inl (.of (s12 _ _ ha)), fun c3 hc3 => ⟨_, rfl, _, rfl, ?_⟩⟩
  have s3 := same_new hc3 (.lst ws)
  refine ⟨_, rfl, s, _, dx', _, _, rfl, s3 _ _ g2, T.cl_Maker, T.a_Maker_starts, mkF_starts, c, _, rfl, .inl (.of (s3 _ _ (s2 _ _ hc1))), fun rl hrl => ?_⟩
  have s4 := same_new hrl (.lst (natV starts))
  have s24 := s2.trans (s3.trans s4)
  have s14 := s1.trans s24
  let X : Addr → Prop := fun b => b = mk ∨ b = rl
  have c3mk : c3 ≠ mk := fun e => by rw [e, s2 _ _ hmk1] at hc3; cases hc3
  have c3rl : c3 ≠ rl := fun e => by rw [← e, upd_same] at hrl; cases hrl
  have rlmk : rl ≠ mk := fun e => by rw [e, s3 _ _ (s2 _ _ hmk1)] at hrl; cases hrl
  have rl2 : H2 rl = none := s3.free hrl
  have hte : TeAt K X (upd (upd H2 c3 (.lst ws)) rl (.lst (natV starts))) s q mk rl c3 rows l ws starts [] [] :=
    ⟨⟨dx', r0, kv, .ref c, r, s4 _ _ (s3 _ _ g2)⟩, (hlin.toL (Y := X) fun x vs e nx z => by
        rcases z with z | z
        · exact nx (.inl z)
        · rw [z] at e; have := s2 _ _ e; rw [rl2] at this; cases this).but (ButX.of s24) s24.ts, s4 _ _ upd_same, hl.imp fun _ _ h => h.same s14, fun z => z.elim c3mk c3rl, upd_same, s4 _ _ (s3 _ _ (s2 _ _ hmk1)), trivial, .inl rfl, .inr rfl, rlmk⟩
  refine ⟨X, s, q, mk, rl, c3, kv, v, rows, l, ws, starts, rs', [], its, [], 0, k, p, rfl, hte, hk.same s14, hp.same s14, htl, hbk.ld, hbk.kd, hbk.kl, by have := hbk.ll; omega, hpd, by show 0 + its.length ≤ _; omega, fun H5 mv5 u5 g5 m5 a5 => ?_⟩
  have sne : ¬ tx mk rl s := hte.sne
  refine ⟨_, rfl, s, _, dx', _, _, rfl, u5 _ _ sne (s4 _ _ (s3 _ _ g2)), T.cl_Maker, T.a_Maker_making, mkF_making, fin H5 mk mv5 (fun y o hy => u5 _ _ ?_ (s14 _ _ hy)) m5 a5⟩
  rintro (z | z)
  · rw [z, hmkH] at hy; cases hy
  · rw [z] at hy; have := s12 _ _ hy; rw [rl2] at this; cases this
def spMadeBy (K : PySem.W.Frag) : Sp := fun vs H Q E => ∃ (a m : Addr) (kv : V) (l : Ctx) (ws mv : List V) (k : Kd) (p : Pg) (starts : List Nat) (rows : List (List Line)) (M its : List Item) (rs' : List Nat), vs = [.ref a, kv, .ref m] ∧ H a = some (.lst ws) ∧ All2 (NmAt K H) l ws ∧ KdAt K H k kv ∧ H m = some (.lst mv) ∧ All2 (ItAt K H) M mv ∧ BookOk l k starts rows ∧
  Tl rows 101 l 0 k p starts rs' its ∧ M <+: its ∧ M.length ≤ 100000 ∧ (M.length < its.length → ∀ H' dx, Same H H' → H' dx = some (.xd [("at", .int (M.length : Nat))]) → E (noMaking K) (some dx) H') ∧ ∀ H' u, Same H H' → its.length ≤ M.length → PgAt K H' p u → Q u H'
theorem ok_madeBy (T : Tx w K mg) : Df P w K mg base (L2.CX P w) 340 "made_by" ["row", "kind", "making"] [] (spMadeBy K) := by
  have GI := (ok_mkInit (P := P) (base := base) T)
  have GM := (ok_make (P := P) (base := base) T 101).mono (show 3 * 101 + 30 ≤ 339 by omega)
  refine dfX T.d_made_by T.g_made_by sc_made_by (fun _ _ _ _ _ _ us hl => match us, hl with | [_, _, _], _ => rfl) (fun vs H Q E h => ?_) (fun cdv A outer sh H vs Q E hr h => ?_)
  · obtain ⟨a, m, kv, l, ws, mv, k, p, starts, rows, M, its, rs', rfl, _⟩ := h
    rfl
  obtain ⟨a, m, kv, l, ws, mv, k, p, starts, rows, M, its, rs', rfl, ha, hl, hk, hm, hmv, hbk, htl, hpre, hM, hE, fin⟩ := h
  have hx : Passes (L2.CX P w) (cxOf (L2.CX P w) P w K mg base ["row", "kind", "making", "maker", "found"] "made_by" (defScope s_made_by) (He.ga K "made_by") cdv A outer sh H E) E := passes_call (takes_of rfl rfl rfl rfl) fun _ _ _ _ h => h
  refine ⟨_, (pss_cons (ps_set (i := 3) sc_made_by.nd rfl (.inl rfl) (mkl GI (hr.mono (by omega)) pass0 (pa_cons (pv 0) (pa_cons (pv 1) pa_nil)))) (pss_cons (ps_fld (pv 3) (pe_callTy call_list_of rfl T.n_list (by decide +kernel) (pa_cons (pv 2) pa_nil)) rfl) (pss_cons (ps_set (i := 4) sc_made_by.nd rfl (.inl rfl) (mcal GM hr hx (pv 3) (pa_cons (pe_callTy call_list_of rfl T.n_list (by decide +kernel) (pa_cons (pv 0) pa_nil)) (pa_cons (pv 1) (pa_cons (pe_callTy call_list_of rfl T.n_list (by decide +kernel) (pa_cons (pe_fld (pv 3) rfl) pa_nil)) (pa_cons pe_int pa_nil)))))) (pss_cons (ps_if (pt_cmpR op_lt (pe_fld (pv 3) rfl) (pe_callB call_len_seq rfl T.n_len PySem.boot_len (pa_cons (pe_fld (pv 3) rfl) pa_nil)) (nomark _)) (pss_one (ps_noMaking T rfl (takes_of rfl rfl rfl rfl) hr.room rfl (pa_cons (pe_fld (pv 3) rfl) pa_nil) mono_flds)) pss_nil) (pss_one (ps_ret (pv 4))))))), ?_⟩
  refine ⟨_, rfl, _, rfl, fun s dx hs0 hdx0 hne => ?_⟩
  have snew : Same H (upd (upd H dx (.own s)) s (.ins (He.ga K "Maker") dx [])) := fun y o hy => by
    rw [upd_ne (ne_of_none hy hs0), upd_ne (ne_of_none hy hdx0)]; exact hy
  refine ⟨s, dx, a, kv, l, ws, k, starts, rows, rfl, upd_same, snew _ _ ha, hl.imp fun _ _ h => h.same snew, hk.same snew, hbk, fun H1 dx' r0 c r q mk0 b1 g1 hc1 hcm hmk0 hmk1 hlin => ⟨rfl, ?_⟩⟩
  have s1 : Same H H1 := fun y o hy => b1 _ _ (ne_of_none hy hs0) (snew _ _ hy)
  refine ⟨_, rfl, m, mv, rfl, .inl (.of (s1 _ _ hm)), fun mk hmk => ?_⟩
  have s2 := same_new hmk (.lst mv)
  have smk : s ≠ mk := fun e => by rw [← e, g1] at hmk; cases hmk
  refine ⟨_, rfl, s, _, dx', _, rfl, s2 _ _ g1, T.cl_Maker, T.a_Maker_making, (by show 7 < 1000; decide), ?_⟩
  rw [mkF_put_making]
  obtain ⟨H3, eH3⟩ : ∃ H3, H3 = upd (upd H1 mk (.lst mv)) s (.ins (He.ga K "Maker") dx' (mkF r0 kv (.ref c) r q mk 0)) := ⟨_, rfl⟩
  rw [← eH3]
  have b3 : But s (upd H1 mk (.lst mv)) H3 := by rw [eH3]; exact But.upd _ _ _
  have g3 : H3 s = some (.ins (He.ga K "Maker") dx' (mkF r0 kv (.ref c) r q mk 0)) := by rw [eH3]; exact upd_same
  have t3 : TS K (upd H1 mk (.lst mv)) H3 := But.ts b3 (s2 _ _ g1) rfl
  have s13 : Same H H3 := fun y o hy => b3 _ _ (ne_of_none hy hs0) (s2 _ _ (s1 _ _ hy))
  have mk3 : H3 mk = some (.lst mv) := b3 _ _ (Ne.symm smk) upd_same
  have cs : c ≠ s := fun e => by rw [e, g1] at hc1; cases hc1
  have c3 : H3 c = some (.lst (natV starts)) := b3 _ _ cs (s2 _ _ hc1)
  refine ⟨_, rfl, s, dx', _, rfl, g3, mkF_make, _, rfl, a, ws, rfl, .inl (.of (s13 _ _ ha)), fun c4 hc4 => ⟨_, rfl, ?_⟩⟩
  have s4 := same_new hc4 (.lst ws)
  refine ⟨_, rfl, s, _, dx', _, _, rfl, s4 _ _ g3, T.cl_Maker, T.a_Maker_starts, mkF_starts, c, _, rfl, .inl (.of (s4 _ _ c3)), fun rl hrl => ?_⟩
  have s5 := same_new hrl (.lst (natV starts))
  have s35 := s4.trans s5
  have s15 := s13.trans s35
  let X : Addr → Prop := fun b => b = s ∨ b = rl
  have rl3 : H3 rl = none := s4.free hrl
  have srl : s ≠ rl := fun e => by rw [← e, g3] at rl3; cases rl3
  have hma : MaAt K X (upd (upd H3 c4 (.lst ws)) rl (.lst (natV starts))) s q mk rl c4 rows l ws starts M mv 0 :=
    ⟨⟨dx', r0, kv, .ref c, r, s35 _ _ g3⟩, by
        have l1 : LinesAt K (fun b => b = s ∨ b = mk) H1 rows q := hlin.toL fun x vs e nx z => by
          rcases z with z | z
          · exact nx (.inr z)
          · rw [z, hmk] at e; cases e
        have l2 : LinesAt K (fun b => b = s ∨ b = mk) H3 rows q := (l1.but (ButX.of s2) s2.ts).but (fun b o nb e => b3 _ _ (fun z => nb (.inl z)) e) t3
        exact (l2.toL (Y := X) fun x vs e nx z => by
          rcases z with z | z
          · exact nx (.inl z)
          · rw [z, rl3] at e; cases e).but (ButX.of s35) s35.ts, s5 _ _ upd_same, hl.imp fun _ _ h => h.same s15, ?_, upd_same, s35 _ _ mk3, hmv.imp fun _ _ h => h.ts s15.ts, ?_, .inl rfl, .inr rfl⟩
  rotate_left
  · rintro (z | z)
    · rw [z, g3] at hc4; cases hc4
    · rw [← z, upd_same] at hrl; cases hrl
  · rintro (z | z)
    · exact smk z.symm
    · rw [z, rl3] at mk3; cases mk3
  have free : ∀ {y : Addr} {o : HO}, H y = some o → ¬ px s rl y := fun {y o} hy z => by
    rcases z with z | z
    · rw [z, hs0] at hy; cases hy
    · have := s13 _ _ hy; rw [z, rl3] at this; cases this
  have hpre0 : M.drop 0 <+: its ++ [] := by rw [List.drop_zero, List.append_nil]; exact hpre
  refine ⟨X, s, q, mk, rl, c4, kv, rows, l, ws, starts, rs', M, its, [], mv, 0, 0, k, p, rfl, hma, hk.same s15, htl, hpre0, Nat.zero_le _, hM, hbk.ld, hbk.kd, hbk.kl, by have := hbk.ll; omega, by omega, fun hlt H' dxx b' e => hE (by omega) H' dxx (fun y o hy => b' _ _ (free hy) (s15 _ _ hy)) e, fun H6 u6 b6 g6 m6 hp6 hd6 => ?_⟩
  have ml := hmv.length
  obtain ⟨dx6, r06, kv6, c6, rr6, hobj6⟩ := m6
  have mk6 : H6 mk = some (.lst mv) := b6 _ _ (fun z => hma.mk3 (hma.sub _ z)) hma.mk_
  have hlen := hpre.length_le
  refine ⟨_, rfl, s, _, dx6, _, _, rfl, hobj6, T.cl_Maker, T.a_Maker_done, mkF_done, _, rfl, s, _, dx6, _, _, rfl, hobj6, T.cl_Maker, T.a_Maker_making, mkF_making, mk, _, rfl, .inl (.of mk6), _, _, rfl, rfl, _, rfl, ?_⟩
  refine ifF (decide_eq_false (by omega)) ⟨_, rfl, fin H6 u6 (fun y o hy => b6 _ _ (free hy) (s15 _ _ hy)) (by omega) hp6⟩
end
end KF

set_option Elab.async false
set_option linter.all false
set_option maxRecDepth 100000
set_option maxHeartbeats 4000000
/-! Plain maths: tidied and a step keep kinds. -/
namespace KF
open PySem PySem.Spec L2 TL
/-- no name is an x -/
def NoX (l : Ctx) : Prop := ∀ q ∈ l, ∀ j, q.1 ≠ .x j
def NoE (l : Ctx) : Prop := ∀ q ∈ l, ∀ j, q.1 ≠ .e j
/-- the names x 0, x 1, .. in place of the names -/
def xC (C : Ctx) : Ctx := C.zipIdx.map fun z => (.x z.2, z.1.2)
def nms (C : Ctx) : List Nm := C.map (·.1)
theorem nms_len (C : Ctx) : (nms C).length = C.length := List.length_map _
theorem nms_snoc (C : Ctx) (y : Nm) (k : Kd) : nms (C ++ [(y, k)]) = nms C ++ [y] := by simp [nms]
theorem xC_snoc (C : Ctx) (y : Nm) (k : Kd) : xC (C ++ [(y, k)]) = xC C ++ [(.x C.length, k)] := by simp [xC, List.zipIdx_append]
theorem xC_len (C : Ctx) : (xC C).length = C.length := by simp [xC]
theorem snoc_cases {α : Type} {M : List α → Prop} (h0 : M []) (h1 : ∀ l x, M l → M (l ++ [x])) (l : List α) : M l := by
  have go : ∀ n (l : List α), l.length = n → M l := by
    intro n
    induction n with
    | zero => intro l e; rw [List.eq_nil_of_length_eq_zero e]; exact h0
    | succ n ih =>
      intro l e
      have ne : l ≠ [] := by rintro rfl; cases e
      rw [← List.dropLast_concat_getLast ne]
      exact h1 _ _ (ih _ (by rw [List.length_dropLast]; omega))
  exact go _ l rfl
theorem tidGo_pre {T : List Nm} {y x : Nm} : ∀ {n : Nat}, n ≤ T.length → tidGo (T ++ [y]) x n = tidGo T x n
  | 0, _ => rfl
  | n + 1, h => by
    rw [tidGo, tidGo, tidGo_pre (by omega), List.getElem?_append_left (by omega)]
theorem tidN_snoc (T : List Nm) (y x : Nm) : tidN (T ++ [y]) x = if y = x then .x T.length else tidN T x := by
  unfold tidN
  rw [List.length_append, List.length_singleton, tidGo, List.getElem?_append_right (Nat.le_refl _), Nat.sub_self, tidGo_pre (Nat.le_refl _)]
  by_cases h : y = x
  · subst h; simp
  · rw [if_neg h, if_neg]
    intro z
    exact h (Option.some.inj z)
theorem tidN_nil (x : Nm) : tidN [] x = x := rfl
theorem tidN_is (T : List Nm) (x : Nm) : (∃ n, n < T.length ∧ tidN T x = .x n ∧ x ∈ T) ∨ (x ∉ T ∧ tidN T x = x) := by
  refine snoc_cases (M := fun T => (∃ n, n < T.length ∧ tidN T x = .x n ∧ x ∈ T) ∨ (x ∉ T ∧ tidN T x = x)) (.inr ⟨List.not_mem_nil, rfl⟩) (fun T y ih => ?_) T
  rw [tidN_snoc]
  by_cases h : y = x
  · subst h
    exact .inl ⟨T.length, by simp, if_pos rfl, by simp⟩
  · rw [if_neg h]
    rcases ih with ⟨n, h1, h2, h3⟩ | ⟨h1, h2⟩
    · exact .inl ⟨n, by simp; omega, h2, by simp [h3]⟩
    · exact .inr ⟨by simp [h1]; exact fun e => h e.symm, h2⟩
theorem knownAs_app {l m : Ctx} {x : Nm} (h : ∀ q ∈ m, q.1 ≠ x) : knownAs (l ++ m) x = knownAs l x := by
  revert h
  refine snoc_cases (M := fun m => (∀ q ∈ m, q.1 ≠ x) → knownAs (l ++ m) x = knownAs l x) (fun _ => by rw [List.append_nil]) (fun m q ih h => ?_) m
  obtain ⟨y, k⟩ := q
  rw [← List.append_assoc, knownAs_snoc, if_neg (h (y, k) (by simp)), ih fun q hq => h q (by simp [hq])]
theorem xC_names {C : Ctx} : ∀ q ∈ xC C, ∃ j, j < C.length ∧ q.1 = .x j := by
  intro q hq
  obtain ⟨z, hz, rfl⟩ := List.mem_map.mp hq
  have := List.mem_zipIdx hz
  exact ⟨z.2, by omega, rfl⟩
section
variable {R : Ctx}
theorem known_tid (hR : NoX R) {x : Nm} {k : Kd} : ∀ C : Ctx, knownAs (R ++ C) x = some k → knownAs (R ++ xC C) (tidN (nms C) x) = some k := by
  intro C
  refine snoc_cases (M := fun C => knownAs (R ++ C) x = some k → knownAs (R ++ xC C) (tidN (nms C) x) = some k) (fun h => h) (fun C q ih h => ?_) C
  obtain ⟨y, c⟩ := q
  rw [xC_snoc, nms_snoc, tidN_snoc, nms_len, ← List.append_assoc, knownAs_snoc]
  rw [← List.append_assoc, knownAs_snoc] at h
  by_cases e : y = x
  · rw [if_pos e] at h
    rw [if_pos e, if_pos rfl]
    exact h
  · rw [if_neg e] at h
    rw [if_neg e, if_neg]
    · exact ih h
    · intro z
      rcases tidN_is (nms C) x with ⟨n, h1, h2, _⟩ | ⟨h1, h2⟩
      · rw [h2] at z
        cases z
        rw [nms_len] at h1
        exact Nat.lt_irrefl _ h1
      · rw [h2] at z
        have : knownAs (R ++ C) x = knownAs R x := knownAs_app fun q hq e => h1 (List.mem_map.mpr ⟨q, hq, e⟩)
        rw [this] at h
        exact hR _ (knownAs_mem h) _ z.symm
theorem kindIn_tid (hR : NoX R) : ∀ {p : Pg} {C : Ctx} {k : Kd}, kindIn (R ++ C) p = some k → kindIn (R ++ xC C) (tid (nms C) p) = some k
  | .name x, C, k, h => known_tid hR C h
  | .thing, _, _, h => h
  | .take x a p, C, k, h => by
    obtain ⟨b, rfl, h1⟩ := kin_take.mp h
    rw [List.append_assoc] at h1
    have := kindIn_tid hR h1
    rw [xC_snoc, nms_snoc, ← List.append_assoc] at this
    rw [tid, nms_len]
    exact kin_take.mpr ⟨b, rfl, this⟩
  | .give p q, C, k, h => by
    obtain ⟨c, h1, h2⟩ := kin_give.mp h
    exact kin_give.mpr ⟨c, kindIn_tid hR h1, kindIn_tid hR h2⟩
  | .pair p q, C, k, h => by
    obtain ⟨a, b, e, h1, h2⟩ := kin_pair.mp h
    exact kin_pair.mpr ⟨a, b, e, kindIn_tid hR h1, kindIn_tid hR h2⟩
  | .first p, C, k, h => by
    obtain ⟨b, h1⟩ := kin_first.mp h
    exact kin_first.mpr ⟨b, kindIn_tid hR h1⟩
  | .second p, C, k, h => by
    obtain ⟨b, h1⟩ := kin_second.mp h
    exact kin_second.mpr ⟨b, kindIn_tid hR h1⟩
theorem elow_tid (hE : NoE R) {n : Nat} : ∀ {p : Pg} {C : Ctx} {k : Kd}, kindIn (R ++ C) p = some k → ELow n (tid (nms C) p)
  | .name x, C, k, h => by
    rw [tid]
    rcases tidN_is (nms C) x with ⟨m, h1, h2, _⟩ | ⟨h1, h2⟩
    · rw [h2]; trivial
    · rw [h2]
      have h' : knownAs (R ++ C) x = some k := h
      rw [knownAs_app fun q hq e => h1 (List.mem_map.mpr ⟨q, hq, e⟩)] at h'
      have := hE _ (knownAs_mem h')
      cases x with
      | e j => exact absurd rfl (this j)
      | _ => trivial
  | .thing, _, _, h => trivial
  | .take x a p, C, k, h => by
    obtain ⟨b, rfl, h1⟩ := kin_take.mp h
    rw [List.append_assoc] at h1
    have := elow_tid hE (n := n) h1
    rw [nms_snoc] at this
    exact this
  | .give p q, C, k, h => by
    obtain ⟨c, h1, h2⟩ := kin_give.mp h
    exact ⟨elow_tid hE h1, elow_tid hE h2⟩
  | .pair p q, C, k, h => by
    obtain ⟨a, b, e, h1, h2⟩ := kin_pair.mp h
    exact ⟨elow_tid hE h1, elow_tid hE h2⟩
  | .first p, C, k, h => by
    obtain ⟨b, h1⟩ := kin_first.mp h
    exact elow_tid (p := p) hE h1
  | .second p, C, k, h => by
    obtain ⟨b, h1⟩ := kin_second.mp h
    exact elow_tid (p := p) hE h1
/-- x 0 .. x (n-1) -/
def xT (n : Nat) : List Nm := (List.range n).map .x
theorem xT_len (n : Nat) : (xT n).length = n := by simp [xT]
theorem xT_succ (n : Nat) : xT (n + 1) = xT n ++ [.x n] := by simp [xT, List.range_succ]
theorem tidN_xT {n m : Nat} (h : m < n) : tidN (xT n) (.x m) = .x m := by
  induction n with
  | zero => omega
  | succ n ih =>
    rw [xT_succ, tidN_snoc, xT_len]
    by_cases e : n = m
    · subst e; rw [if_pos rfl]
    · rw [if_neg (by intro z; cases z; exact e rfl), ih (by omega)]
theorem tidN_other {n : Nat} {x : Nm} (h : ∀ j, x ≠ .x j) : tidN (xT n) x = x := by
  induction n with
  | zero => rfl
  | succ n ih => rw [xT_succ, tidN_snoc, if_neg (fun z => h _ z.symm), ih]
theorem tid_tid (hR : NoX R) : ∀ {p : Pg} {C : Ctx} {k : Kd}, kindIn (R ++ C) p = some k → tid (xT C.length) (tid (nms C) p) = tid (nms C) p
  | .name x, C, k, h => by
    rw [tid, tid]
    rcases tidN_is (nms C) x with ⟨m, h1, h2, _⟩ | ⟨h1, h2⟩
    · rw [h2, tidN_xT (by rw [nms_len] at h1; exact h1)]
    · rw [h2]
      have h' : knownAs (R ++ C) x = some k := h
      rw [knownAs_app fun q hq e => h1 (List.mem_map.mpr ⟨q, hq, e⟩)] at h'
      rw [tidN_other (hR _ (knownAs_mem h'))]
  | .thing, _, _, h => rfl
  | .take x a p, C, k, h => by
    obtain ⟨b, rfl, h1⟩ := kin_take.mp h
    rw [List.append_assoc] at h1
    have := tid_tid hR h1
    rw [nms_snoc, List.length_append, List.length_singleton, xT_succ] at this
    rw [tid, tid, nms_len, xT_len, this]
  | .give p q, C, k, h => by
    obtain ⟨c, h1, h2⟩ := kin_give.mp h
    rw [tid, tid, tid_tid hR h1, tid_tid hR h2]
  | .pair p q, C, k, h => by
    obtain ⟨a, b, e, h1, h2⟩ := kin_pair.mp h
    rw [tid, tid, tid_tid hR h1, tid_tid hR h2]
  | .first p, C, k, h => by
    obtain ⟨b, h1⟩ := kin_first.mp h
    rw [tid, tid, tid_tid hR h1]
  | .second p, C, k, h => by
    obtain ⟨b, h1⟩ := kin_second.mp h
    rw [tid, tid, tid_tid hR h1]
end
/-! ### what is put in keeps kinds -/
def Sub (l l' : Ctx) : Prop := ∀ y d, knownAs l y = some d → knownAs l' y = some d
theorem Sub.snoc {l l' : Ctx} (h : Sub l l') (y : Nm) (k : Kd) : Sub (l ++ [(y, k)]) (l' ++ [(y, k)]) := fun z d q => by
  rw [knownAs_snoc] at q ⊢
  by_cases e : y = z
  · rw [if_pos e] at q ⊢; exact q
  · rw [if_neg e] at q ⊢; exact h _ _ q
theorem kindIn_sub : ∀ {p : Pg} {l l' : Ctx} {k : Kd}, Sub l l' → kindIn l p = some k → kindIn l' p = some k
  | .name x, l, l', k, s, h => s _ _ h
  | .thing, _, _, _, s, h => h
  | .take x a p, l, l', k, s, h => by
    obtain ⟨b, rfl, h1⟩ := kin_take.mp h
    exact kin_take.mpr ⟨b, rfl, kindIn_sub (s.snoc x a) h1⟩
  | .give p q, l, l', k, s, h => by
    obtain ⟨c, h1, h2⟩ := kin_give.mp h
    exact kin_give.mpr ⟨c, kindIn_sub s h1, kindIn_sub s h2⟩
  | .pair p q, l, l', k, s, h => by
    obtain ⟨a, b, e, h1, h2⟩ := kin_pair.mp h
    exact kin_pair.mpr ⟨a, b, e, kindIn_sub s h1, kindIn_sub s h2⟩
  | .first p, l, l', k, s, h => by
    obtain ⟨b, h1⟩ := kin_first.mp h
    exact kin_first.mpr ⟨b, kindIn_sub s h1⟩
  | .second p, l, l', k, s, h => by
    obtain ⟨b, h1⟩ := kin_second.mp h
    exact kin_second.mpr ⟨b, kindIn_sub s h1⟩
/-- the names that a program binds are x j with n <= j -/
def Bd (n : Nat) : Pg → Prop
  | .name _ => True
  | .thing => True
  | .take y _ p => (∃ j, y = .x j ∧ n ≤ j) ∧ Bd n p
  | .give p q => Bd n p ∧ Bd n q
  | .pair p q => Bd n p ∧ Bd n q
  | .first p => Bd n p
  | .second p => Bd n p
theorem Bd.mono {n m : Nat} (e : n ≤ m) : ∀ {p : Pg}, Bd m p → Bd n p
  | .name _, _ => trivial
  | .thing, _ => trivial
  | .take _ _ p, ⟨⟨j, h1, h2⟩, h⟩ => ⟨⟨j, h1, by omega⟩, Bd.mono e (p := p) h⟩
  | .give p q, h => ⟨Bd.mono e h.1, Bd.mono e h.2⟩
  | .pair p q, h => ⟨Bd.mono e h.1, Bd.mono e h.2⟩
  | .first p, h => Bd.mono (p := p) e h
  | .second p, h => Bd.mono (p := p) e h
theorem tid_bd : ∀ {p : Pg} {T : List Nm}, Bd T.length (tid T p)
  | .name _, _ => trivial
  | .thing, _ => trivial
  | .take x k p, T => ⟨⟨_, rfl, Nat.le_refl _⟩, Bd.mono (m := (T ++ [x]).length) (by simp) (tid_bd (p := p))⟩
  | .give p q, T => ⟨tid_bd, tid_bd⟩
  | .pair p q, T => ⟨tid_bd, tid_bd⟩
  | .first p, T => tid_bd (p := p)
  | .second p, T => tid_bd (p := p)
/-- all names are x j with n <= j -/
def XAbove (n : Nat) (D : Ctx) : Prop := ∀ q ∈ D, ∃ j, q.1 = .x j ∧ n ≤ j
theorem givenIn_kind {n : Nat} {g : Pg} {z : Nm} : ∀ {b : Pg} {l l' : Ctx} {k : Kd}, Bd n b → (∀ j, n ≤ j → z ≠ .x j) → (∀ y d, y ≠ z → knownAs l y = some d → knownAs l' y = some d) →
    (∀ d D, XAbove n D → knownAs l z = some d → kindIn (l' ++ D) g = some d) → kindIn l b = some k → kindIn l' (givenIn z g b) = some k
  | .name x, l, l', k, hb, hz, h1, h2, h => by
    rw [givenIn]
    by_cases e : x = z
    · subst e
      rw [if_pos rfl]
      have := h2 k [] (fun q hq => by cases hq) h
      rwa [List.append_nil] at this
    · rw [if_neg e]; exact h1 _ _ e h
  | .thing, _, _, _, _, _, _, _, h => h
  | .take x a p, l, l', k, ⟨⟨j, hj, hn⟩, hb⟩, hz, h1, h2, h => by
    obtain ⟨b, rfl, h3⟩ := kin_take.mp h
    refine kin_take.mpr ⟨b, rfl, givenIn_kind hb hz (fun y d e q => ?_) (fun d D hD q => ?_) h3⟩
    · rw [knownAs_snoc] at q ⊢
      by_cases e : x = y
      · rw [if_pos e] at q ⊢; exact q
      · rw [if_neg e] at q ⊢; exact h1 _ _ ‹_› q
    · rw [knownAs_snoc, if_neg (fun e => hz j hn (by rw [← e, hj]))] at q
      have := h2 d ([(x, a)] ++ D) (fun y hy => by
        rcases List.mem_append.mp hy with hy | hy
        · cases List.mem_singleton.mp hy; exact ⟨j, hj, hn⟩
        · exact hD y hy) q
      rwa [← List.append_assoc] at this
  | .give p q, l, l', k, hb, hz, h1, h2, h => by
    obtain ⟨c, h3, h4⟩ := kin_give.mp h
    exact kin_give.mpr ⟨c, givenIn_kind hb.1 hz h1 h2 h3, givenIn_kind hb.2 hz h1 h2 h4⟩
  | .pair p q, l, l', k, hb, hz, h1, h2, h => by
    obtain ⟨a, b, e, h3, h4⟩ := kin_pair.mp h
    exact kin_pair.mpr ⟨a, b, e, givenIn_kind hb.1 hz h1 h2 h3, givenIn_kind hb.2 hz h1 h2 h4⟩
  | .first p, l, l', k, hb, hz, h1, h2, h => by
    obtain ⟨b, h3⟩ := kin_first.mp h
    exact kin_first.mpr ⟨b, givenIn_kind (b := p) hb hz h1 h2 h3⟩
  | .second p, l, l', k, hb, hz, h1, h2, h => by
    obtain ⟨b, h3⟩ := kin_second.mp h
    exact kin_second.mpr ⟨b, givenIn_kind (b := p) hb hz h1 h2 h3⟩
/-! ### a step keeps kinds -/
section
variable {R : Ctx}
theorem what_kind (hR : NoX R) {C : Ctx} {r : Pg} {k : Kd} (ht : tid (xT C.length) r = r) (c : canStep r = true) (h : kindIn (R ++ xC C) r = some k) : kindIn (R ++ xC C) (whatComes r) = some k := by
  cases r with
  | give p q =>
    cases p with
    | take x a b =>
      obtain ⟨d, h1, h2⟩ := kin_give.mp h
      obtain ⟨e, z, h3⟩ := kin_take.mp h1
      cases z
      rw [tid, tid, xT_len] at ht
      injection ht with ht1 ht2
      injection ht1 with hx _ hb
      subst hx
      show kindIn _ (givenIn _ q b) = some k
      have above : ∀ D y d, XAbove C.length D → knownAs (R ++ xC C) y = some d → knownAs (R ++ xC C ++ D) y = some d := fun D y d hD hy => by
        rw [knownAs_app]
        · exact hy
        · rintro w hw rfl
          obtain ⟨j, hj, hn⟩ := hD w hw
          rcases List.mem_append.mp (knownAs_mem hy) with m | m
          · exact hR _ m j hj
          · obtain ⟨i, hi, e⟩ := xC_names _ m
            rw [hj] at e
            cases e
            omega
      refine givenIn_kind (n := C.length + 1) ?_ (fun j hj e => by cases e; omega) (fun y d' ne q' => ?_) (fun d' D hD q' => ?_) h3
      · rw [← hb, ← xT_succ]
        have := tid_bd (p := b) (T := xT (C.length + 1))
        rw [xT_len] at this
        exact this
      · rw [knownAs_snoc, if_neg (fun e => ne e.symm)] at q'
        exact q'
      · rw [knownAs_snoc, if_pos rfl] at q'
        cases q'
        exact kindIn_sub (fun y d hy => above D y d (fun w hw => by obtain ⟨j, e1, e2⟩ := hD w hw; exact ⟨j, e1, by omega⟩) hy) h2
    | _ => cases c
  | first p =>
    cases p with
    | pair p q =>
      obtain ⟨b, h1⟩ := kin_first.mp h
      obtain ⟨a', b', e, h2, h3⟩ := kin_pair.mp h1
      cases e
      exact h2
    | _ => cases c
  | second p =>
    cases p with
    | pair p q =>
      obtain ⟨b, h1⟩ := kin_second.mp h
      obtain ⟨a', b', e, h2, h3⟩ := kin_pair.mp h1
      cases e
      exact h3
    | _ => cases c
  | _ => cases c
theorem with_kind (hR : NoX R) : ∀ {pl : List Nat} {p r : Pg} {C : Ctx} {k : Kd}, tid (xT C.length) p = p → partAt p pl = some r → canStep r = true → kindIn (R ++ xC C) p = some k → kindIn (R ++ xC C) (withPart p pl (whatComes r)) = some k
  | [], p, r, C, k, ht, e, c, h => by
    cases e
    exact what_kind hR ht c h
  | i :: pl, p, r, C, k, ht, e, c, h => by
    rw [withPart]
    have e' : (match (inner p)[i]? with | some q => partAt q pl | none => none) = some r := e
    cases hi : (inner p)[i]? with
    | none => rw [hi] at e'; cases e'
    | some s =>
      rw [hi] at e'
      have e2 : partAt s pl = some r := e'
      show kindIn _ (withInner p ((inner p).set i (withPart s pl (whatComes r)))) = some k
      cases p with
      | name x => cases hi
      | thing => cases hi
      | take x a q =>
        have hi' : [q][i]? = some s := hi
        have i0 : i = 0 := by have := (List.getElem?_eq_some_iff.mp hi').1; simp at this; exact this
        subst i0
        cases hi'
        obtain ⟨b, rfl, h1⟩ := kin_take.mp h
        rw [tid, xT_len] at ht
        injection ht with hx _ hb
        subst hx
        rw [← xT_succ] at hb
        rw [List.append_assoc, ← xC_snoc C .p a] at h1
        have := with_kind hR (C := C ++ [(.p, a)]) (by rw [List.length_append]; exact hb) e2 c h1
        rw [xC_snoc, ← List.append_assoc] at this
        exact kin_take.mpr ⟨b, rfl, this⟩
      | first q =>
        have hi' : [q][i]? = some s := hi
        have i0 : i = 0 := by have := (List.getElem?_eq_some_iff.mp hi').1; simp at this; exact this
        subst i0
        cases hi'
        obtain ⟨b, h1⟩ := kin_first.mp h
        rw [tid] at ht
        injection ht with hb
        exact kin_first.mpr ⟨b, with_kind hR hb e2 c h1⟩
      | second q =>
        have hi' : [q][i]? = some s := hi
        have i0 : i = 0 := by have := (List.getElem?_eq_some_iff.mp hi').1; simp at this; exact this
        subst i0
        cases hi'
        obtain ⟨b, h1⟩ := kin_second.mp h
        rw [tid] at ht
        injection ht with hb
        exact kin_second.mpr ⟨b, with_kind hR hb e2 c h1⟩
      | give q1 q2 =>
        obtain ⟨d, h1, h2⟩ := kin_give.mp h
        rw [tid] at ht
        injection ht with hb1 hb2
        have hi' : [q1, q2][i]? = some s := hi
        match i, hi' with
        | 0, hi' => cases hi'; exact kin_give.mpr ⟨d, with_kind hR hb1 e2 c h1, h2⟩
        | 1, hi' => cases hi'; exact kin_give.mpr ⟨d, h1, with_kind hR hb2 e2 c h2⟩
        | i + 2, hi' => cases hi'
      | pair q1 q2 =>
        obtain ⟨a, b, ek, h1, h2⟩ := kin_pair.mp h
        rw [tid] at ht
        injection ht with hb1 hb2
        have hi' : [q1, q2][i]? = some s := hi
        match i, hi' with
        | 0, hi' => cases hi'; exact kin_pair.mpr ⟨a, b, ek, with_kind hR hb1 e2 c h1, h2⟩
        | 1, hi' => cases hi'; exact kin_pair.mpr ⟨a, b, ek, h1, with_kind hR hb2 e2 c h2⟩
        | i + 2, hi' => cases hi'
theorem tid0_kind (hR : NoX R) {p : Pg} {k : Kd} (h : kindIn R p = some k) : kindIn R (tid [] p) = some k := by
  have := kindIn_tid hR (C := []) (p := p) (k := k) (by rw [List.append_nil]; exact h)
  rwa [show xC [] = [] from rfl, List.append_nil] at this
theorem tid0_tid (hR : NoX R) {p : Pg} {k : Kd} (h : kindIn R p = some k) : tid [] (tid [] p) = tid [] p :=
  tid_tid hR (C := []) (p := p) (k := k) (by rw [List.append_nil]; exact h)
/-- one step of a tidy program -/
theorem step_kind (hR : NoX R) {p r : Pg} {pl : List Nat} {k : Kd} (ht : tid [] p = p) (e : partAt p pl = some r) (c : canStep r = true) (h : kindIn R p = some k) : kindIn R (withPart p pl (whatComes r)) = some k := by
  have := with_kind hR (C := []) (p := p) (r := r) (pl := pl) (k := k) ht e c (by rw [show xC [] = [] from rfl, List.append_nil]; exact h)
  rwa [show xC [] = [] from rfl, List.append_nil] at this
theorem runs_all (hR : NoX R) {p r : Pg} (t : Runs p r) : ∀ {k : Kd}, tid [] p = p → kindIn R p = some k → tid [] r = r ∧ kindIn R r = some k ∧ stepPl r = [] := by
  induction t with
  | done h => exact fun ht hk => ⟨ht, hk, h⟩
  | step h e c t ih =>
    intro k ht hk
    have h1 := step_kind hR ht e c hk
    exact ih (tid0_tid hR h1) (tid0_kind hR h1)
theorem runs_plain (hR : NoX R) (hE : NoE R) {p r : Pg} {k : Kd} (h : kindIn R p = some k) (t : Runs (tid [] p) r) : Plain R r k ∧ tid [] r = r := by
  obtain ⟨h1, h2, h3⟩ := runs_all hR t (tid0_tid hR h) (tid0_kind hR h)
  refine ⟨⟨h2, h3, ?_⟩, h1⟩
  have := elow_tid hE (C := []) (p := r) (k := k) (n := R.length) (by rw [List.append_nil]; exact h2)
  rw [show nms [] = [] from rfl, h1] at this
  exact this
end
end KF

set_option Elab.async false
set_option linter.all false
set_option maxRecDepth 100000
set_option maxHeartbeats 4000000
/-! Plain maths: one answer each; the half of a pair; the longer form is a plain long program. -/
namespace KF
open PySem PySem.Spec L2 TL
theorem runs_one {p r : Pg} (t : Runs p r) : ∀ {r' : Pg}, Runs p r' → r = r' := by
  induction t with
  | done h =>
    intro r' t'
    cases t' with
    | done _ => rfl
    | step h' _ _ _ => rw [h] at h'; cases h'
  | step h e c t ih =>
    intro r' t'
    cases t' with
    | done h' => rw [h] at h'; cases h'
    | step h' e' c' t' =>
      rw [h] at h'
      cases h'
      rw [e] at e'
      cases e'
      exact ih t'
theorem runs_pair {R : Ctx} (hR : NoX R) {t r : Pg} (s : Runs t r) : ∀ {a b : Pg} {k : Kd}, t = .pair a b → tid [] a = a → kindIn R a = some k → ∃ r1 r2, r = .pair r1 r2 ∧ Runs a r1 := by
  induction s with
  | done h =>
    rintro a b k rfl ht hk
    exact ⟨a, b, rfl, .done (stepPl_pair h).1⟩
  | @step p q r pl ps h e c t ih =>
    rintro a b k rfl ht hk
    rw [stepPl] at h
    cases hs : stepPl a with
    | cons x xs =>
      rw [hs] at h
      obtain ⟨rfl, _⟩ := List.cons.inj h
      have e' : partAt a x = some r := e
      obtain ⟨r1, r2, e1, t1⟩ := ih (a := tid [] (withPart a x (whatComes r))) (b := tid [] b) rfl (tid0_tid hR (step_kind hR ht e' c hk)) (tid0_kind hR (step_kind hR ht e' c hk))
      exact ⟨r1, r2, e1, .step hs e' c t1⟩
    | nil =>
      rw [hs] at h
      cases hb : stepPl b with
      | nil => rw [hb] at h; cases h
      | cons y ys =>
        rw [hb] at h
        obtain ⟨rfl, _⟩ := List.cons.inj h
        obtain ⟨r1, r2, e1, t1⟩ := ih (a := a) (b := tid [] (withPart b y (whatComes r))) (by
          show Pg.pair (tid [] a) (tid [] (withPart b y (whatComes r))) = _
          rw [ht]) ht hk
        exact ⟨r1, r2, e1, t1⟩
theorem md_one : ∀ n, (∀ l k p r r', Md n l k p r → Md n l k p r' → r = r') ∧ (∀ l p r k r' k', Al n l p r k → Al n l p r' k' → r = r' ∧ k = k')
  | 0 => ⟨fun _ _ _ _ _ h => by rw [Md] at h; exact h.elim, fun _ _ _ _ _ _ h => by rw [Al] at h; exact h.elim⟩
  | n + 1 => by
    obtain ⟨M, A⟩ := md_one n
    constructor
    · intro l k p r r' h h'
      cases k with
      | one => rw [Md] at h h'; rw [h, h']
      | mark b => rw [Md] at h h'; exact (A _ _ _ _ _ _ h h').1
      | both a b =>
        rw [Md] at h h'
        obtain ⟨r1, r2, rfl, h1, h2⟩ := h
        obtain ⟨r3, r4, rfl, h3, h4⟩ := h'
        rw [M _ _ _ _ _ h1 h3, M _ _ _ _ _ h2 h4]
      | to a b =>
        rw [Md] at h h'
        obtain ⟨r1, rfl, h1⟩ := h
        obtain ⟨r3, rfl, h3⟩ := h'
        rw [M _ _ _ _ _ h1 h3]
    · intro l p r k r' k' h h'
      cases p with
      | name x =>
        rw [Al] at h h'
        obtain ⟨rfl, h1⟩ := h
        obtain ⟨rfl, h2⟩ := h'
        rw [h1] at h2
        exact ⟨rfl, Option.some.inj h2⟩
      | give p q =>
        rw [Al] at h h'
        obtain ⟨a, r1, r2, rfl, h1, h2⟩ := h
        obtain ⟨a', r3, r4, rfl, h3, h4⟩ := h'
        obtain ⟨e1, e2⟩ := A _ _ _ _ _ _ h1 h3
        cases e2
        rw [e1, M _ _ _ _ _ h2 h4]
        exact ⟨rfl, rfl⟩
      | first p =>
        rw [Al] at h h'
        obtain ⟨b, r1, rfl, h1⟩ := h
        obtain ⟨b', r3, rfl, h3⟩ := h'
        obtain ⟨e1, e2⟩ := A _ _ _ _ _ _ h1 h3
        cases e2
        rw [e1]
        exact ⟨rfl, rfl⟩
      | second p =>
        rw [Al] at h h'
        obtain ⟨b, r1, rfl, h1⟩ := h
        obtain ⟨b', r3, rfl, h3⟩ := h'
        obtain ⟨e1, e2⟩ := A _ _ _ _ _ _ h1 h3
        cases e2
        rw [e1]
        exact ⟨rfl, rfl⟩
      | take _ _ _ => rw [Al] at h; exact h.elim; all_goals (intros; rename_i z; cases z)
      | pair _ _ => rw [Al] at h; exact h.elim; all_goals (intros; rename_i z; cases z)
      | thing => rw [Al] at h; exact h.elim; all_goals (intros; rename_i z; cases z)
theorem Md.one {n m : Nat} {l : Ctx} {k : Kd} {p r r' : Pg} (h : Md n l k p r) (h' : Md m l k p r') : r = r' :=
  (md_one (max n m)).1 _ _ _ _ _ (h.up (Nat.le_max_left _ _)) (h'.up (Nat.le_max_right _ _))
/-- the longer form of a pair begins with that of the first -/
theorem more_first {R : Ctx} (hR : NoX R) {P O r r' d d' : Pg} {k c : Kd} {m m' : Nat} (hk : kindIn R P = some k) (t : Runs (tid [] P) r) (h : Md m R k r d) (t' : Runs (tid [] (.pair P O)) r') (h' : Md m' R (.both k c) r' d') : ∃ d2, d' = .pair d d2 := by
  obtain ⟨r1, r2, rfl, t1⟩ := runs_pair hR t' (a := tid [] P) (b := tid [] O) rfl (tid0_tid hR hk) (tid0_kind hR hk)
  cases runs_one t t1
  cases m' with
  | zero => rw [Md] at h'; exact h'.elim
  | succ m' =>
    rw [Md] at h'
    obtain ⟨d1, d2, rfl, h1, h2⟩ := h'
    have : d = d1 := h.one h1
    exact ⟨d2, by rw [this]⟩
/-- the longer form, tidied, is a plain long program -/
theorem md_lg {R : Ctx} (hR : NoX R) : ∀ n, (∀ (C : Ctx) k p r, Md n (R ++ C) k p r → Lg n (R ++ xC C) C.length k (tid (nms C) r)) ∧ (∀ (C : Ctx) p r k, Al n (R ++ C) p r k → Hd n (R ++ xC C) C.length (tid (nms C) r) k)
  | 0 => ⟨fun _ _ _ _ h => by rw [Md] at h; exact h.elim, fun _ _ _ _ h => by rw [Al] at h; exact h.elim⟩
  | n + 1 => by
    obtain ⟨M, A⟩ := md_lg hR n
    constructor
    · intro C k p r h
      cases k with
      | one => rw [Md] at h; subst h; rw [Lg]; rfl
      | mark b => rw [Md] at h; rw [Lg]; exact A _ _ _ _ h
      | both a b =>
        rw [Md] at h
        obtain ⟨r1, r2, rfl, h1, h2⟩ := h
        rw [Lg]
        exact ⟨_, _, rfl, M _ _ _ _ h1, M _ _ _ _ h2⟩
      | to a b =>
        rw [Md] at h
        obtain ⟨r1, rfl, h1⟩ := h
        rw [List.append_assoc] at h1
        have := M _ _ _ _ h1
        rw [xC_snoc, nms_snoc, List.length_append, List.length_singleton, ← List.append_assoc] at this
        rw [Lg]
        exact ⟨_, by rw [tid, nms_len], this⟩
    · intro C p r k h
      cases p with
      | name x =>
        rw [Al] at h
        obtain ⟨rfl, h1⟩ := h
        rw [tid, Hd]
        exact known_tid hR C h1
      | give p q =>
        rw [Al] at h
        obtain ⟨a, r1, r2, rfl, h1, h2⟩ := h
        rw [tid, Hd]
        exact ⟨a, A _ _ _ _ h1, M _ _ _ _ h2⟩
      | first p =>
        rw [Al] at h
        obtain ⟨b, r1, rfl, h1⟩ := h
        rw [tid, Hd]
        exact ⟨b, A _ _ _ _ h1⟩
      | second p =>
        rw [Al] at h
        obtain ⟨b, r1, rfl, h1⟩ := h
        rw [tid, Hd]
        exact ⟨b, A _ _ _ _ h1⟩
      | take _ _ _ => rw [Al] at h; exact h.elim; all_goals (intros; rename_i z; cases z)
      | pair _ _ => rw [Al] at h; exact h.elim; all_goals (intros; rename_i z; cases z)
      | thing => rw [Al] at h; exact h.elim; all_goals (intros; rename_i z; cases z)
theorem lg_fuel : ∀ n, (∀ l t k p N, Lg n l t k p → 2 * p.deep + 2 ≤ N → Lg N l t k p) ∧ (∀ l t p k N, Hd n l t p k → 2 * p.deep + 1 ≤ N → Hd N l t p k)
  | 0 => ⟨fun _ _ _ _ _ h => by rw [Lg] at h; exact h.elim, fun _ _ _ _ _ h => by rw [Hd] at h; exact h.elim⟩
  | n + 1 => by
    obtain ⟨L, D⟩ := lg_fuel n
    constructor
    · intro l t k p N h hN
      obtain ⟨N, rfl⟩ : ∃ M, N = M + 1 := ⟨N - 1, by omega⟩
      cases k with
      | one => rw [Lg] at h ⊢; exact h
      | mark b => rw [Lg] at h ⊢; exact D _ _ _ _ _ h (by omega)
      | both a b =>
        rw [Lg] at h ⊢
        obtain ⟨q, r, rfl, h1, h2⟩ := h
        have hN' : 2 * (max q.deep r.deep + 1) + 2 ≤ N + 1 := hN
        exact ⟨q, r, rfl, L _ _ _ _ _ h1 (by omega), L _ _ _ _ _ h2 (by omega)⟩
      | to a b =>
        rw [Lg] at h ⊢
        obtain ⟨q, rfl, h1⟩ := h
        have hN' : 2 * (q.deep + 1) + 2 ≤ N + 1 := hN
        exact ⟨q, rfl, L _ _ _ _ _ h1 (by omega)⟩
    · intro l t p k N h hN
      obtain ⟨N, rfl⟩ : ∃ M, N = M + 1 := ⟨N - 1, by omega⟩
      cases p with
      | name x => rw [Hd] at h ⊢; exact h
      | give p q =>
        rw [Hd] at h ⊢
        obtain ⟨a, h1, h2⟩ := h
        have hN' : 2 * (max p.deep q.deep + 1) + 1 ≤ N + 1 := hN
        exact ⟨a, D _ _ _ _ _ h1 (by omega), L _ _ _ _ _ h2 (by omega)⟩
      | first p =>
        rw [Hd] at h ⊢
        obtain ⟨b, h1⟩ := h
        have hN' : 2 * (p.deep + 1) + 1 ≤ N + 1 := hN
        exact ⟨b, D _ _ _ _ _ h1 (by omega)⟩
      | second p =>
        rw [Hd] at h ⊢
        obtain ⟨b, h1⟩ := h
        have hN' : 2 * (p.deep + 1) + 1 ≤ N + 1 := hN
        exact ⟨b, D _ _ _ _ _ h1 (by omega)⟩
      | take _ _ _ => rw [Hd] at h; exact h.elim; all_goals (intros; rename_i z; cases z)
      | pair _ _ => rw [Hd] at h; exact h.elim; all_goals (intros; rename_i z; cases z)
      | thing => rw [Hd] at h; exact h.elim; all_goals (intros; rename_i z; cases z)
/-- what long_form gives is a plain long program -/
theorem form_lg {R : Ctx} (hR : NoX R) {r d : Pg} {k : Kd} {m : Nat} (h : Md m R k r d) (hd : d.deep ≤ 100) : Lg 250 R 0 k (tid [] d) := by
  have := (md_lg hR m).1 [] k r d (by rw [List.append_nil]; exact h)
  rw [show xC [] = [] from rfl, List.append_nil] at this
  refine (lg_fuel m).1 _ _ _ _ _ this ?_
  rw [tid_deep]
  omega
end KF

set_option Elab.async false
set_option linter.all false
set_option maxRecDepth 100000
set_option maxHeartbeats 4000000
/-! Plain maths: what is told stands in a good book. -/
namespace KF
open PySem PySem.Spec L2 TL
def F2 {α : Type} (R : α → Nat → Prop) : List α → List Nat → Prop
  | [], [] => True
  | x :: r, v :: vs => R x v ∧ F2 R r vs
  | _, _ => False
section
variable {α β : Type} {R R' : α → Nat → Prop}
theorem F2.imp (f : ∀ x v, R x v → R' x v) : ∀ {l : List α} {vs : List Nat}, F2 R l vs → F2 R' l vs
  | [], [], _ => trivial
  | [], _ :: _, h => h.elim
  | _ :: _, [], h => h.elim
  | _ :: _, _ :: _, h => ⟨f _ _ h.1, F2.imp f h.2⟩
theorem F2.append : ∀ {l m : List α} {vs ws : List Nat}, F2 R l vs → F2 R m ws → F2 R (l ++ m) (vs ++ ws)
  | [], _, [], _, _, h => h
  | [], _, _ :: _, _, h, _ => h.elim
  | _ :: _, _, [], _, h, _ => h.elim
  | _ :: _, _, _ :: _, _, h, h' => ⟨h.1, F2.append h.2 h'⟩
theorem F2.split : ∀ {l m : List α} {vs : List Nat}, F2 R (l ++ m) vs → ∃ a b, vs = a ++ b ∧ F2 R l a ∧ F2 R m b
  | [], m, vs, h => ⟨[], vs, rfl, trivial, h⟩
  | x :: l, m, [], h => h.elim
  | x :: l, m, v :: vs, h => by
    obtain ⟨a, b, e, h1, h2⟩ := F2.split (l := l) h.2
    exact ⟨v :: a, b, by rw [e]; rfl, ⟨h.1, h1⟩, h2⟩
theorem F2.of_map {f : β → α} : ∀ {l : List β} {vs : List Nat}, F2 R (l.map f) vs → F2 (fun b v => R (f b) v) l vs
  | [], [], _ => trivial
  | [], _ :: _, h => h.elim
  | _ :: _, [], h => h.elim
  | _ :: _, _ :: _, h => ⟨h.1, F2.of_map h.2⟩
end
theorem canon_ext {a b : List Str} (h : ∀ x, x ∈ a ↔ x ∈ b) : canon a = canon b := strict_one (canon_strict a) (canon_strict b) fun x => mem_canon.trans ((h x).trans mem_canon.symm)
theorem canon_app (a b : List Str) : canon (canon a ++ b) = canon (a ++ b) := canon_ext fun x => by rw [List.mem_append, List.mem_append, mem_canon]
theorem canon_canon (a : List Str) : canon (canon a) = canon a := canon_ext fun x => mem_canon
theorem theOf_snoc (l : Ctx) (x : Nm) (a : Kd) : theOf (l ++ [(x, a)]) = canon (theOf l ++ [shown a]) := by
  unfold theOf
  rw [canon_app, List.map_append]; rfl
theorem roomOf_to (th : List Str) (a : Kd) (as : List Kd) (m : Bool) : roomOf th (a :: as, m) = roomOf (canon (th ++ [shown a])) (as, m) := by
  unfold roomOf
  rw [canon_app, List.append_assoc]; rfl
/-- the number of an end's room -/
def Num (z : List Room) (th : List Str) (e : List Kd × Bool) (r : Nat) : Prop := z[r]? = some (roomOf th e)
structure RowOK (z : List Room) (th : List Str) (m : Bool) (ln : List Line) : Prop where
  ok : ∀ x ∈ ln, ∃ κ mv, x.1 = shown κ ∧ (waysOf κ)[x.2.1]? = some (mv, m) ∧ F2 (Num z th) (moveEnds mv) x.2.2
  all : ∀ κ w mv, shown κ ∈ th → (waysOf κ)[w]? = some (mv, m) → ∃ x ∈ ln, x.1 = shown κ ∧ x.2.1 = w
  few : ln.length ≤ 100000
def BookGood (z : List Room) (rows : List (List Line)) : Prop := ∀ (r : Nat) (th : List Str) (m : Bool), z[r]? = some (th, m) → ∃ ln, rows[r]? = some ln ∧ RowOK z th m ln
/-! ### ways -/
def Fol : Kd → List Mv → Kd → Prop
  | κ, [], k => κ = k
  | .to a b, .kd c :: mv, k => c = a ∧ Fol b mv k
  | .both a _, .one :: mv, k => Fol a mv k
  | .both _ b, .two :: mv, k => Fol b mv k
  | _, _, _ => False
theorem Fol.give {a k : Kd} : ∀ {mv : List Mv} {κ : Kd}, Fol κ mv (.to a k) → Fol κ (mv ++ [.kd a]) k
  | [], κ, h => by rw [Fol] at h; subst h; exact ⟨rfl, by rw [Fol]⟩
  | .kd c :: mv, .to a' b, h => ⟨h.1, Fol.give h.2⟩
  | .one :: mv, .both a' b, h => Fol.give (κ := a') h
  | .two :: mv, .both a' b, h => Fol.give (κ := b) h
  | .kd c :: mv, .both _ _, h => h.elim
  | .kd c :: mv, .mark _, h => h.elim
  | .kd c :: mv, .one, h => h.elim
  | .one :: mv, .to _ _, h => h.elim
  | .one :: mv, .mark _, h => h.elim
  | .one :: mv, .one, h => h.elim
  | .two :: mv, .to _ _, h => h.elim
  | .two :: mv, .mark _, h => h.elim
  | .two :: mv, .one, h => h.elim
theorem Fol.first {b k : Kd} : ∀ {mv : List Mv} {κ : Kd}, Fol κ mv (.both k b) → Fol κ (mv ++ [.one]) k
  | [], κ, h => by rw [Fol] at h; subst h; show Fol _ [] _; rw [Fol]
  | .kd c :: mv, .to a' b, h => ⟨h.1, Fol.first h.2⟩
  | .one :: mv, .both a' b, h => Fol.first (κ := a') h
  | .two :: mv, .both a' b, h => Fol.first (κ := b) h
  | .kd c :: mv, .both _ _, h => h.elim
  | .kd c :: mv, .mark _, h => h.elim
  | .kd c :: mv, .one, h => h.elim
  | .one :: mv, .to _ _, h => h.elim
  | .one :: mv, .mark _, h => h.elim
  | .one :: mv, .one, h => h.elim
  | .two :: mv, .to _ _, h => h.elim
  | .two :: mv, .mark _, h => h.elim
  | .two :: mv, .one, h => h.elim
theorem Fol.second {b k : Kd} : ∀ {mv : List Mv} {κ : Kd}, Fol κ mv (.both b k) → Fol κ (mv ++ [.two]) k
  | [], κ, h => by rw [Fol] at h; subst h; show Fol _ [] _; rw [Fol]
  | .kd c :: mv, .to a' b, h => ⟨h.1, Fol.second h.2⟩
  | .one :: mv, .both a' b, h => Fol.second (κ := a') h
  | .two :: mv, .both a' b, h => Fol.second (κ := b) h
  | .kd c :: mv, .both _ _, h => h.elim
  | .kd c :: mv, .mark _, h => h.elim
  | .kd c :: mv, .one, h => h.elim
  | .one :: mv, .to _ _, h => h.elim
  | .one :: mv, .mark _, h => h.elim
  | .one :: mv, .one, h => h.elim
  | .two :: mv, .to _ _, h => h.elim
  | .two :: mv, .mark _, h => h.elim
  | .two :: mv, .one, h => h.elim
theorem Fol.ways {m : Bool} : ∀ {κ : Kd} {mv : List Mv}, Fol κ mv (.mark m) → (mv, m) ∈ waysOf κ
  | .one, [], h => by cases h
  | .mark n, [], h => by cases h; exact List.mem_singleton.mpr rfl
  | .to _ _, [], h => by cases h
  | .both _ _, [], h => by cases h
  | .to a b, .kd c :: mv, h => by
    obtain ⟨rfl, h⟩ := h
    exact List.mem_map.mpr ⟨_, Fol.ways h, rfl⟩
  | .both a b, .one :: mv, h => List.mem_append_left _ (List.mem_map.mpr ⟨_, Fol.ways (κ := a) h, rfl⟩)
  | .both a b, .two :: mv, h => List.mem_append_right _ (List.mem_map.mpr ⟨_, Fol.ways (κ := b) h, rfl⟩)
  | .both _ _, .kd c :: mv, h => h.elim
  | .mark _, .kd c :: mv, h => h.elim
  | .one, .kd c :: mv, h => h.elim
  | .to _ _, .one :: mv, h => h.elim
  | .mark _, .one :: mv, h => h.elim
  | .one, .one :: mv, h => h.elim
  | .to _ _, .two :: mv, h => h.elim
  | .mark _, .two :: mv, h => h.elim
  | .one, .two :: mv, h => h.elim
theorem fit_one : ∀ {κ : Kd} {td : List Td} {e e' : List Mv × Bool}, e ∈ waysOf κ → e' ∈ waysOf κ → fitsAll td e.1 = true → fitsAll td e'.1 = true → e = e'
  | .one, _, _, _, h, _, _, _ => by cases h
  | .mark m, td, e, e', h, h', _, _ => by rw [List.mem_singleton.mp h, List.mem_singleton.mp h']
  | .to a b, td, e, e', h, h', f, f' => by
    obtain ⟨e1, h1, rfl⟩ := List.mem_map.mp h
    obtain ⟨e2, h2, rfl⟩ := List.mem_map.mp h'
    cases td with
    | nil => cases f
    | cons t td =>
      obtain ⟨_, f1⟩ := Bool.and_eq_true_iff.mp f
      obtain ⟨_, f2⟩ := Bool.and_eq_true_iff.mp f'
      rw [fit_one h1 h2 f1 f2]
  | .both a b, td, e, e', h, h', f, f' => by
    cases td with
    | nil =>
      rcases List.mem_append.mp h with h | h <;> (obtain ⟨e1, h1, rfl⟩ := List.mem_map.mp h; cases f)
    | cons t td =>
      rcases List.mem_append.mp h with h | h <;> rcases List.mem_append.mp h' with h' | h' <;> obtain ⟨e1, h1, rfl⟩ := List.mem_map.mp h <;> obtain ⟨e2, h2, rfl⟩ := List.mem_map.mp h' <;>
        obtain ⟨g1, f1⟩ := Bool.and_eq_true_iff.mp f <;> obtain ⟨g2, f2⟩ := Bool.and_eq_true_iff.mp f'
      · rw [fit_one h1 h2 f1 f2]
      · cases t <;> first | cases g1; done | cases g2
      · cases t <;> first | cases g1; done | cases g2
      · rw [fit_one h1 h2 f1 f2]
theorem fitsAll_snoc {t : Td} {m : Mv} (h : fits t m = true) : ∀ {td : List Td} {mv : List Mv}, fitsAll td mv = true → fitsAll (td ++ [t]) (mv ++ [m]) = true
  | [], [], _ => by show (fits t m && true) = true; rw [h]; rfl
  | [], _ :: _, q => by cases q
  | _ :: _, [], q => by cases q
  | a :: td, b :: mv, q => by
    obtain ⟨h1, h2⟩ := Bool.and_eq_true_iff.mp q
    show (fits a b && fitsAll (td ++ [t]) (mv ++ [m])) = true
    rw [h1, fitsAll_snoc h h2]; rfl
theorem ways_fit {κ : Kd} {td : List Td} {mv : List Mv} {m : Bool} (h : (mv, m) ∈ waysOf κ) (f : fitsAll td mv = true) : ∃ w, wayIn κ td = some w ∧ (waysOf κ)[w]? = some (mv, m) := by
  unfold wayIn
  cases q : (waysOf κ).findIdx? (fun e => fitsAll td e.1) with
  | none =>
    rw [List.findIdx?_eq_none_iff] at q
    have := q _ h
    rw [f] at this
    cases this
  | some w =>
    obtain ⟨hw, h1, _⟩ := List.findIdx?_eq_some_iff_getElem.mp q
    refine ⟨w, rfl, ?_⟩
    rw [List.getElem?_eq_getElem hw]
    exact congrArg some (fit_one (List.getElem_mem hw) h h1 f)
/-! ### what is told of the arguments -/
section
variable {T : Kd → Pg → List Nat → List Nat → List Item → Prop}
theorem TaP.give {c : Kd} {q : Pg} {rs1 rs' : List Nat} {i2 : List Item} (h2 : T c q rs1 rs' i2) : ∀ {td : List Td} {mv : List Mv} {rs : List Nat} {i1 : List Item}, TaP T td mv rs rs1 i1 → TaP T (td ++ [.ar q]) (mv ++ [.kd c]) rs rs' (i1 ++ i2)
  | [], [], rs, i1, h => by
    obtain ⟨rfl, rfl⟩ := h
    exact ⟨rs', i2, [], h2, ⟨rfl, rfl⟩, by simp⟩
  | .ar q' :: td, .kd c' :: mv, rs, i1, ⟨rs2, j1, j2, a1, a2, e⟩ => ⟨rs2, j1, j2 ++ i2, a1, TaP.give h2 a2, by rw [e, List.append_assoc]⟩
  | .one :: td, .one :: mv, rs, i1, h => TaP.give (td := td) (mv := mv) h2 h
  | .two :: td, .two :: mv, rs, i1, h => TaP.give (td := td) (mv := mv) h2 h
  | [], _ :: _, _, _, h => by simp [TaP] at h
  | _ :: _, [], _, _, h => by simp [TaP] at h
  | .ar _ :: _, .one :: _, _, _, h => h.elim
  | .ar _ :: _, .two :: _, _, _, h => h.elim
  | .one :: _, .kd _ :: _, _, _, h => h.elim
  | .one :: _, .two :: _, _, _, h => h.elim
  | .two :: _, .kd _ :: _, _, _, h => h.elim
  | .two :: _, .one :: _, _, _, h => h.elim
theorem TaP.step {t : Td} {m : Mv} (tm : (t = .one ∧ m = .one) ∨ (t = .two ∧ m = .two)) {rs' : List Nat} : ∀ {td : List Td} {mv : List Mv} {rs : List Nat} {i1 : List Item}, TaP T td mv rs rs' i1 → TaP T (td ++ [t]) (mv ++ [m]) rs rs' i1
  | [], [], rs, i1, h => by
    rcases tm with ⟨rfl, rfl⟩ | ⟨rfl, rfl⟩ <;> exact h
  | .ar q' :: td, .kd c' :: mv, rs, i1, ⟨rs2, j1, j2, a1, a2, e⟩ => ⟨rs2, j1, j2, a1, TaP.step tm a2, e⟩
  | .one :: td, .one :: mv, rs, i1, h => TaP.step (td := td) (mv := mv) tm h
  | .two :: td, .two :: mv, rs, i1, h => TaP.step (td := td) (mv := mv) tm h
  | [], _ :: _, _, _, h => by simp [TaP] at h
  | _ :: _, [], _, _, h => by simp [TaP] at h
  | .ar _ :: _, .one :: _, _, _, h => h.elim
  | .ar _ :: _, .two :: _, _, _, h => h.elim
  | .one :: _, .kd _ :: _, _, _, h => h.elim
  | .one :: _, .two :: _, _, _, h => h.elim
  | .two :: _, .kd _ :: _, _, _, h => h.elim
  | .two :: _, .one :: _, _, _, h => h.elim
end
theorem moveEnds_snoc' (mv : List Mv) (m : Mv) : moveEnds (mv ++ [m]) = moveEnds mv ++ moveEnds [m] := by simp [moveEnds]
theorem moveEnds_kd (c : Kd) : moveEnds [.kd c] = endsOf c := by simp [moveEnds]
theorem hd_tl {z : List Room} {th : List Str} {l : Ctx} {t : Nat} {T : Kd → Pg → List Nat → List Nat → List Item → Prop} {d : Nat}
    (ih : ∀ c q N rs rs', q.deep < d → Lg N l t c q → F2 (Num z th) (endsOf c) rs → ∃ its, T c q (rs ++ rs') rs' its ∧ its.length = sizeN q) : ∀ {N : Nat} {p : Pg} {k : Kd}, p.deep ≤ d → Hd N l t p k →
    isSp p = true ∧ ∃ κ mv, knownAs l (pathOf p).2 = some κ ∧ Fol κ mv k ∧ fitsAll (pathOf p).1 mv = true ∧ ∀ rs rs', F2 (Num z th) (moveEnds mv) rs → ∃ rest, TaP T (pathOf p).1 mv (rs ++ rs') rs' rest ∧ rest.length + 1 = sizeN p
  | 0, _, _, _, h => by rw [Hd] at h; exact h.elim
  | N + 1, .name x, k, hd, h => by
    rw [Hd] at h
    refine ⟨rfl, k, [], h, (by rw [Fol]), rfl, fun rs rs' f => ?_⟩
    cases rs with
    | nil => exact ⟨[], ⟨rfl, rfl⟩, rfl⟩
    | cons _ _ => exact f.elim
  | N + 1, .give p q, k, hd, h => by
    rw [Hd] at h
    obtain ⟨a, h1, h2⟩ := h
    have hd' : max p.deep q.deep + 1 ≤ d := hd
    obtain ⟨s, κ, mv, g1, g2, g3, g4⟩ := hd_tl ih (by omega) h1
    refine ⟨s, κ, mv ++ [.kd a], g1, g2.give, fitsAll_snoc rfl g3, fun rs rs' f => ?_⟩
    rw [moveEnds_snoc', moveEnds_kd] at f
    obtain ⟨r1, r2, rfl, f1, f2⟩ := f.split
    obtain ⟨i2, t2, e2⟩ := ih a q N r2 rs' (by omega) h2 f2
    obtain ⟨i1, t1, e1⟩ := g4 r1 (r2 ++ rs') f1
    refine ⟨i1 ++ i2, ?_, ?_⟩
    · rw [List.append_assoc]
      exact TaP.give t2 t1
    · rw [List.length_append, sizeN]; omega
  | N + 1, .first p, k, hd, h => by
    rw [Hd] at h
    obtain ⟨b, h1⟩ := h
    have hd' : p.deep + 1 ≤ d := hd
    obtain ⟨s, κ, mv, g1, g2, g3, g4⟩ := hd_tl ih (by omega) h1
    refine ⟨s, κ, mv ++ [.one], g1, g2.first, fitsAll_snoc rfl g3, fun rs rs' f => ?_⟩
    rw [moveEnds_snoc', show moveEnds [Mv.one] = [] from rfl, List.append_nil] at f
    obtain ⟨i1, t1, e1⟩ := g4 rs rs' f
    exact ⟨i1, TaP.step (.inl ⟨rfl, rfl⟩) t1, e1⟩
  | N + 1, .second p, k, hd, h => by
    rw [Hd] at h
    obtain ⟨b, h1⟩ := h
    have hd' : p.deep + 1 ≤ d := hd
    obtain ⟨s, κ, mv, g1, g2, g3, g4⟩ := hd_tl ih (by omega) h1
    refine ⟨s, κ, mv ++ [.two], g1, g2.second, fitsAll_snoc rfl g3, fun rs rs' f => ?_⟩
    rw [moveEnds_snoc', show moveEnds [Mv.two] = [] from rfl, List.append_nil] at f
    obtain ⟨i1, t1, e1⟩ := g4 rs rs' f
    exact ⟨i1, TaP.step (.inr ⟨rfl, rfl⟩) t1, e1⟩
  | N + 1, .take _ _ _, k, hd, h => by rw [Hd] at h; exact h.elim; all_goals (intros; rename_i z; cases z)
  | N + 1, .pair _ _, k, hd, h => by rw [Hd] at h; exact h.elim; all_goals (intros; rename_i z; cases z)
  | N + 1, .thing, k, hd, h => by rw [Hd] at h; exact h.elim; all_goals (intros; rename_i z; cases z)
/-- what is told of a plain long program: one item for each name -/
theorem tl_of {z : List Room} {rows : List (List Line)} (B : BookGood z rows) : ∀ (n N : Nat) (l : Ctx) (t : Nat) (k : Kd) (p : Pg) (rs rs' : List Nat), p.deep < n → Lg N l t k p → F2 (Num z (theOf l)) (endsOf k) rs →
    ∃ its, Tl rows n l t k p (rs ++ rs') rs' its ∧ its.length = sizeN p := by
  intro n
  induction n with
  | zero => intro N l t k p rs rs' h; exact absurd h (Nat.not_lt_zero _)
  | succ n ihn =>
    intro N l t k
    induction k generalizing N l t with
    | one =>
      intro p rs rs' hd h f
      cases N with
      | zero => rw [Lg] at h; exact h.elim
      | succ N =>
        rw [Lg] at h
        subst h
        cases rs with
        | nil => exact ⟨[], by rw [Tl]; exact ⟨rfl, rfl, rfl⟩, rfl⟩
        | cons _ _ => exact f.elim
    | both a b _ _ =>
      intro p rs rs' hd h f
      cases N with
      | zero => rw [Lg] at h; exact h.elim
      | succ N =>
        rw [Lg] at h
        obtain ⟨q, r, rfl, h1, h2⟩ := h
        have hd' : max q.deep r.deep + 1 < n + 1 := hd
        obtain ⟨r1, r2, rfl, f1, f2⟩ := F2.split (l := endsOf a) (m := endsOf b) f
        obtain ⟨i2, t2, e2⟩ := ihn N l t b r r2 rs' (by omega) h2 f2
        obtain ⟨i1, t1, e1⟩ := ihn N l t a q r1 (r2 ++ rs') (by omega) h1 f1
        refine ⟨i1 ++ i2, ?_, by rw [List.length_append, sizeN, e1, e2]⟩
        rw [Tl, List.append_assoc]
        exact ⟨q, r, r2 ++ rs', i1, i2, rfl, t1, t2, rfl⟩
    | to a b _ _ =>
      intro p rs rs' hd h f
      cases N with
      | zero => rw [Lg] at h; exact h.elim
      | succ N =>
        rw [Lg] at h
        obtain ⟨q, rfl, h1⟩ := h
        have hd' : q.deep + 1 < n + 1 := hd
        have f' : F2 (Num z (theOf (l ++ [(.x t, a)]))) (endsOf b) rs := by
          refine (F2.of_map f).imp fun e r h => ?_
          obtain ⟨as, m⟩ := e
          show z[r]? = some (roomOf _ _)
          rw [theOf_snoc, ← roomOf_to]
          exact h
        obtain ⟨its, t1, e1⟩ := ihn N _ (t + 1) b q rs rs' (by omega) h1 f'
        exact ⟨its, by rw [Tl]; exact ⟨q, rfl, t1⟩, e1⟩
    | mark m =>
      intro p rs rs' hd h f
      cases N with
      | zero => rw [Lg] at h; exact h.elim
      | succ N =>
        rw [Lg] at h
        obtain ⟨s, κ, mv, g1, g2, g3, g4⟩ := hd_tl (T := Tl rows n l t) (d := n) (fun c q N rs rs' hq hl f => ihn N l t c q rs rs' hq hl f) (by omega) h
        match rs, f with
        | [r], f =>
          obtain ⟨f0, _⟩ := f
          have f1 : z[r]? = some (theOf l, m) := by
            have f0' : z[r]? = some (roomOf (theOf l) ([], m)) := f0
            rw [f0']
            unfold roomOf
            rw [show (([] : List Kd), m).1.map shown = [] from rfl, List.append_nil]
            unfold theOf
            rw [canon_canon]
          obtain ⟨ln, el, ok, all, few⟩ := B r _ _ f1
          obtain ⟨w, w1, w2⟩ := ways_fit g2.ways g3
          have hmem : shown κ ∈ theOf l := mem_canon.mpr (List.mem_map.mpr ⟨_, knownAs_mem g1, rfl⟩)
          obtain ⟨x, hx, x1, x2⟩ := all κ w mv hmem w2
          have hi : ∃ i, ln.findIdx? (fun y => decide (y.1 = shown κ ∧ y.2.1 = w)) = some i := by
            cases q : ln.findIdx? (fun y => decide (y.1 = shown κ ∧ y.2.1 = w)) with
            | some i => exact ⟨i, rfl⟩
            | none =>
              rw [List.findIdx?_eq_none_iff] at q
              have := q _ hx
              exact absurd (⟨x1, x2⟩ : x.1 = shown κ ∧ x.2.1 = w) (of_decide_eq_false this)
          obtain ⟨i, hi⟩ := hi
          obtain ⟨hil, hip, hin⟩ := List.findIdx?_eq_some_iff_getElem.mp hi
          obtain ⟨y1, y2⟩ := of_decide_eq_true hip
          obtain ⟨κ', mv', z1, z2, z3⟩ := ok _ (List.getElem_mem hil)
          have eκ : κ' = κ := shown_inj (z1.symm.trans y1)
          subst eκ
          rw [y2, w2] at z2
          cases z2
          obtain ⟨rest, ta, er⟩ := g4 ln[i].2.2 [] z3
          have hw : ∃ wh, (someOf l κ').findIdx? (fun y => decide (y = (pathOf p).2)) = some wh := by
            cases q : (someOf l κ').findIdx? (fun y => decide (y = (pathOf p).2)) with
            | some i => exact ⟨i, rfl⟩
            | none =>
              rw [List.findIdx?_eq_none_iff] at q
              have := q (pathOf p).2 (List.mem_map.mpr ⟨_, List.mem_filter.mpr ⟨knownAs_mem g1, decide_eq_true rfl⟩, rfl⟩)
              exact absurd rfl (of_decide_eq_false this)
          obtain ⟨wh, hw⟩ := hw
          refine ⟨(r, i, wh) :: rest, ?_, by rw [List.length_cons]; exact er⟩
          rw [Tl]
          refine ⟨r, rfl, κ', w, mv, m, ln, i, ln[i].2.2, wh, rest, s, g1, w1, w2, el, ?_, few, fun x hx => ?_, fun j x hj hx => ?_, hw, rfl, ⟨[], ?_⟩⟩
          · rw [List.getElem?_eq_getElem hil, ← y1, ← y2]
          · obtain ⟨κ, _, e, _⟩ := ok x hx
            exact ⟨κ, e⟩
          · have := hin j hj
            rw [List.getElem?_eq_getElem (by omega)] at hx
            cases hx
            exact fun q => by rw [decide_eq_true q] at this; exact absurd rfl this
          · rw [List.append_nil] at ta
            exact ta
end KF

set_option Elab.async false
set_option linter.all false
set_option maxRecDepth 100000
set_option maxHeartbeats 4000000
/-! Plain maths: the book ends and is good. -/
namespace KF
open PySem PySem.Spec L2 TL
/-- kinds that stand left of a `to` -/
def argsOf : Kd → List Kd
  | .one => []
  | .mark _ => []
  | .to a b => a :: (argsOf a ++ argsOf b)
  | .both a b => argsOf a ++ argsOf b
theorem argsOf_len (k : Kd) : (argsOf k).length + 1 ≤ k.leaves := by
  induction k with
  | one => exact Nat.le_refl _
  | mark m => exact Nat.le_refl _
  | to a b h h' => show (argsOf a ++ argsOf b).length + 1 + 1 ≤ a.leaves + b.leaves; rw [List.length_append]; omega
  | both a b h h' => show (argsOf a ++ argsOf b).length + 1 ≤ a.leaves + b.leaves; rw [List.length_append]; omega
theorem argsOf_small {c k : Kd} (h : c ∈ argsOf k) : c.depth ≤ k.depth ∧ c.leaves ≤ k.leaves := by
  induction k with
  | one => cases h
  | mark m => cases h
  | to a b ha hb =>
    show c.depth ≤ 1 + max a.depth b.depth ∧ c.leaves ≤ a.leaves + b.leaves
    rcases List.mem_cons.mp h with rfl | h
    · omega
    · rcases List.mem_append.mp h with h | h
      · have := ha h; omega
      · have := hb h; omega
  | both a b ha hb =>
    show c.depth ≤ 1 + max a.depth b.depth ∧ c.leaves ≤ a.leaves + b.leaves
    rcases List.mem_append.mp h with h | h
    · have := ha h; omega
    · have := hb h; omega
theorem argsOf_trans {b c k : Kd} (h : c ∈ argsOf k) (h' : b ∈ argsOf c) : b ∈ argsOf k := by
  induction k with
  | one => cases h
  | mark m => cases h
  | to x y hx hy =>
    rcases List.mem_cons.mp h with rfl | h
    · exact List.mem_cons_of_mem _ (List.mem_append_left _ h')
    · rcases List.mem_append.mp h with h | h
      · exact List.mem_cons_of_mem _ (List.mem_append_left _ (hx h))
      · exact List.mem_cons_of_mem _ (List.mem_append_right _ (hy h))
  | both x y hx hy =>
    rcases List.mem_append.mp h with h | h
    · exact List.mem_append_left _ (hx h)
    · exact List.mem_append_right _ (hy h)
theorem ends_args {k c : Kd} {e : List Kd × Bool} (he : e ∈ endsOf k) (hc : c ∈ e.1) : c ∈ argsOf k := by
  induction k generalizing e with
  | one => cases he
  | mark m => cases List.mem_singleton.mp he; cases hc
  | to a b ha hb =>
    obtain ⟨e', he', rfl⟩ := List.mem_map.mp he
    rcases List.mem_cons.mp hc with rfl | hc
    · exact List.mem_cons_self
    · exact List.mem_cons_of_mem _ (List.mem_append_right _ (hb he' hc))
  | both a b ha hb =>
    rcases List.mem_append.mp he with he | he
    · exact List.mem_append_left _ (ha he hc)
    · exact List.mem_append_right _ (hb he hc)
theorem ways_args {k c : Kd} {e : List Mv × Bool} (he : e ∈ waysOf k) (hc : Mv.kd c ∈ e.1) : c ∈ argsOf k := by
  induction k generalizing e with
  | one => cases he
  | mark m => cases List.mem_singleton.mp he; cases hc
  | to a b ha hb =>
    obtain ⟨e', he', rfl⟩ := List.mem_map.mp he
    rcases List.mem_cons.mp hc with z | hc
    · cases z; exact List.mem_cons_self
    · exact List.mem_cons_of_mem _ (List.mem_append_right _ (hb he' hc))
  | both a b ha hb =>
    rcases List.mem_append.mp he with he | he
    · obtain ⟨e', he', rfl⟩ := List.mem_map.mp he
      rcases List.mem_cons.mp hc with z | hc
      · cases z
      · exact List.mem_append_left _ (ha he' hc)
    · obtain ⟨e', he', rfl⟩ := List.mem_map.mp he
      rcases List.mem_cons.mp hc with z | hc
      · cases z
      · exact List.mem_append_right _ (hb he' hc)
theorem move_args {k c : Kd} {w : List Mv × Bool} {e : List Kd × Bool} (hw : w ∈ waysOf k) (he : e ∈ moveEnds w.1) (hc : c ∈ e.1) : c ∈ argsOf k := by
  obtain ⟨m, hm, he⟩ := List.mem_flatMap.mp he
  cases m with
  | kd d => exact argsOf_trans (ways_args hw hm) (ends_args he hc)
  | one => cases he
  | two => cases he
/-- all argument kinds of a row and a kind -/
def argsAll (l : Ctx) (k : Kd) : List Kd := argsOf k ++ l.flatMap fun q => argsOf q.2
def sumLeaves : Ctx → Nat
  | [] => 0
  | q :: l => q.2.leaves + sumLeaves l
theorem argsAll_len (l : Ctx) (k : Kd) : (argsAll l k).length ≤ sumLeaves l + k.leaves := by
  unfold argsAll
  have h1 := argsOf_len k
  have h2 : (l.flatMap fun q => argsOf q.2).length ≤ sumLeaves l := by
    induction l with
    | nil => exact Nat.le_refl _
    | cons q l ih =>
      have := argsOf_len q.2
      rw [List.flatMap_cons, List.length_append, sumLeaves]
      omega
  rw [List.length_append]
  omega
/-- rooms that can come up -/
def Un (l : Ctx) (k : Kd) (x : Room) : Prop := ∃ ks : List Kd, (∀ c ∈ ks, c ∈ argsAll l k) ∧ x.1 = canon (theOf l ++ ks.map shown)
section
variable {l : Ctx} {k : Kd}
theorem Un.kind {x : Room} (h : Un l k x) {t : Str} (ht : t ∈ x.1) : ∃ κ, t = shown κ ∧ ((∃ q ∈ l, q.2 = κ) ∨ κ ∈ argsAll l k) := by
  obtain ⟨ks, h1, h2⟩ := h
  rw [h2, mem_canon, List.mem_append] at ht
  rcases ht with ht | ht
  · obtain ⟨q, hq, rfl⟩ := List.mem_map.mp (mem_canon.mp ht)
    exact ⟨q.2, rfl, .inl ⟨q, hq, rfl⟩⟩
  · obtain ⟨c, hc, rfl⟩ := List.mem_map.mp ht
    exact ⟨c, rfl, .inr (h1 c hc)⟩
theorem args_all {κ c : Kd} (h : (∃ q ∈ l, q.2 = κ) ∨ κ ∈ argsAll l k) (hc : c ∈ argsOf κ) : c ∈ argsAll l k := by
  rcases h with ⟨q, hq, rfl⟩ | h
  · exact List.mem_append_right _ (List.mem_flatMap.mpr ⟨q, hq, hc⟩)
  · rcases List.mem_append.mp h with h | h
    · exact List.mem_append_left _ (argsOf_trans h hc)
    · obtain ⟨q, hq, h⟩ := List.mem_flatMap.mp h
      exact List.mem_append_right _ (List.mem_flatMap.mpr ⟨q, hq, argsOf_trans h hc⟩)
theorem Un.next {x : Room} (h : Un l k x) {e : List Kd × Bool} (he : ∀ c ∈ e.1, c ∈ argsAll l k) : Un l k (roomOf x.1 e) := by
  obtain ⟨ks, h1, h2⟩ := h
  refine ⟨ks ++ e.1, fun c hc => ?_, ?_⟩
  · rcases List.mem_append.mp hc with hc | hc
    · exact h1 c hc
    · exact he c hc
  · show canon (x.1 ++ e.1.map shown) = _
    rw [h2, canon_app, List.append_assoc, List.map_append]
theorem Un.start {e : List Kd × Bool} (he : e ∈ endsOf k) : Un l k (roomOf (theOf l) e) :=
  ⟨e.1, fun c hc => List.mem_append_left _ (ends_args he hc), rfl⟩
end
theorem nodup_le {α : Type} [DecidableEq α] : ∀ {xs ys : List α}, xs.Nodup → (∀ x ∈ xs, x ∈ ys) → xs.length ≤ ys.length
  | [], _, _, _ => Nat.zero_le _
  | x :: xs, ys, nd, h => by
    obtain ⟨n1, n2⟩ := List.nodup_cons.mp nd
    have hx := h x List.mem_cons_self
    have := nodup_le (xs := xs) (ys := ys.erase x) n2 fun y hy => (List.mem_erase_of_ne (by rintro rfl; exact n1 hy)).mpr (h y (List.mem_cons_of_mem _ hy))
    rw [List.length_erase_of_mem hx] at this
    have : 0 < ys.length := List.length_pos_of_mem hx
    show xs.length + 1 ≤ _
    omega
def allB : Nat → List (List Bool)
  | 0 => [[]]
  | n + 1 => (allB n).map (true :: ·) ++ (allB n).map (false :: ·)
theorem allB_len (n : Nat) : (allB n).length = 2 ^ n := by
  induction n with
  | zero => rfl
  | succ n ih => rw [allB, List.length_append, List.length_map, List.length_map, ih, Nat.pow_succ]; omega
theorem mem_allB : ∀ (b : List Bool), b ∈ allB b.length
  | [] => List.mem_singleton.mpr rfl
  | true :: b => List.mem_append_left _ (List.mem_map.mpr ⟨b, mem_allB b, rfl⟩)
  | false :: b => List.mem_append_right _ (List.mem_map.mpr ⟨b, mem_allB b, rfl⟩)
/-- which argument texts stand in a room -/
def bitsOf (U : List Kd) (x : Room) : List Bool := x.2 :: U.map fun c => decide (shown c ∈ x.1)
theorem bits_inj {l : Ctx} {k : Kd} {x y : Room} (hx : Un l k x) (hy : Un l k y) (h : bitsOf (argsAll l k) x = bitsOf (argsAll l k) y) : x = y := by
  obtain ⟨h1, h2⟩ := List.cons.inj h
  have e : ∀ c ∈ argsAll l k, (shown c ∈ x.1 ↔ shown c ∈ y.1) := fun c hc => by
    have := List.map_inj_left.mp h2 c hc
    exact decide_eq_decide.mp this
  have sub : ∀ {x y : Room}, Un l k x → Un l k y → (∀ c ∈ argsAll l k, shown c ∈ x.1 → shown c ∈ y.1) → ∀ t ∈ x.1, t ∈ y.1 := fun {x y} hx hy e t ht => by
    obtain ⟨ks, a1, a2⟩ := hx
    obtain ⟨ks', b1, b2⟩ := hy
    have ht' := ht
    rw [a2, mem_canon, List.mem_append] at ht'
    rcases ht' with z | z
    · rw [b2, mem_canon]; exact List.mem_append_left _ z
    · obtain ⟨c, hc, rfl⟩ := List.mem_map.mp z
      exact e c (a1 c hc) ht
  have e1 : x.1 = y.1 := by
    have sx : x.1.Pairwise ltS := by obtain ⟨ks, _, a2⟩ := hx; rw [a2]; exact canon_strict _
    have sy : y.1.Pairwise ltS := by obtain ⟨ks, _, a2⟩ := hy; rw [a2]; exact canon_strict _
    exact strict_one sx sy fun t => ⟨sub hx hy (fun c hc => (e c hc).mp) t, sub hy hx (fun c hc => (e c hc).mpr) t⟩
  obtain ⟨x1, x2⟩ := x
  obtain ⟨y1, y2⟩ := y
  cases e1
  cases h1
  rfl
theorem nodup_map {α β : Type} {f : α → β} : ∀ {l : List α}, l.Nodup → (∀ x ∈ l, ∀ y ∈ l, f x = f y → x = y) → (l.map f).Nodup
  | [], _, _ => List.nodup_nil
  | x :: l, nd, h => by
    obtain ⟨n1, n2⟩ := List.nodup_cons.mp nd
    refine List.nodup_cons.mpr ⟨fun z => ?_, nodup_map n2 fun y hy z hz => h y (List.mem_cons_of_mem _ hy) z (List.mem_cons_of_mem _ hz)⟩
    obtain ⟨y, hy, e⟩ := List.mem_map.mp z
    exact n1 (h x List.mem_cons_self y (List.mem_cons_of_mem _ hy) e.symm ▸ hy)
theorem un_len {l : Ctx} {k : Kd} {rooms : List Room} (nd : rooms.Nodup) (h : ∀ x ∈ rooms, Un l k x) : rooms.length ≤ 2 ^ ((argsAll l k).length + 1) := by
  have := nodup_le (ys := allB ((argsAll l k).length + 1)) (nodup_map (f := bitsOf (argsAll l k)) nd fun x hx y hy e => bits_inj (h x hx) (h y hy) e) fun b hb => by
    obtain ⟨x, hx, rfl⟩ := List.mem_map.mp hb
    have := mem_allB (bitsOf (argsAll l k) x)
    rwa [show (bitsOf (argsAll l k) x).length = (argsAll l k).length + 1 by simp [bitsOf]] at this
  rwa [List.length_map, allB_len] at this
end KF

set_option Elab.async false
set_option linter.all false
set_option maxRecDepth 100000
set_option maxHeartbeats 4000000
namespace KF
open PySem PySem.Spec L2 TL
theorem pre_get {α : Type} {a b : List α} (h : a <+: b) {i : Nat} {x : α} (e : a[i]? = some x) : b[i]? = some x := by
  obtain ⟨c, rfl⟩ := h
  rw [List.getElem?_append_left (List.getElem?_eq_some_iff.mp e).1]
  exact e
theorem Num.pre {z z' : List Room} (h : z <+: z') {th : List Str} {e : List Kd × Bool} {r : Nat} (n : Num z th e r) : Num z' th e r := pre_get h n
section
variable {l : Ctx} {k : Kd}
/-- rooms that stand once each, and can come up -/
structure Rms (l : Ctx) (k : Kd) (rooms : List Room) : Prop where
  nd : rooms.Nodup
  un : ∀ x ∈ rooms, Un l k x
theorem numF_ok {rooms : List Room} {th : List Str} {e : List Kd × Bool} (h : Rms l k rooms) (u : Un l k (roomOf th e)) : Rms l k (numF rooms th e).2 ∧ Num (numF rooms th e).2 th e (numF rooms th e).1 := by
  unfold numF
  split
  · rename_i m
    refine ⟨h, ?_⟩
    show rooms[rooms.idxOf (roomOf th e)]? = _
    have hl := List.idxOf_lt_length_iff.mpr m
    rw [List.getElem?_eq_getElem hl, List.getElem_idxOf hl]
  · rename_i m
    refine ⟨⟨?_, ?_⟩, ?_⟩
    · rw [List.nodup_append]
      refine ⟨h.nd, (List.nodup_cons.mpr ⟨List.not_mem_nil, List.nodup_nil⟩), fun a ha b hb => ?_⟩
      rw [List.mem_singleton.mp hb]
      rintro rfl
      exact m ha
    · intro x hx
      rcases List.mem_append.mp hx with hx | hx
      · exact h.un x hx
      · rw [List.mem_singleton.mp hx]; exact u
    · show (rooms ++ [roomOf th e])[rooms.length]? = _
      rw [List.getElem?_append_right (Nat.le_refl _), Nat.sub_self]; rfl
theorem F2.snoc {α : Type} {R : α → Nat → Prop} {l : List α} {vs : List Nat} {x : α} {v : Nat} (h : F2 R l vs) (r : R x v) : F2 R (l ++ [x]) (vs ++ [v]) := h.append ⟨r, trivial⟩
theorem numsF_ok {th : List Str} : ∀ (es : List (List Kd × Bool)) {rooms : List Room}, Rms l k rooms → (∀ e ∈ es, Un l k (roomOf th e)) → Rms l k (numsF th es rooms).2 ∧ F2 (Num (numsF th es rooms).2 th) es (numsF th es rooms).1 := by
  intro es rooms h
  refine snoc_cases (M := fun es => (∀ e ∈ es, Un l k (roomOf th e)) → Rms l k (numsF th es rooms).2 ∧ F2 (Num (numsF th es rooms).2 th) es (numsF th es rooms).1) (fun _ => ⟨h, trivial⟩) (fun es e ih u => ?_) es
  obtain ⟨h1, h2⟩ := ih fun x hx => u x (List.mem_append_left _ hx)
  have e1 : numsF th (es ++ [e]) rooms = numStep th (numsF th es rooms) e := by unfold numsF; rw [List.foldl_append]; rfl
  rw [e1]
  obtain ⟨h3, h4⟩ := numF_ok h1 (u e (by simp))
  exact ⟨h3, (h2.imp fun _ _ q => q.pre (numF_pre _ _ _)).snoc h4⟩
/-- a line that is right -/
def LnOK (z : List Room) (th : List Str) (m : Bool) (x : Line) : Prop := ∃ κ mv, x.1 = shown κ ∧ (waysOf κ)[x.2.1]? = some (mv, m) ∧ F2 (Num z th) (moveEnds mv) x.2.2
theorem LnOK.pre {z z' : List Room} (h : z <+: z') {th : List Str} {m : Bool} {x : Line} : LnOK z th m x → LnOK z' th m x := fun ⟨κ, mv, a, b, c⟩ => ⟨κ, mv, a, b, c.imp fun _ _ q => q.pre h⟩
theorem wayStep_rpre (th : List Str) (m : Bool) (t : Str) (s : List Line × List Room) (p : (List Mv × Bool) × Nat) : s.2 <+: (wayStep th m t s p).2 := by
  unfold wayStep
  split
  · exact numsF_pre _ _ _
  · exact List.prefix_refl _
theorem wayStep_lpre (th : List Str) (m : Bool) (t : Str) (s : List Line × List Room) (p : (List Mv × Bool) × Nat) : s.1 <+: (wayStep th m t s p).1 := by
  unfold wayStep
  split
  · exact List.prefix_append _ _
  · exact List.prefix_refl _
theorem textStep_lpre (th : List Str) (m : Bool) (s : List Line × List Room) (t : Str) : s.1 <+: (textStep th m s t).1 :=
  foldl_pre (μ := fun s : List Line × List Room => s.1) (fun s p => wayStep_lpre th m t s p) _ s
theorem wayStep_len (th : List Str) (m : Bool) (t : Str) (s : List Line × List Room) (p : (List Mv × Bool) × Nat) : (wayStep th m t s p).1.length ≤ s.1.length + 1 := by
  unfold wayStep
  split
  · rw [List.length_append]; exact Nat.le_refl _
  · omega
structure StOK (l : Ctx) (k : Kd) (th : List Str) (m : Bool) (s : List Line × List Room) : Prop where
  rm : Rms l k s.2
  ok : ∀ x ∈ s.1, LnOK s.2 th m x
theorem wayStep_ok {th : List Str} {m m0 : Bool} {κ : Kd} (hx : Un l k (th, m0)) (ht : shown κ ∈ th) {s : List Line × List Room} {p : (List Mv × Bool) × Nat} (hp : (waysOf κ)[p.2]? = some p.1) (h : StOK l k th m s) : StOK l k th m (wayStep th m (shown κ) s p) := by
  obtain ⟨κ', e, hk⟩ := hx.kind ht
  cases shown_inj e
  unfold wayStep
  split
  · rename_i hm
    obtain ⟨h1, h2⟩ := numsF_ok (th := th) (moveEnds p.1.1) h.rm fun e he => hx.next fun c hc => args_all hk (move_args (List.mem_of_getElem? hp) he hc)
    refine ⟨h1, fun x hx => ?_⟩
    rcases List.mem_append.mp hx with hx | hx
    · exact (h.ok x hx).pre (numsF_pre _ _ _)
    · rw [List.mem_singleton.mp hx]
      exact ⟨κ, p.1.1, rfl, by rw [hp, ← hm], h2⟩
  · exact h
theorem foldl_ind {α β : Type} {f : β → α → β} {I : β → Prop} : ∀ (l : List α) (s : β), (∀ s x, x ∈ l → I s → I (f s x)) → I s → I (l.foldl f s)
  | [], s, _, h => h
  | x :: l, s, st, h => foldl_ind l (f s x) (fun s y hy => st s y (List.mem_cons_of_mem _ hy)) (st s x List.mem_cons_self h)
theorem zip_mem {α : Type} {l : List α} {p : α × Nat} (h : p ∈ l.zipIdx) : l[p.2]? = some p.1 := by
  obtain ⟨a, i⟩ := p
  have := List.mem_zipIdx' h
  rw [List.getElem?_eq_getElem this.1, ← this.2]
theorem textStep_ok {th : List Str} {m m0 : Bool} (hx : Un l k (th, m0)) {t : Str} (ht : t ∈ th) {s : List Line × List Room} (h : StOK l k th m s) : StOK l k th m (textStep th m s t) := by
  obtain ⟨κ, rfl, hk⟩ := hx.kind ht
  unfold textStep
  rw [kdOf_shown]
  exact foldl_ind _ s (fun s p hp hs => wayStep_ok hx ht (zip_mem hp) hs) h
theorem rowsF_ok {th : List Str} {m : Bool} (hx : Un l k (th, m)) {rooms : List Room} (h : Rms l k rooms) : StOK l k th m (rowsF (th, m) rooms) := by
  unfold rowsF
  exact foldl_ind (I := StOK l k th m) _ _ (fun s t ht hs => textStep_ok hx ht hs) ⟨h, fun x hx => by cases hx⟩
theorem ways_all {th : List Str} {m : Bool} {t : Str} : ∀ (L : List ((List Mv × Bool) × Nat)) (s : List Line × List Room) (p : (List Mv × Bool) × Nat), p ∈ L → p.1.2 = m → ∃ x ∈ (L.foldl (wayStep th m t) s).1, x.1 = t ∧ x.2.1 = p.2
  | [], _, _, h, _ => by cases h
  | q :: L, s, p, h, hm => by
    rcases List.mem_cons.mp h with rfl | h
    · have pre := foldl_pre (μ := fun s : List Line × List Room => s.1) (fun s p => wayStep_lpre th m t s p) L (wayStep th m t s p)
      have : (t, p.2, (numsF th (moveEnds p.1.1) s.2).1) ∈ (wayStep th m t s p).1 := by
        unfold wayStep
        rw [if_pos hm]
        simp
      exact ⟨_, pre.subset this, rfl, rfl⟩
    · exact ways_all L (wayStep th m t s q) p h hm
theorem texts_all {th : List Str} {m : Bool} : ∀ (L : List Str) (s : List Line × List Room) (κ : Kd) (w : Nat) (mv : List Mv), shown κ ∈ L → (waysOf κ)[w]? = some (mv, m) → ∃ x ∈ (L.foldl (textStep th m) s).1, x.1 = shown κ ∧ x.2.1 = w
  | [], _, _, _, _, h, _ => by cases h
  | t :: L, s, κ, w, mv, h, hw => by
    rcases List.mem_cons.mp h with rfl | h
    · have pre := foldl_pre (μ := fun s : List Line × List Room => s.1) (fun s t => textStep_lpre th m s t) L (textStep th m s (shown κ))
      have : ∃ x ∈ (textStep th m s (shown κ)).1, x.1 = shown κ ∧ x.2.1 = w := by
        unfold textStep
        rw [kdOf_shown]
        exact ways_all _ s ((mv, m), w) (List.mem_of_getElem? (zip_get _ _ _ hw)) rfl
      obtain ⟨x, hx, e⟩ := this
      exact ⟨x, pre.subset hx, e⟩
    · exact texts_all L (textStep th m s t) κ w mv h hw
theorem foldl_grow {α β : Type} {f : β → α → β} {μ : β → Nat} {c : Nat} : ∀ (l : List α) (s : β), (∀ s x, x ∈ l → μ (f s x) ≤ μ s + c) → μ (l.foldl f s) ≤ μ s + c * l.length
  | [], s, _ => by simp
  | x :: l, s, h => by
    have h1 := foldl_grow (μ := μ) (c := c) l (f s x) fun s y hy => h s y (List.mem_cons_of_mem _ hy)
    have h2 := h s x List.mem_cons_self
    rw [List.length_cons, Nat.mul_add]
    show μ (l.foldl f (f s x)) ≤ _
    omega
end
end KF

set_option Elab.async false
set_option linter.all false
set_option maxRecDepth 100000
set_option maxHeartbeats 4000000
namespace KF
open PySem PySem.Spec L2 TL
theorem RowOK.pre {z z' : List Room} (h : z <+: z') {th : List Str} {m : Bool} {ln : List Line} (r : RowOK z th m ln) : RowOK z' th m ln :=
  ⟨fun x hx => LnOK.pre (m := m) h (r.ok x hx), r.all, r.few⟩
theorem rowsF_row {l : Ctx} {k : Kd} {th : List Str} {m : Bool} (hx : Un l k (th, m)) {rooms : List Room} (h : Rms l k rooms) (hl : th.length ≤ 45) (hg : GoodT th) : RowOK (rowsF (th, m) rooms).2 th m (rowsF (th, m) rooms).1 := by
  refine ⟨(rowsF_ok hx h).ok, fun κ w mv hk hw => texts_all th _ κ w mv hk hw, ?_⟩
  have : (rowsF (th, m) rooms).1.length ≤ ([] : List Line).length + 24 * th.length := by
    unfold rowsF
    refine foldl_grow (μ := fun s : List Line × List Room => s.1.length) (c := 24) th ([], rooms) fun s t ht => ?_
    obtain ⟨κ, rfl, _, h3⟩ := hg t ht
    have h1 := foldl_grow (f := wayStep th m (shown κ)) (μ := fun s : List Line × List Room => s.1.length) (c := 1) (waysOf κ).zipIdx s fun s p _ => wayStep_len _ _ _ _ _
    have h2 := waysOf_le κ
    show (textStep th m s (shown κ)).1.length ≤ s.1.length + 24
    unfold textStep
    rw [kdOf_shown]
    rw [List.length_zipIdx] at h1
    omega
  rw [List.length_nil] at this
  omega
theorem fill_go {l : Ctx} {k : Kd} (hs : ∀ x, Un l k x → x.1.length ≤ 45 ∧ GoodT x.1) : ∀ (d : Nat) (rooms : List Room) (rows : List (List Line)), Rms l k rooms → rows.length ≤ rooms.length → 2 ^ ((argsAll l k).length + 1) + 1 ≤ rows.length + d →
    (∀ (r : Nat) (th : List Str) (m : Bool), r < rows.length → rooms[r]? = some (th, m) → ∃ ln, rows[r]? = some ln ∧ RowOK rooms th m ln) → ∃ z rows', fillF d rooms rows = some (z, rows') ∧ Rms l k z ∧ BookGood z rows'
  | 0, rooms, rows, h, hl, hd, _ => by
    have := un_len h.nd h.un
    omega
  | d + 1, rooms, rows, h, hl, hd, hr => by
    rw [fillF]
    cases e : rooms[rows.length]? with
    | none =>
      refine ⟨rooms, rows, rfl, h, fun r th m hz => hr r th m ?_ hz⟩
      have h1 := List.getElem?_eq_none_iff.mp e
      have h2 := (List.getElem?_eq_some_iff.mp hz).1
      omega
    | some x =>
      obtain ⟨th, m⟩ := x
      have hx := h.un _ (List.mem_of_getElem? e)
      have hlt := (List.getElem?_eq_some_iff.mp e).1
      obtain ⟨b1, b2⟩ := hs _ hx
      have row := rowsF_row hx h b1 b2
      have pre := rowsF_pre (th, m) rooms
      refine fill_go hs d (rowsF (th, m) rooms).2 (rows ++ [(rowsF (th, m) rooms).1]) (rowsF_ok hx h).rm ?_ ?_ fun r th' m' hlr hz => ?_
      · have := pre.length_le
        rw [List.length_append, List.length_singleton]
        omega
      · rw [List.length_append, List.length_singleton]; omega
      · rw [List.length_append, List.length_singleton] at hlr
        by_cases c : r < rows.length
        · have hz' : rooms[r]? = some (th', m') := by
            rw [← hz]
            obtain ⟨t, ht⟩ := pre
            rw [← ht, List.getElem?_append_left (by omega)]
          obtain ⟨ln, h1, h2⟩ := hr r th' m' c hz'
          exact ⟨ln, by rw [List.getElem?_append_left c]; exact h1, h2.pre pre⟩
        · have er : r = rows.length := by omega
          subst er
          have := pre_get pre e
          rw [hz] at this
          cases this
          exact ⟨_, by rw [List.getElem?_append_right (Nat.le_refl _), Nat.sub_self]; rfl, row⟩
/-- a row and a kind that are small -/
structure Small (l : Ctx) (k : Kd) : Prop where
  sum : sumLeaves l + k.leaves ≤ 13
  len : l.length ≤ 8
theorem leaves_le {l : Ctx} {q : Nm × Kd} (h : q ∈ l) : q.2.leaves ≤ sumLeaves l := by
  induction l with
  | nil => cases h
  | cons x l ih =>
    rw [sumLeaves]
    rcases List.mem_cons.mp h with rfl | h
    · omega
    · have := ih h; omega
theorem Small.un {l : Ctx} {k : Kd} (s : Small l k) {x : Room} (h : Un l k x) : x.1.length ≤ 45 ∧ GoodT x.1 := by
  obtain ⟨s1, s2⟩ := s
  constructor
  · have h' := h
    obtain ⟨ks, _, e⟩ := h'
    have st : x.1.Pairwise ltS := by rw [e]; exact canon_strict _
    have nd : x.1.Nodup := st.imp fun {a b} h => by rintro rfl; exact ltS_irr h
    have := nodup_le (ys := (l.map (·.2) ++ argsAll l k).map shown) nd fun t ht => by
      obtain ⟨κ, rfl, hk⟩ := h.kind ht
      refine List.mem_map.mpr ⟨κ, ?_, rfl⟩
      rcases hk with ⟨q, hq, rfl⟩ | hk
      · exact List.mem_append_left _ (List.mem_map.mpr ⟨q, hq, rfl⟩)
      · exact List.mem_append_right _ hk
    rw [List.length_map, List.length_append, List.length_map] at this
    have := argsAll_len l k
    omega
  · intro t ht
    obtain ⟨κ, rfl, hk⟩ := h.kind ht
    have hle : κ.leaves ≤ 13 := by
      have kp := Kd.depth_lt k
      rcases hk with ⟨q, hq, rfl⟩ | hk
      · have := leaves_le hq; omega
      · rcases List.mem_append.mp hk with hk | hk
        · have h1 := (argsOf_small hk).2
          omega
        · obtain ⟨q, hq, hk⟩ := List.mem_flatMap.mp hk
          have := leaves_le hq
          have := (argsOf_small hk).2
          omega
    have := Kd.depth_lt κ
    exact ⟨κ, rfl, by omega, by omega⟩
/-- a small row and a kind have a good book, and every plain long program of them is told there -/
theorem book_ok {l : Ctx} {k : Kd} (s : Small l k) : ∃ starts rows, BookOk l k starts rows ∧ ∀ N p, p.deep ≤ 100 → Lg N l 0 k p → ∃ its, Tl rows 101 l 0 k p starts [] its ∧ its.length = sizeN p := by
  have hU : (argsAll l k).length ≤ 13 := Nat.le_trans (argsAll_len l k) s.sum
  have hB : 2 ^ ((argsAll l k).length + 1) ≤ 2 ^ 14 := Nat.pow_le_pow_right (by omega) (by omega)
  obtain ⟨n1, n2⟩ := numsF_ok (l := l) (k := k) (th := theOf l) (endsOf k) (rooms := []) ⟨List.nodup_nil, fun x hx => by cases hx⟩ fun e he => Un.start he
  obtain ⟨z, rows, hf, hz, good⟩ := fill_go (fun x hx => s.un hx) (2 ^ ((argsAll l k).length + 1) + 1) _ [] n1 (Nat.zero_le _) (by simp) fun r th m hr => absurd hr (Nat.not_lt_zero _)
  have zl := un_len hz.nd hz.un
  have s1 := s.sum
  have s2 := s.len
  have two : (2 : Nat) ^ 14 = 16384 := by decide
  refine ⟨(numsF (theOf l) (endsOf k) []).1, rows, ⟨⟨z, ⟨rfl, _, hf⟩, fun x hx => ⟨(s.un (hz.un x hx)).2, (s.un (hz.un x hx)).1⟩, by omega⟩, by omega, fun q hq => ?_, ?_, by omega⟩, fun N p hd hl => ?_⟩
  · have := leaves_le hq
    have := Kd.depth_lt q.2
    omega
  · have := Kd.depth_lt k
    omega
  · have := tl_of good 101 N l 0 k p _ [] (by omega) hl (n2.imp fun _ _ q => q.pre (fillF_pre hf))
    rw [List.append_nil] at this
    exact this
end KF

set_option Elab.async false
set_option linter.all false
set_option maxRecDepth 100000
set_option maxHeartbeats 4000000
/-! The law's own helpers: the pool. -/
namespace KF
open PySem PySem.Spec L2 TL
/-- a pool at a -/
def PoAt (H : Hp) (a : Addr) : Prop := ∃ z y : Int, H a = some (.lst [.int z, .int y]) ∧ 0 ≤ y ∧ y < 2147483647
theorem PoAt.same {H H' : Hp} {a : Addr} (h : Same H H') : PoAt H a → PoAt H' a := fun ⟨z, y, e, b⟩ => ⟨z, y, h _ _ e, b⟩
theorem PoAt.ts {K : PySem.W.Frag} {H H' : Hp} {a : Addr} (h : PoAt H a) (b : But a H H') : TS K H H' := by
  obtain ⟨z, y, e, _⟩ := h
  exact But.ts b e rfl
section
variable {P : Program} {w : World} {K : PySem.W.Frag} {mg : Str → Option Value} {base : Heap}
def spPool (K : PySem.W.Frag) : Sp := fun vs H Q _ => ∃ (a : Addr) (ns : List Int) (k : Nat), vs = [.ref a, .int k] ∧ SqL K H a (ns.map V.int) ∧ k ≤ 100 ∧ ∀ p H', Same H H' → H p = none → PoAt H' p → Q (.ref p) H'
theorem ok_pool (T : Tx w K mg) : Df P w K mg base CX0 1 "_law_pool" ["_law_script", "_law_k"] [] (spPool K) := by
  refine df0 T.d_law_pool T.g_law_pool sc_law_pool (fun _ _ _ _ _ _ us hl => match us, hl with | [_, _], _ => rfl) (fun vs H Q E h => ?_) (fun cdv A outer sh H vs Q E hr h => ?_)
  · obtain ⟨a, ns, k, rfl, _⟩ := h
    rfl
  obtain ⟨a, ns, k, rfl, ha, hk, q⟩ := h
  have zl : (ns.map V.int).length = ns.length := List.length_map _
  refine ⟨_, (pss_cons (ps_set (i := 2) sc_law_pool.nd rfl (.inl rfl) pe_int) (pss_cut ( fun σ' H' => H' = H ∧ ∃ c : Int, σ' = [some (.ref a), some (.int k), some (.int c), none] ) (ps_if (pt_cmpR op_lt (pv 1) (pe_callB call_len_seq rfl T.n_len PySem.boot_len (pa_cons (pv 0) pa_nil)) (nomark _)) (pss_one (ps_set (i := 2) sc_law_pool.nd rfl (.inl rfl) (pe_ix ix_list (pv 0) (pv 1) (fun _ _ => rfl)))) pss_nil) (pss_cons (ps_set (i := 3) sc_law_pool.nd rfl (.inl rfl) (pe_op op_mod (pe_op op_pow (pe_op op_add (pe_op op_add (pe_op op_mod (pv 2) pe_int) (pe_op op_mul (pe_op op_mul pe_int (pv 1)) (pv 1))) pe_int) pe_int) pe_int)) (pss_cut ( fun σ' H' => H' = H ∧ ∃ c y : Int, σ' = [some (.ref a), some (.int k), some (.int c), some (.int y)] ∧ 0 ≤ y ∧ y < 2147483647 ) (ps_if (pt_cmpR op_lt (pv 2) (pe_op op_pow pe_int pe_int) (nomark _)) (pss_one (ps_set (i := 2) sc_law_pool.nd rfl (.inl rfl) pe_int)) pss_nil) (pss_one (ps_ret (pe_lst (pa_cons (pv 2) (pa_cons (pv 3) pa_nil))))))))), ?_⟩
  refine ⟨fun N hN => ?_, ?_⟩
  · refine ⟨_, rfl, _, rfl, a, _, rfl, .inl ha, _, _, rfl, rfl, _, rfl, if2 (fun e => ?_) fun _ => hN _ _ ⟨rfl, 0, rfl⟩⟩
    have e' := of_decide_eq_true e
    have hi : k < ns.length := by rw [zl] at e'; omega
    exact ⟨_, rfl, _, rfl, a, _, _, _, rfl, rfl, ha, atI_nat (by rw [List.getElem?_map, List.getElem?_eq_getElem hi]; rfl), hN _ _ ⟨rfl, _, rfl⟩⟩
  · rintro σ' H' ⟨rfl, c, rfl⟩
    have hk2 : (0 : Int) ≤ (k : Int) * k ∧ (k : Int) * k ≤ 10000 := by
      have h1 : k * k ≤ 100 * 100 := Nat.mul_le_mul hk hk
      have h2 : ((k * k : Nat) : Int) = (k : Int) * k := Int.natCast_mul _ _
      omega
    have em : 0 ≤ c % 2147483629 ∧ c % 2147483629 < 2147483629 := ⟨Int.emod_nonneg _ (by omega), Int.emod_lt_of_pos _ (by omega)⟩
    have ek : (104729 : Int) * k * k = 104729 * ((k : Int) * k) := Int.mul_assoc _ _ _
    refine ⟨_, rfl, _, _, rfl, rfl, (show (0 : Int) < 2147483629 by decide), _, rfl, _, _, rfl, rfl, .inl (by omega), _, rfl, _, _, rfl, rfl, .inl (by omega), _, _, rfl, rfl, _, _, rfl, rfl, _, _, rfl, rfl, ⟨by decide, by decide, ?_⟩, _, _, rfl, rfl, (show (0 : Int) < 2147483647 by decide), ?_⟩
    · rw [ek]; omega
    · refine ⟨fun N hN => ?_, ?_⟩
      · refine ⟨_, rfl, _, _, rfl, rfl, ⟨by decide, by decide, by decide⟩, _, _, rfl, rfl, _, rfl, if2 (fun _ => ?_) fun _ => ?_⟩
        · exact hN _ _ ⟨rfl, 0, _, rfl, Int.emod_nonneg _ (by omega), Int.emod_lt_of_pos _ (by omega)⟩
        · exact hN _ _ ⟨rfl, c, _, rfl, Int.emod_nonneg _ (by omega), Int.emod_lt_of_pos _ (by omega)⟩
      · rintro σ' H1 ⟨rfl, c', y, rfl, h1, h2⟩
        exact ⟨_, rfl, _, rfl, sz2, fun p hp => q p _ (same_new hp _) hp ⟨c', y, upd_same, h1, h2⟩⟩
end
end KF

set_option Elab.async false
set_option linter.all false
set_option maxRecDepth 100000
set_option maxHeartbeats 4000000
namespace KF
open PySem PySem.Spec L2 TL
section
variable {P : Program} {w : World} {K : PySem.W.Frag} {mg : Str → Option Value} {base : Heap}
def spTake (K : PySem.W.Frag) : Sp := fun vs H Q _ => ∃ (a : Addr) (m : Nat), vs = [.ref a, .int m] ∧ PoAt H a ∧ 0 < m ∧ m < 1000000 ∧ ∀ (n : Nat) H', n < m → But a H H' → PoAt H' a → Q (.int n) H'
theorem ok_take (T : Tx w K mg) : Df P w K mg base CX0 1 "_law_take" ["_law_pool_here", "_law_many_here"] [] (spTake K) := by
  refine df0 T.d_law_take T.g_law_take sc_law_take (fun _ _ _ _ _ _ us hl => match us, hl with | [_, _], _ => rfl) (fun vs H Q E h => ?_) (fun cdv A outer sh H vs Q E hr h => ?_)
  · obtain ⟨a, m, rfl, _⟩ := h
    rfl
  obtain ⟨a, m, rfl, ⟨z, y, ha, y0, y1⟩, m0, m1, q⟩ := h
  refine ⟨_, (pss_cons (ps_if (pt_cmpR op_gt (pe_ix ix_list (pv 0) pe_int (fun _ _ => rfl)) pe_int (nomark _)) (pss_cons (ps_set (i := 2) sc_law_take.nd rfl (.inl rfl) (pe_op op_mod (pe_ix ix_list (pv 0) pe_int (fun _ _ => rfl)) (pv 1))) (pss_cons (ps_asg (pe_op op_fdiv (pe_ix ix_list (pv 0) pe_int (fun _ _ => rfl)) (pv 1)) (pg_sub (pv 0) pe_int set_list)) (pss_one (ps_ret (pv 2))))) pss_nil) (pss_cons (ps_asg (pe_op op_mod (pe_op op_add (pe_op op_mul (pe_ix ix_list (pv 0) pe_int (fun _ _ => rfl)) pe_int) pe_int) pe_int) (pg_sub (pv 0) pe_int set_list)) (pss_one (ps_ret (pe_op op_mod (pe_op op_fdiv (pe_op op_mod (pe_op op_mul (pe_ix ix_list (pv 0) pe_int (fun _ _ => rfl)) (pe_ix ix_list (pv 0) pe_int (fun _ _ => rfl))) pe_int) pe_int) (pv 1)))))), ?_⟩
  have nat : ∀ i : Int, ∃ n : Nat, n < m ∧ i % (m : Int) = n := fun i => ⟨(i % (m : Int)).toNat, by
    have h1 := Int.emod_nonneg i (b := (m : Int)) (by omega)
    have h2 := Int.emod_lt_of_pos i (b := (m : Int)) (by omega)
    omega, by
    have h1 := Int.emod_nonneg i (b := (m : Int)) (by omega)
    omega⟩
  refine ⟨_, rfl, a, _, _, _, rfl, rfl, .of ha, atI_nat (j := 0) rfl, _, _, rfl, rfl, _, rfl, if2 (fun _ => ?_) fun _ => ?_⟩
  · obtain ⟨n, hn, en⟩ := nat z
    refine ⟨_, rfl, a, _, _, _, rfl, rfl, .of ha, atI_nat (j := 0) rfl, _, rfl, _, _, rfl, rfl, (by show (0 : Int) < m; omega), ?_⟩
    refine ⟨_, rfl, a, _, _, _, rfl, rfl, .of ha, atI_nat (j := 0) rfl, _, rfl, _, _, rfl, rfl, ⟨by omega, by omega⟩, _, rfl, a, _, _, 0, rfl, rfl, ha, rfl, _, rfl, ?_⟩
    show Q (V.int (z % (m : Int))) _
    rw [en]
    exact q n _ hn (But.upd _ _ _) ⟨_, y, upd_same, y0, y1⟩
  · refine ⟨_, rfl, a, _, _, _, rfl, rfl, .of ha, atI_nat (j := 1) rfl, _, _, rfl, rfl, .inl ⟨by omega, by omega⟩, _, _, rfl, rfl, _, _, rfl, rfl, (show (0 : Int) < 2147483647 by decide), ?_⟩
    have b0 := Int.emod_nonneg (y * 48271 + 11) (b := 2147483647) (by omega)
    have b1 := Int.emod_lt_of_pos (y * 48271 + 11) (b := 2147483647) (by omega)
    obtain ⟨y2, e2⟩ : ∃ y2, y2 = (y * 48271 + 11) % 2147483647 := ⟨_, rfl⟩
    rw [← e2] at b0 b1
    show gSub _ _ _ (V.int ((y * 48271 + 11) % 2147483647)) _ _ _
    rw [← e2]
    refine ⟨_, rfl, a, _, _, 1, rfl, rfl, ha, rfl, ?_⟩
    refine ⟨_, rfl, a, _, _, _, rfl, rfl, .of upd_same, atI_nat (j := 1) rfl, _, rfl, a, _, _, _, rfl, rfl, .of upd_same, atI_nat (j := 1) rfl, _, _, rfl, rfl, .inl ⟨by omega, by omega⟩, _, _, rfl, rfl, (show (0 : Int) < 2147483629 by decide), _, _, rfl, rfl, ⟨by decide, by decide⟩, _, rfl, _, _, rfl, rfl, (by show (0 : Int) < m; omega), ?_⟩
    obtain ⟨n, hn, en⟩ := nat (y2 * y2 % 2147483629 / 64)
    show Q (V.int (y2 * y2 % 2147483629 / 64 % (m : Int))) _
    rw [en]
    exact q n _ hn (But.upd _ _ _) ⟨z, y2, upd_same, b0, b1⟩
end
end KF

set_option Elab.async false
set_option linter.all false
set_option maxRecDepth 100000
set_option maxHeartbeats 4000000
namespace KF
open PySem PySem.Spec L2 TL
section
variable {P : Program} {w : World} {K : PySem.W.Frag} {mg : Str → Option Value} {base : Heap}
theorem PoAt.ne {H : Hp} {a b : Addr} {vs : List V} (h : PoAt H a) (hb : H b = some (.lst vs)) (no : ∀ i, vs[0]? ≠ some (.int i)) : b ≠ a := by
  rintro rfl
  obtain ⟨z, y, e, _⟩ := h
  rw [hb] at e
  cases e
  exact no z rfl
def spKind (K : PySem.W.Frag) (n : Nat) : Sp := fun vs H Q _ => ∃ (a b : Addr) (m : Nat), vs = [.ref a, .int m, .ref b] ∧ PoAt H a ∧ H b = some (.lst [.str (mstr false), .str (mstr true)]) ∧ 1 ≤ m ∧ m ≤ n ∧ m ≤ 1000 ∧ ∀ k v H', k.leaves = m → But a H H' → PoAt H' a → KdAt K H' k v → Q v H'
theorem ok_kind (T : Tx w K mg) : ∀ n, Df P w K mg base CX0 (n + 2) "_law_kind" ["_law_pool_here", "_law_leaves_here", "_law_marks"] [] (spKind K n)
  | 0 => df_none T.d_law_kind T.g_law_kind (fun _ _ _ _ _ _ us hl => match us, hl with | [_, _, _], _ => rfl) fun vs H Q E ⟨_, _, m, _, _, _, h1, h2, _⟩ => by omega
  | n + 1 => by
    have GT := (ok_take (P := P) (base := base) T).mono (show 1 ≤ n + 2 by omega)
    have G := ok_kind T n
    refine df0 T.d_law_kind T.g_law_kind sc_law_kind (fun _ _ _ _ _ _ us hl => match us, hl with | [_, _, _], _ => rfl) (fun vs H Q E h => ?_) (fun cdv A outer sh H vs Q E hr h => ?_)
    · obtain ⟨a, b, m, rfl, _⟩ := h
      rfl
    obtain ⟨a, b, m, rfl, hp, hb, h1, hm, hz, q⟩ := h
    have ba : b ≠ a := hp.ne hb (by intro i z; cases z)
    refine ⟨_, (pss_cons (ps_if (pt_cmpR op_eq (pv 1) pe_int (nomark _))
        (pss_cons (ps_if (pt_cmpR op_eq (cal GT hr pass0 (pa_cons (pv 0) (pa_cons pe_int pa_nil))) pe_int (nomark _)) (pss_one (ps_ret (pe_tup (pa_cons pe_str pa_nil)))) pss_nil) (pss_one (ps_ret (pe_tup (pa_cons pe_str (pa_cons (pe_ix ix_list (pv 2) (cal GT hr pass0 (pa_cons (pv 0) (pa_cons (pe_callB call_len_seq rfl T.n_len PySem.boot_len (pa_cons (pv 2) pa_nil)) pa_nil))) (fun _ _ => rfl)) pa_nil)))))) pss_nil) (pss_cons (ps_set (i := 3) sc_law_kind.nd rfl (.inl rfl) (pe_op op_add pe_int (cal GT hr pass0 (pa_cons (pv 0) (pa_cons (pe_op op_sub (pv 1) pe_int) pa_nil))))) (pss_cons (ps_set (i := 4) sc_law_kind.nd rfl (.inl rfl) (pe_ix ix_list (pe_lst (pa_cons pe_str (pa_cons pe_str (pa_cons pe_str pa_nil)))) (cal GT hr pass0 (pa_cons (pv 0) (pa_cons pe_int pa_nil))) (fun _ _ => rfl))) (pss_one (ps_ret (pe_tup (pa_cons (pv 4) (pa_cons (cal G hr pass0 (pa_cons (pv 0) (pa_cons (pv 3) (pa_cons (pv 2) pa_nil)))) (pa_cons (cal G hr pass0 (pa_cons (pv 0) (pa_cons (pe_op op_sub (pv 1) (pv 3)) (pa_cons (pv 2) pa_nil)))) pa_nil))))))))), ?_⟩
    refine ⟨_, rfl, rfl, _, rfl, if2 (fun e => ?_) fun e => ?_⟩
    · have m1 : m = 1 := by have := V.int.inj (of_decide_eq_true e); omega
      subst m1
      refine ⟨_, rfl, a, 9, rfl, hp, by decide, by decide, fun c H1 hc b1 p1 => ⟨rfl, _, rfl, if2 (fun _ => ?_) fun _ => ?_⟩⟩
      · exact ⟨sz1, fun p hpn => q .one (.ref p) _ rfl (b1.same (same_new hpn _)) (p1.same (same_new hpn _)) ⟨p, rfl, .of upd_same⟩⟩
      · have hb1 := b1 _ _ ba hb
        refine ⟨_, rfl, _, rfl, _, rfl, b, _, rfl, .inl (.of hb1), a, 2, rfl, p1, by decide, by decide, fun c2 H2 hc2 b2 p2 => ?_⟩
        have hb2 := b2 _ _ ba hb1
        obtain ⟨mk, hmk⟩ : ∃ mk : Bool, ([V.str (mstr false), V.str (mstr true)] : List V)[c2]? = some (.str (mstr mk)) := match c2, hc2 with
          | 0, _ => ⟨false, rfl⟩
          | 1, _ => ⟨true, rfl⟩
        refine ⟨b, _, _, _, rfl, rfl, .of hb2, atI_nat hmk, sz2, fun p hpn => ?_⟩
        have s := same_new hpn (.tup [.str "mark", .str (mstr mk)])
        exact q (.mark mk) (.ref p) _ rfl ((b1.trans b2).same s) (p2.same s) ⟨p, rfl, .of upd_same⟩
    · have m2 : 2 ≤ m := by
        have : m ≠ 1 := fun z => of_decide_eq_false e (by rw [z]; rfl)
        omega
      refine ⟨_, rfl, _, rfl, _, _, rfl, rfl, a, m - 1, congrArg (fun i => [V.ref a, V.int i]) (show ((m : Int) - 1) = ((m - 1 : Nat) : Int) by omega), hp, by omega, by omega, fun c H1 hc b1 p1 => ⟨_, _, rfl, rfl, ?_⟩⟩
      refine ⟨sz3, fun l hl => ⟨_, rfl, a, 3, rfl, p1.same (same_new hl _), by decide, by decide, fun c2 H2 hc2 b2 p2 => ?_⟩⟩
      have sl := same_new hl (.lst [.str "to", .str "to", .str "both"])
      have la : l ≠ a := (p1.same sl).ne upd_same (by intro i z; cases z)
      obtain ⟨wd, hwd, hw2⟩ : ∃ wd : Str, ([V.str "to", V.str "to", V.str "both"] : List V)[c2]? = some (.str wd) ∧ (wd = "to" ∨ wd = "both") := match c2, hc2 with
        | 0, _ => ⟨"to", rfl, .inl rfl⟩
        | 1, _ => ⟨"to", rfl, .inl rfl⟩
        | 2, _ => ⟨"both", rfl, .inr rfl⟩
      have b12 := (b1.same sl).trans b2
      have ec : (1 : Int) + (c : Nat) = ((c + 1 : Nat) : Int) := by omega
      refine ⟨l, _, _, _, rfl, rfl, .of (b2 _ _ la upd_same), atI_nat hwd, _, rfl, _, rfl, _, rfl, _, rfl, a, b, c + 1, congrArg (fun i => [V.ref a, V.int i, V.ref b]) ec, p2, b12 _ _ ba hb, by omega, by omega, by omega, fun k1 v1 H3 hk1 b3 p3 a3 => ?_⟩
      refine ⟨_, rfl, _, rfl, _, rfl, _, _, rfl, rfl, _, rfl, a, b, m - (c + 1), congrArg (fun i => [V.ref a, V.int i, V.ref b]) (show ((m : Int) - (1 + (c : Nat))) = ((m - (c + 1) : Nat) : Int) by omega), p3, b3 _ _ ba (b12 _ _ ba hb), by omega, by omega, by omega, fun k2 v2 H4 hk2 b4 p4 a4 => ⟨sz3, fun p hpn => ?_⟩⟩
      have s := same_new hpn (.tup [.str wd, v1, v2])
      have bb := ((b12.trans b3).trans b4).same s
      have a3' := (a3.ts (p3.ts b4)).same s
      have a4' := a4.same s
      rcases hw2 with rfl | rfl
      · exact q (.to k1 k2) (.ref p) _ (by show k1.leaves + k2.leaves = m; omega) bb (p4.same s) ⟨p, v1, v2, rfl, .of upd_same, a3', a4'⟩
      · exact q (.both k1 k2) (.ref p) _ (by show k1.leaves + k2.leaves = m; omega) bb (p4.same s) ⟨p, v1, v2, rfl, .of upd_same, a3', a4'⟩
end
end KF

set_option Elab.async false
set_option linter.all false
set_option maxRecDepth 100000
set_option maxHeartbeats 4000000
namespace KF
open PySem PySem.Spec L2 TL
theorem pick_all {α β : Type} {R : α → β → Prop} : ∀ {xs : List α}, (∀ x ∈ xs, ∃ y, R x y) → ∃ ys : List β, ys.length = xs.length ∧ ∀ (i : Nat) (x : α) (y : β), xs[i]? = some x → ys[i]? = some y → R x y
  | [], _ => ⟨[], rfl, fun i x y h _ => by simp at h⟩
  | x :: xs, h => by
    obtain ⟨y, hy⟩ := h x List.mem_cons_self
    obtain ⟨ys, h1, h2⟩ := pick_all (xs := xs) fun z hz => h z (List.mem_cons_of_mem _ hz)
    refine ⟨y :: ys, congrArg (· + 1) h1, fun i a b ha hb => ?_⟩
    cases i with
    | zero => cases ha; cases hb; exact hy
    | succ i => exact h2 i a b ha hb
theorem valV_mem {κ : Type} [DecidableEq κ] {kvs : List (κ × V)} {k : κ} {v : V} (h : (k, v) ∈ kvs) : ∃ v', valV kvs k = some v' := by
  have : (valV kvs k).isSome = true := by
    rw [← valV_any]
    exact List.any_eq_true.mpr ⟨_, h, decide_eq_true rfl⟩
  exact Option.isSome_iff_exists.mp this
theorem frz_ts {K : PySem.W.Frag} {H : Hp} {d : Addr} {od : Obj} {kvs : List (Key × V)} (h : H d = some (.dK kvs)) : TS K H (upd H d (.frz od (.dK kvs))) := fun b xs q => by
  rcases q with (q | ⟨o, q⟩) | q
  · exact .inl (.inl (by rw [upd_ne (by rintro rfl; rw [h] at q; cases q)]; exact q))
  · exact .inl (.inr ⟨o, by rw [upd_ne (by rintro rfl; rw [h] at q; cases q)]; exact q⟩)
  · exact .inr q
theorem unfrz_ts {K : PySem.W.Frag} {H : Hp} {d : Addr} {od : Obj} {kvs : List (Key × V)} (h : H d = some (.frz od (.dK kvs))) : TS K H (upd H d (.dK kvs)) := fun b xs q => by
  rcases q with (q | ⟨o, q⟩) | q
  · exact .inl (.inl (by rw [upd_ne (by rintro rfl; rw [h] at q; cases q)]; exact q))
  · exact .inl (.inr ⟨o, by rw [upd_ne (by rintro rfl; rw [h] at q; cases q)]; exact q⟩)
  · exact .inr q
section
variable {P : Program} {w : World} {K : PySem.W.Frag} {mg : Str → Option Value} {base : Heap}
def spSeen (K : PySem.W.Frag) : Sp := fun vs H Q _ => ∃ (a : Addr) (l : Ctx) (ws : List V), vs = [.ref a] ∧ H a = some (.lst ws) ∧ All2 (NmAt K H) l ws ∧ l.length ≤ 1000 ∧
  ∀ p us L H', Same H H' → H p = none → H' p = some (.lst us) → All2 (NmAt K H') L us → L.length ≤ l.length → (∀ q ∈ L, knownAs l q.1 = some q.2) → Q (.ref p) H'
theorem ok_seen (T : Tx w K mg) : Df P w K mg base CX0 1 "_law_seen" ["_law_known"] [] (spSeen K) := by
  refine df0 T.d_law_seen T.g_law_seen sc_law_seen (fun _ _ _ _ _ _ us hl => match us, hl with | [_], _ => rfl) (fun vs H Q E h => ?_) (fun cdv A outer sh H vs Q E hr h => ?_)
  · obtain ⟨a, l, ws, rfl, _⟩ := h
    rfl
  obtain ⟨a, l, ws, rfl, ha, hl, hz, q⟩ := h
  refine ⟨_, (pss_cons (ps_set (i := 1) sc_law_seen.nd rfl (.inr rfl) pe_dnewK) (pss_cons (ps_for PassesOwn.never rfl (pi_list (pv 0)) (pg_tup rfl (pgs_cons (pg_name (i := 2) sc_law_seen.nd rfl (Or.inl rfl)) (pgs_cons (pg_name (i := 3) sc_law_seen.nd rfl (Or.inl rfl)) pgs_nil)))
      (pss_one (ps_dput hr.u1 (pv 1) (pv 2) (pv 3) rfl))) (pss_one (ps_ret (pe_lock (pe_lc (own := [("_law_name", 2)]) (g := gName 2) (tt := tYes) (te := tTup (tCons (tVar 2) (tCons (tDGet (tVar 1) (tVar 2)) tNil))) rfl sc_law_seen.nd (pi_keys (pv 1)) (blkOk_by (own := [("_law_name", 2)]) (N := ["_law_known", "_law_found", "_law_name", "_law_kind_here"]) (sc := defScope s_law_seen) (by decide +kernel))
        (fun _ _ _ _ _ => pg_name (i := 2) sc_law_seen.nd rfl (Or.inl rfl)) (fun _ _ _ _ _ => pts_nil) (fun _ _ _ _ _ => pe_tup (pa_cons (pv 2) (pa_cons (pe_dget hr.u1 (pv 1) (pv 2) (fun _ _ => rfl)) pa_nil))))))))), ?_⟩
  refine fun d hd => ?_
  have s0 := same_new hd (.dK [])
  have wl := hl.length
  refine ⟨_, rfl, a, rfl, ⟨_, .of (s0 _ _ ha)⟩, for_list (xs := ws) (fun j σ H1 => Same H H1 ∧ (∃ z2 z3, σ = [some (.ref a), some (.ref d), z2, z3]) ∧ ∃ kvs : List (Key × V), H1 d = some (.dK kvs) ∧ kvs.length ≤ j ∧ ∀ k v, valV kvs k = some v → ∃ (x : Nm) (κ : Kd), k = Sum.inr x.str ∧ knownAs (l.take j) x = some κ ∧ KdAt K H κ v)
    ⟨s0, ⟨_, _, rfl⟩, [], upd_same, Nat.le_refl _, fun k v e => by cases e⟩ (fun j σ H1 _ h => .of (h.1 _ _ ha)) ?_ ?_⟩
  · rintro j x σ H1 hx ⟨s1, ⟨z2, z3, rfl⟩, kvs, gd, hk, hv⟩
    have hj : j < l.length := by rw [← wl]; exact (List.getElem?_eq_some_iff.mp hx).1
    have hq := List.getElem?_eq_getElem hj
    obtain ⟨x', e1, t, y, rfl, ht, hy⟩ := hl.get hq
    obtain rfl : V.ref t = x := Option.some.inj (e1.symm.trans hx)
    refine ⟨t, _, rfl, s1.tup ht, rfl, _, _, rfl, _, _, rfl, rfl, ?_⟩
    refine ⟨_, rfl, _, rfl, _, rfl, d, _, rfl, DPut.k (k := Sum.inr l[j].1.str) gd (small' (by omega)), ?_⟩
    refine ⟨fun b o e => by rw [upd_ne (ne_of_none e hd)]; exact s1 _ _ e, ⟨_, _, rfl⟩, _, upd_same, ?_, fun k v e => ?_⟩
    · have := length_putK kvs (Sum.inr l[j].1.str : Key) y
      omega
    · have et : l.take (j + 1) = l.take j ++ [(l[j].1, l[j].2)] := by rw [List.take_succ, hq]; rfl
      rw [valV_put] at e
      by_cases c : k = Sum.inr l[j].1.str
      · rw [if_pos c] at e
        cases e
        exact ⟨l[j].1, l[j].2, c, by rw [et, knownAs_snoc, if_pos rfl], hy⟩
      · rw [if_neg c] at e
        obtain ⟨x, κ, h1, h2, h3⟩ := hv k v e
        refine ⟨x, κ, h1, ?_, h3⟩
        rw [et, knownAs_snoc, if_neg]
        · exact h2
        · intro z
          exact c (by rw [h1, z])
  · rintro σ H1 ⟨s1, ⟨z2, z3, rfl⟩, kvs, gd, hk, hv⟩
    rw [wl, List.take_length] at hv
    rw [wl] at hk
    obtain ⟨L, hL1, hL2⟩ := pick_all (xs := kvs) (R := fun kv (q : Nm × Kd) => kv.1 = Sum.inr q.1.str ∧ knownAs l q.1 = some q.2 ∧ ∃ v, valV kvs kv.1 = some v ∧ KdAt K H q.2 v) fun kv hm => by
      obtain ⟨v, hv'⟩ := valV_mem (k := kv.1) (v := kv.2) hm
      obtain ⟨x, κ, h1, h2, h3⟩ := hv _ _ hv'
      exact ⟨(x, κ), h1, h2, v, hv', h3⟩
    refine ⟨d, _, gd, trivial, fun od => ?_⟩
    have tf : TS K H1 (upd H1 d (.frz od (.dK kvs))) := frz_ts gd
    obtain ⟨H2, eH2⟩ : ∃ H2, H2 = upd H1 d (.frz od (.dK kvs)) := ⟨_, rfl⟩
    rw [← eH2] at tf ⊢
    have g2 : H2 d = some (.frz od (.dK kvs)) := by rw [eH2]; exact upd_same
    refine ⟨_, rfl, d, od, rfl, .inl ⟨kvs, g2, fun D hD => ?_⟩⟩
    refine lc_build (K := K) (walk_keys (kvs := kvs)) (NmAt K) L hL1 (by omega) hD (fun H' s' => s' _ _ g2) (fun i b x H3 H4 Q2 hb s3 hY q2 => ?_) (fun H3 ys s3 gD rD => ?_)
    · obtain ⟨rfl, k, v, hkv, rfl⟩ := hY
      obtain ⟨e1, e2, v', e3, e4⟩ := hL2 i (k, v) b hkv hb
      obtain rfl : k = Sum.inr b.1.str := e1
      refine ⟨rfl, _, rfl, _, rfl, _, rfl, d, v', rfl, .inl ⟨kvs, Sum.inr b.1.str, .inr ⟨od, s3 _ _ g2⟩, rfl, e3.symm⟩, sz2, fun p hp => ?_⟩
      have sp := same_new hp (.tup [.str b.1.str, v'])
      exact q2 _ _ sp fun H'' x => ⟨p, v', rfl, x.tup sp (.of upd_same), ((e4.same s1).ts tf).ts (s3.ts.trans x.ts)⟩
    · have g3 := s3 _ _ g2
      refine ⟨g3, ?_⟩
      have dD : D ≠ d := fun e => by rw [e, g2] at hD; cases hD
      have tu : TS K H3 (upd H3 d (.dK kvs)) := unfrz_ts g3
      have hH : H D = none := by
        cases z : H D with
        | none => rfl
        | some o =>
          have := s1 _ _ z
          rw [eH2, upd_ne dD, this] at hD
          cases hD
      refine q D ys L _ (fun b o e => ?_) hH (by rw [upd_ne dD]; exact gD) ((rD H3 (.self s3)).imp fun _ _ h => h.ts tu) (by omega) fun b hb => ?_
      · have bd := ne_of_none e hd
        rw [upd_ne bd]
        exact s3 _ _ (by rw [eH2, upd_ne bd]; exact s1 _ _ e)
      · obtain ⟨i, hi⟩ := List.getElem?_of_mem hb
        have hi' : i < kvs.length := by rw [← hL1]; exact (List.getElem?_eq_some_iff.mp hi).1
        exact (hL2 i _ b (List.getElem?_eq_getElem hi') hi).2.1
end
end KF

set_option Elab.async false
set_option linter.all false
set_option maxRecDepth 100000
set_option maxHeartbeats 4000000
namespace KF
open PySem PySem.Spec L2 TL
/-- how a thing of a kind is used up to a goal -/
def usesOf (g : Kd) : Kd → List (List Mv)
  | .one => if Kd.one = g then [[]] else []
  | .mark m => if Kd.mark m = g then [[]] else []
  | .to a b => (if Kd.to a b = g then [[]] else []) ++ (usesOf g b).map fun e => Mv.kd a :: e
  | .both a b => ((if Kd.both a b = g then [[]] else []) ++ (usesOf g a).map fun e => Mv.one :: e) ++ (usesOf g b).map fun e => Mv.two :: e
theorem ite_len (c : Prop) [Decidable c] : (if c then [([] : List Mv)] else []).length ≤ 1 := by
  by_cases h : c
  · rw [if_pos h]; exact Nat.le_refl _
  · rw [if_neg h]; exact Nat.zero_le _
theorem ite_mem {c : Prop} [Decidable c] {e : List Mv} (h : e ∈ (if c then [([] : List Mv)] else [])) : c ∧ e = [] := by
  by_cases hc : c
  · rw [if_pos hc] at h; exact ⟨hc, List.mem_singleton.mp h⟩
  · rw [if_neg hc] at h; cases h
theorem uses_le (g k : Kd) : (usesOf g k).length + 1 ≤ 2 * k.leaves := by
  induction k with
  | one => have := ite_len (Kd.one = g); show (if Kd.one = g then [([] : List Mv)] else []).length + 1 ≤ 2 * 1; omega
  | mark m => have := ite_len (Kd.mark m = g); show (if Kd.mark m = g then [([] : List Mv)] else []).length + 1 ≤ 2 * 1; omega
  | to a b h h' =>
    have := ite_len (Kd.to a b = g)
    have := a.depth_lt
    rw [usesOf, List.length_append, List.length_map]
    show _ ≤ 2 * (a.leaves + b.leaves)
    omega
  | both a b h h' =>
    have := ite_len (Kd.both a b = g)
    rw [usesOf, List.length_append, List.length_append, List.length_map, List.length_map]
    show _ ≤ 2 * (a.leaves + b.leaves)
    omega
theorem uses_fol {g : Kd} : ∀ {k : Kd} {e : List Mv}, e ∈ usesOf g k → Fol k e g
  | .one, e, h => by obtain ⟨rfl, rfl⟩ := ite_mem h; exact rfl
  | .mark m, e, h => by obtain ⟨rfl, rfl⟩ := ite_mem h; exact rfl
  | .to a b, e, h => by
    rw [usesOf] at h
    rcases List.mem_append.mp h with h | h
    · obtain ⟨rfl, rfl⟩ := ite_mem h; exact rfl
    · obtain ⟨e, he, rfl⟩ := List.mem_map.mp h
      have := uses_fol he
      exact (⟨rfl, this⟩ : a = a ∧ Fol b e g)
  | .both a b, e, h => by
    rw [usesOf] at h
    rcases List.mem_append.mp h with h | h
    · rcases List.mem_append.mp h with h | h
      · obtain ⟨rfl, rfl⟩ := ite_mem h; exact rfl
      · obtain ⟨e, he, rfl⟩ := List.mem_map.mp h
        have := uses_fol he
        simp only [Fol]
        exact this
    · obtain ⟨e, he, rfl⟩ := List.mem_map.mp h
      have := uses_fol he
      simp only [Fol]
      exact this
theorem uses_in {g : Kd} : ∀ {k : Kd} {e : List Mv}, e ∈ usesOf g k → e.length ≤ k.depth ∧ ∀ c, Mv.kd c ∈ e → c.leaves ≤ k.leaves
  | .one, e, h => by obtain ⟨_, rfl⟩ := ite_mem h; exact ⟨Nat.zero_le _, fun c hc => by cases hc⟩
  | .mark m, e, h => by obtain ⟨_, rfl⟩ := ite_mem h; exact ⟨Nat.zero_le _, fun c hc => by cases hc⟩
  | .to a b, e, h => by
    rw [usesOf] at h
    show _ ≤ 1 + max a.depth b.depth ∧ ∀ c : Kd, _ → c.leaves ≤ a.leaves + b.leaves
    rcases List.mem_append.mp h with h | h
    · obtain ⟨_, rfl⟩ := ite_mem h; exact ⟨Nat.zero_le _, fun c hc => by cases hc⟩
    · obtain ⟨e, he, rfl⟩ := List.mem_map.mp h
      obtain ⟨h1, h2⟩ := uses_in he
      refine ⟨by rw [List.length_cons]; omega, fun c hc => ?_⟩
      rcases List.mem_cons.mp hc with hc | hc
      · cases hc; omega
      · have := h2 c hc; omega
  | .both a b, e, h => by
    rw [usesOf] at h
    show _ ≤ 1 + max a.depth b.depth ∧ ∀ c : Kd, _ → c.leaves ≤ a.leaves + b.leaves
    rcases List.mem_append.mp h with h | h
    · rcases List.mem_append.mp h with h | h
      · obtain ⟨_, rfl⟩ := ite_mem h; exact ⟨Nat.zero_le _, fun c hc => by cases hc⟩
      · obtain ⟨e, he, rfl⟩ := List.mem_map.mp h
        obtain ⟨h1, h2⟩ := uses_in he
        refine ⟨by rw [List.length_cons]; omega, fun c hc => ?_⟩
        rcases List.mem_cons.mp hc with hc | hc
        · cases hc
        · have := h2 c hc; omega
    · obtain ⟨e, he, rfl⟩ := List.mem_map.mp h
      obtain ⟨h1, h2⟩ := uses_in he
      refine ⟨by rw [List.length_cons]; omega, fun c hc => ?_⟩
      rcases List.mem_cons.mp hc with hc | hc
      · cases hc
      · have := h2 c hc; omega
section
variable {P : Program} {w : World} {K : PySem.W.Frag} {mg : Str → Option Value} {base : Heap}
/-- a list of moves, not of B -/
def LsN (K : PySem.W.Frag) (B H : Hp) (e : List Mv) (v : V) : Prop := ∃ a vs, v = .ref a ∧ B a = none ∧ H a = some (.lst vs) ∧ All2 (MvAt K H) e vs
theorem LsN.less {K : PySem.W.Frag} {B B' H : Hp} (s : Same B B') {e : List Mv} {w : V} : LsN K B' H e w → LsN K B H e w := fun ⟨a, vs, e2, n, q2, q3⟩ => ⟨a, vs, e2, s.free n, q2, q3⟩
/-- [[head] + moves for moves in ..] -/
theorem uses_comp {σ : L2.St} {H H1 : Hp} {D b1 : Addr} {l1 : List V} {ws : List (List Mv)} {c : Mv} {th : TE} {Qd : Hp → Prop} (s1 : Same H H1) (g1 : H1 b1 = some (.lst l1)) (r1 : ∀ H'', Nx K H H1 H'' → All2 (LsN K H H'') ws l1)
    (hσ : σ.length = 5) (hz : ws.length ≤ 1000) (hz2 : ∀ e ∈ ws, e.length ≤ 1000) (hD : H1 D = none)
    (hh : ∀ (σ' : L2.St) (H2 : Hp) (Q : VK), σ'[0]? = σ[0]? → Same H1 H2 → (∀ v, (∀ H3, TS K H2 H3 → MvAt K H3 c v) → Q v H2) → th σ' H2 Q)
    (hd : ∀ H2 ys, Same H1 H2 → H2 D = some (.lst ys) → (∀ H'', Nx K H1 H2 H'' → All2 (LsN K H H'') (ws.map fun e => c :: e) ys) → Qd H2) :
    ∃ W : Nat → Nat → Hp → Prop, (∃ m, W 0 m (upd H1 D (.lst []))) ∧ ∀ i m H, W i m H →
      ((Itl K b1).stop i H ∧ Qd H) ∨ ((Itl K b1).go i H ∧ ∃ Nx : Hp → Prop, (∀ H', Nx H' → ∃ m', m' < m ∧ W (i + 1) m' H') ∧ ∀ x H', (Itl K b1).yld i H x H' → gName 4 x (wipe σ [4]) H' fun σ2 H2 => wipe σ2 [4] = wipe σ [4] ∧ tYes σ2 H2 fun b H3 =>
        if b = true then tOp rCat (tLst (tCons th tNil)) (tVar 4) σ2 H3 fun y H4 => ∃ acc, H4 D = some (.lst acc) ∧ acc.length < sizeLine ∧ Nx (upd H4 D (.lst (acc ++ [y]))) else Nx H3) := by
  have e1 := r1 H1 (.self s1)
  have m1 := e1.length
  match σ, hσ with
  | [σ0, σ1, σ2, σ3, σ4], _ =>
  refine lc_build (K := K) (walk_list (xs := l1)) (LsN K H) (ws.map fun e => c :: e) (by rw [List.length_map]; exact m1.symm) (by omega) hD (fun H s => .of (s _ _ g1)) (fun i b x H2 H3 Q2 hb s2 hY q2 => ?_) hd
  obtain ⟨rfl, hx⟩ := hY
  obtain ⟨e, he, rfl⟩ := get_map hb
  obtain ⟨x', hx', b3, l3, rfl, n3, g3, e3⟩ := (r1 H3 (.same s1 s2)).get he
  obtain rfl : V.ref b3 = x := Option.some.inj (hx'.symm.trans hx)
  have m3 := e3.length
  have m4 := hz2 e (List.mem_of_getElem? he)
  refine ⟨rfl, ?_⟩
  refine hh _ H3 _ rfl s2 fun v hv => ⟨sz1, fun p hp => ⟨_, rfl, p, b3, _, _, rfl, rfl, upd_same, same_new hp _ _ _ g3, ?_, fun p2 hp2 => ?_⟩⟩
  · show 1 + l3.length ≤ sizeLine
    exact small (by omega)
  have u1 := same_new hp (.lst [v])
  have u2 := same_new hp2 (.lst ([v] ++ l3))
  refine q2 _ _ (u1.trans u2) fun H'' x => ⟨p2, [v] ++ l3, rfl, (s1.trans s2).free (u1.free hp2), x.lst (u1.free hp2) upd_same, hv _ x.ts, ?_⟩
  exact e3.imp fun k v hk => hk.ts x.ts
def spUses (K : PySem.W.Frag) (n : Nat) : Sp := fun vs H Q _ => ∃ kv gv nv k g, vs = [kv, gv, nv] ∧ KdAt K H k kv ∧ KdAt K H g gv ∧ k.depth < n ∧ k.leaves ≤ 100 ∧ RtL K H Q (LsN K H) (usesOf g k)
theorem ok_uses (T : Tx w K mg) : ∀ n, Df P w K mg base CX0 n "_law_uses" ["_law_kind_here", "_law_goal", "_law_name"] [] (spUses K n)
  | 0 => df_none T.d_law_uses T.g_law_uses (fun _ _ _ _ _ _ us hl => match us, hl with | [_, _, _], _ => rfl) fun vs H Q E ⟨_, _, _, _, _, _, _, _, h, _⟩ => absurd h (Nat.not_lt_zero _)
  | n + 1 => by
    have G := ok_uses T n
    refine df0 T.d_law_uses T.g_law_uses sc_law_uses (fun _ _ _ _ _ _ us hl => match us, hl with | [_, _, _], _ => rfl) (fun vs H Q E h => ?_) (fun cdv A outer s H vs Q E hr h => ?_)
    · obtain ⟨kv, gv, nv, k, g, rfl, _⟩ := h
      rfl
    obtain ⟨kv, gv, nv, k, g, rfl, hk, hg, hn, hl, q⟩ := h
    have kd := k.depth_lt
    obtain ⟨u0, eu0⟩ : ∃ u0, u0 = (if k = g then [([] : List Mv)] else []) := ⟨_, rfl⟩
    refine ⟨_, (pss_cons (ps_set (i := 3) sc_law_uses.nd rfl (.inl rfl) (pe_lst pa_nil)) (pss_cut ( fun σ' H' => ∃ p0 us0, σ' = [some kv, some gv, some nv, some (.ref p0), none] ∧ Same H H' ∧ H p0 = none ∧ H' p0 = some (.lst us0) ∧ ∀ H'', Nx K H H' H'' → All2 (LsN K H H'') u0 us0 ) (ps_if (pt_cmpR (op_eqK hr.u) (pv 0) (pv 1) (nomark _)) (pss_one (ps_expr (pe_bm PySem.F.plainAttrs_list PySem.F.slot_list_append PySem.F.type_list_append mt_append (pv 3) (pa_cons (pe_lst pa_nil) pa_nil)))) pss_nil) (pss_cons (ps_if (pt_tag (pv 0) mono_var) (pss_one (ps_set (i := 3) sc_law_uses.nd rfl (.inl rfl) (pe_op op_cat (pv 3)
          (pe_lc (own := [("_law_moves", 4)]) (g := gName 4) (tt := tYes) (te := tOp rCat (tLst (tCons (tAt K (tVar 0) 1) tNil)) (tVar 4)) rfl sc_law_uses.nd (pi_list (cal G hr pass0 (pa_cons (pv_at 0 2) (pa_cons (pv 1) (pa_cons (pv 2) pa_nil))))) (blkOk_by (own := [("_law_moves", 4)]) (N := ["_law_kind_here", "_law_goal", "_law_name", "_law_found", "_law_moves"]) (sc := defScope s_law_uses) (by decide +kernel))
            (fun _ _ _ _ _ => pg_name (i := 4) sc_law_uses.nd rfl (Or.inl rfl)) (fun _ _ _ _ _ => pts_nil) (fun _ _ _ _ _ => pe_op op_cat (pe_lst (pa_cons (pv_at 0 1) pa_nil)) (pv 4)))))) pss_nil) (pss_cons (ps_if (pt_tag (pv 0) mono_var) (pss_cons (ps_set (i := 3) sc_law_uses.nd rfl (.inl rfl) (pe_op op_cat (pv 3)
          (pe_lc (own := [("_law_moves", 4)]) (g := gName 4) (tt := tYes) (te := tOp rCat (tLst (tCons (tC (.int 1)) tNil)) (tVar 4)) rfl sc_law_uses.nd (pi_list (cal G hr pass0 (pa_cons (pv_at 0 1) (pa_cons (pv 1) (pa_cons (pv 2) pa_nil))))) (blkOk_by (own := [("_law_moves", 4)]) (N := ["_law_kind_here", "_law_goal", "_law_name", "_law_found", "_law_moves"]) (sc := defScope s_law_uses) (by decide +kernel))
            (fun _ _ _ _ _ => pg_name (i := 4) sc_law_uses.nd rfl (Or.inl rfl)) (fun _ _ _ _ _ => pts_nil) (fun _ _ _ _ _ => pe_op op_cat (pe_lst (pa_cons pe_int pa_nil)) (pv 4))))) (pss_one (ps_set (i := 3) sc_law_uses.nd rfl (.inl rfl) (pe_op op_cat (pv 3)
          (pe_lc (own := [("_law_moves", 4)]) (g := gName 4) (tt := tYes) (te := tOp rCat (tLst (tCons (tC (.int 2)) tNil)) (tVar 4)) rfl sc_law_uses.nd (pi_list (cal G hr pass0 (pa_cons (pv_at 0 2) (pa_cons (pv 1) (pa_cons (pv 2) pa_nil))))) (blkOk_by (own := [("_law_moves", 4)]) (N := ["_law_kind_here", "_law_goal", "_law_name", "_law_found", "_law_moves"]) (sc := defScope s_law_uses) (by decide +kernel))
            (fun _ _ _ _ _ => pg_name (i := 4) sc_law_uses.nd rfl (Or.inl rfl)) (fun _ _ _ _ _ => pts_nil) (fun _ _ _ _ _ => pe_op op_cat (pe_lst (pa_cons pe_int pa_nil)) (pv 4))))))) pss_nil) (pss_one (ps_ret (pv 3))))))), ?_⟩
    refine ⟨sz0, fun p0 hp0 => ⟨fun N hN => ?_, ?_⟩⟩
    · have s0 := same_new hp0 (.lst [])
      refine ⟨_, rfl, _, rfl, k, g, hk.same s0, hg.same s0, by omega, _, rfl, if2 (fun e => ?_) fun e => hN _ _ ⟨p0, [], rfl, s0, hp0, upd_same, fun H'' x => ?_⟩⟩
      · have e' := of_decide_eq_true e
        refine ⟨_, rfl, tyL upd_same, sz0, fun p1 hp1 => ?_⟩
        have s1 := same_new hp1 (.lst [])
        have n10 : p0 ≠ p1 := fun e => by rw [← e, upd_same] at hp1; cases hp1
        refine ⟨p0, _, _, rfl, rfl, s1 _ _ upd_same, small' (by show 0 ≤ _; omega), hN _ _ ⟨p0, _, rfl, fun b o hb => ?_, hp0, upd_same, fun H'' x => ?_⟩⟩
        · rw [upd_ne (ne_of_none hb hp0)]; exact s1 _ _ (s0 _ _ hb)
        · rw [eu0, if_pos e']
          refine ⟨⟨p1, [], rfl, s0.free hp1, x.lst (s0.free hp1) ?_, trivial⟩, trivial⟩
          rw [upd_ne (Ne.symm n10)]; exact upd_same
      · rw [eu0, if_neg (of_decide_eq_false e)]; trivial
    · rintro σ' H1 ⟨p0, us0, rfl, s1, np0, g0, r0⟩
      have zu : u0.length ≤ 1 := by rw [eu0]; exact ite_len _
      have z0 := (r0 H1 (.self s1)).length
      cases k with
      | one =>
        obtain ⟨a, rfl, t⟩ := hk
        refine ⟨_, rfl, a, _, _, rfl, s1.tup t, ifF (by decide +kernel) ⟨_, rfl, a, _, _, rfl, s1.tup t, ifF (by decide +kernel) ⟨_, rfl, q.of s1 np0 g0 fun H'' x => ?_⟩⟩⟩
        have := r0 H'' x
        rw [eu0] at this
        exact this
      | mark m =>
        obtain ⟨a, rfl, t⟩ := hk
        refine ⟨_, rfl, a, _, _, rfl, s1.tup t, ifF (by decide +kernel) ⟨_, rfl, a, _, _, rfl, s1.tup t, ifF (by decide +kernel) ⟨_, rfl, q.of s1 np0 g0 fun H'' x => ?_⟩⟩⟩
        have := r0 H'' x
        rw [eu0] at this
        exact this
      | to c d =>
        obtain ⟨a, y, z, rfl, t, hy, hz⟩ := hk
        have hn' : 1 + max c.depth d.depth < n + 1 := hn
        have hl' : c.leaves + d.leaves ≤ 100 := hl
        have dd := d.depth_lt
        have ud := uses_le g d
        refine ⟨_, rfl, a, _, _, rfl, s1.tup t, ifT (by decide +kernel) ?_⟩
        refine ⟨_, rfl, _, rfl, a, _, _, rfl, s1.tup t, rfl, _, rfl, _, rfl, z, gv, nv, d, g, rfl, hz.same s1, hg.same s1, by omega, by omega, fun b1 l1 H2 s2 n2 g2 r2 => ?_⟩
        refine ⟨b1, rfl, ⟨_, .of g2⟩, fun D hD => uses_comp (c := .kd c) s2 g2 r2 rfl (by omega) (fun e he => by have := (uses_in he).1; omega) hD (fun σ' H3 Q2 eσ s3 q2 => ?_) fun H3 ys s3 gD rD => ?_⟩
        · exact ⟨.ref a, eσ, a, _, y, rfl, s3.tup (s2.tup (s1.tup t)), rfl, q2 y fun H4 ts => (hy.same (s1.trans (s2.trans s3))).ts ts⟩
        · have k1 := (rD H3 (.self s3)).length
          rw [List.length_map] at k1
          have s13 := s1.trans (s2.trans s3)
          refine ⟨p0, D, _, _, rfl, rfl, s3 _ _ (s2 _ _ g0), gD, small (by omega), fun p hp => ?_⟩
          have s4 := same_new hp (.lst (us0 ++ ys))
          refine ⟨_, rfl, a, _, _, rfl, s4.tup (s13.tup t), ifF (by decide +kernel) ⟨_, rfl, q.laid s13 hp fun H'' x => ?_⟩⟩
          have h1 := r0 H'' (x.less (s2.trans s3))
          have h2 := (rD H'' (x.later (s1.trans s2) s3)).imp fun _ _ z => z.less s1
          rw [eu0] at h1
          exact h1.append h2
      | both c d =>
        obtain ⟨a, y, z, rfl, t, hy, hz⟩ := hk
        have hn' : 1 + max c.depth d.depth < n + 1 := hn
        have hl' : c.leaves + d.leaves ≤ 100 := hl
        have cd := c.depth_lt
        have dd := d.depth_lt
        have uc := uses_le g c
        have ud := uses_le g d
        refine ⟨_, rfl, a, _, _, rfl, s1.tup t, ifF (by decide +kernel) ⟨_, rfl, a, _, _, rfl, s1.tup t, ifT (by decide +kernel) ?_⟩⟩
        refine ⟨_, rfl, _, rfl, a, _, _, rfl, s1.tup t, rfl, _, rfl, _, rfl, y, gv, nv, c, g, rfl, hy.same s1, hg.same s1, by omega, by omega, fun b1 l1 H2 s2 n2 g2 r2 => ?_⟩
        refine ⟨b1, rfl, ⟨_, .of g2⟩, fun D hD => uses_comp (c := .one) s2 g2 r2 rfl (by omega) (fun e he => by have := (uses_in he).1; omega) hD (fun σ' H3 Q2 eσ s3 q2 => q2 _ fun _ _ => rfl) fun H3 ys s3 gD rD => ?_⟩
        have k1 := (rD H3 (.self s3)).length
        rw [List.length_map] at k1
        have s13 := s1.trans (s2.trans s3)
        refine ⟨p0, D, _, _, rfl, rfl, s3 _ _ (s2 _ _ g0), gD, small (by omega), fun p hp => ?_⟩
        have s4 := same_new hp (.lst (us0 ++ ys))
        have s14 := s13.trans s4
        refine ⟨_, rfl, _, rfl, a, _, _, rfl, s14.tup t, rfl, _, rfl, _, rfl, z, gv, nv, d, g, rfl, hz.same s14, hg.same s14, by omega, by omega, fun b5 l5 H5 s5 n5 g5 r5 => ?_⟩
        refine ⟨b5, rfl, ⟨_, .of g5⟩, fun D' hD' => uses_comp (c := .two) s5 g5 r5 rfl (by omega) (fun e he => by have := (uses_in he).1; omega) hD' (fun σ' H3 Q2 eσ s3 q2 => q2 _ fun _ _ => rfl) fun H6 ys' s6 gD' rD' => ?_⟩
        have k2 := (rD' H6 (.self s6)).length
        rw [List.length_map] at k2
        have zz : (us0 ++ ys).length + ys'.length ≤ 1000000 := by rw [List.length_append]; omega
        refine ⟨p, D', _, _, rfl, rfl, s6 _ _ (s5 _ _ upd_same), gD', small zz, fun p2 hp2 => ?_⟩
        have s16 := s14.trans (s5.trans s6)
        refine ⟨_, rfl, q.laid s16 hp2 fun H'' x => ?_⟩
        have x3 : Nx K H H3 H'' := x.less (s4.trans (s5.trans s6))
        have h1 := r0 H'' (x3.less (s2.trans s3))
        have h2 := (rD H'' (x3.later (s1.trans s2) s3)).imp fun _ _ z => z.less s1
        have h3 := (rD' H'' (x.later (s14.trans s5) s6)).imp fun _ _ z => z.less s14
        rw [eu0] at h1
        exact (h1.append h2).append h3
end
end KF

set_option Elab.async false
set_option linter.all false
set_option maxRecDepth 100000
set_option maxHeartbeats 4000000
namespace KF
open PySem PySem.Spec L2 TL
def mnm : Bool → Nm
  | false => .p
  | true => .q
/-- names known where programs are drawn -/
structure GoodC (l : Ctx) : Prop where
  lv : ∀ q ∈ l, q.2.leaves ≤ 4
  p_ : knownAs l .p = some (.mark false)
  q_ : knownAs l .q = some (.mark true)
theorem GoodC.snoc {l : Ctx} (h : GoodC l) {x : Nm} {k : Kd} (n1 : x ≠ .p) (n2 : x ≠ .q) (hk : k.leaves ≤ 4) : GoodC (l ++ [(x, k)]) :=
  ⟨fun q hq => by
    rcases List.mem_append.mp hq with hq | hq
    · exact h.lv q hq
    · cases List.mem_singleton.mp hq; exact hk, by rw [knownAs_snoc, if_neg n1]; exact h.p_, by rw [knownAs_snoc, if_neg n2]; exact h.q_⟩
/-- parts of what is no display at most -/
def cB : Nat → Nat
  | 0 => 1
  | r + 1 => 1 + 12 * (cB r + 1)
theorem cB_pos (r : Nat) : 1 ≤ cB r := by cases r <;> rw [cB] <;> omega
structure DrOK (l : Ctx) (k : Kd) (r : Nat) (p : Pg) : Prop where
  kn : kindIn l p = some k
  kd : p.kdeep ≤ 4
  pt : parts p + 1 ≤ (cB r + 1) * k.leaves
theorem bound_names {i : Nat} (h : i < 5) : ∃ x : Nm, ([V.str "u", V.str "v", V.str "x0", V.str "x7", V.str "f"] : List V)[i]? = some (.str x.str) ∧ x ≠ .p ∧ x ≠ .q := match i, h with
  | 0, _ => ⟨.u, rfl, by decide, by decide⟩
  | 1, _ => ⟨.v, rfl, by decide, by decide⟩
  | 2, _ => ⟨.x 0, by rw [show (Nm.x 0).str = ("x0" : Str) by decide +kernel]; rfl, by decide, by decide⟩
  | 3, _ => ⟨.x 7, by rw [show (Nm.x 7).str = ("x7" : Str) by decide +kernel]; rfl, by decide, by decide⟩
  | 4, _ => ⟨.f, rfl, by decide, by decide⟩
theorem node_pt {c a b m n : Nat} (h1 : m + 1 ≤ (c + 1) * a) (h2 : n + 1 ≤ (c + 1) * b) : 1 + (m + n) + 1 ≤ (c + 1) * (a + b) := by
  rw [Nat.mul_add]; omega
theorem take_pt {c a b m : Nat} (h1 : m + 1 ≤ (c + 1) * b) (h : 1 ≤ a) : 1 + m + 1 ≤ (c + 1) * (a + b) := by
  rw [Nat.mul_add]
  have := Nat.mul_le_mul (Nat.le_refl (c + 1)) h
  omega
theorem leaf_pt {r a : Nat} (h : 1 ≤ a) : 1 + 1 ≤ (cB r + 1) * a := by
  have := Nat.mul_le_mul (Nat.le_refl (cB r + 1)) h
  have := cB_pos r
  omega
section
variable {P : Program} {w : World} {K : PySem.W.Frag} {mg : Str → Option Value} {base : Heap}
def spProg (K : PySem.W.Frag) (n : Nat) : Sp := fun vs H Q _ => ∃ (a b : Addr) (gv : V) (r : Nat) (l : Ctx) (ws : List V) (k : Kd), vs = [.ref a, .ref b, gv, .int r] ∧ PoAt H a ∧ H b = some (.lst ws) ∧ All2 (NmAt K H) l ws ∧ KdAt K H k gv ∧ 5 * r + k.leaves ≤ n ∧ k.leaves ≤ 4 ∧ GoodC l ∧ l.length + n ≤ 100 ∧
  ∀ p v H', But a H H' → PoAt H' a → PgAt K H' p v → DrOK l k r p → Q v H'
theorem nm_ne {H : Hp} {a b : Addr} {ws : List V} {l : Ctx} (hp : PoAt H a) (hb : H b = some (.lst ws)) (hl : All2 (NmAt K H) l ws) : b ≠ a := hp.ne hb fun i e => by
  obtain ⟨x, _, t, y, z, _⟩ := hl.getV e
  cases z
theorem ok_made_of (T : Tx w K mg) (n : Nat) (G : Df P w K mg base CX0 (2 * n + 10) "_law_program" ["_law_pool_here", "_law_known", "_law_goal", "_law_room"] [] (spProg K n)) :
    Df P w K mg base CX0 (2 * n + 11) "_law_made" ["_law_pool_here", "_law_known", "_law_goal", "_law_room"] [] (spProg K (n + 1)) := by
  have GT := (ok_take (P := P) (base := base) T).mono (show 1 ≤ 2 * n + 10 by omega)
  refine df0 T.d_law_made T.g_law_made sc_law_made (fun _ _ _ _ _ _ us hl => match us, hl with | [_, _, _, _], _ => rfl) (fun vs H Q E h => ?_) (fun cdv A outer sh H vs Q E hr h => ?_)
  · obtain ⟨a, b, gv, r, l, ws, k, rfl, _⟩ := h
    rfl
  obtain ⟨a, b, gv, r, l, ws, k, rfl, hp, hb, hl, hk, hn, hk4, hg, hz, q⟩ := h
  have ba := nm_ne hp hb hl
  have wl := hl.length
  refine ⟨_, (pss_cons (ps_if (pt_tag (pv 2) mono_var) (pss_one (ps_ret (pe_tup (pa_cons pe_str pa_nil)))) pss_nil) (pss_cons (ps_if (pt_tag (pv 2) mono_var) (pss_one (ps_ret (pe_tup (pa_cons pe_str (pa_cons (pe_ix ix_list (pe_lst (pa_cons pe_str (pa_cons pe_str pa_nil))) (pe_callTy call_int1 rfl T.n_int (by decide +kernel) (pa_cons (pe_cmpR op_eq (pv_at 2 1) pe_str (nomark _)) pa_nil)) (fun _ _ => rfl)) pa_nil))))) pss_nil) (pss_cons (ps_if (pt_tag (pv 2) mono_var) (pss_one (ps_ret (pe_tup (pa_cons pe_str (pa_cons (cal G hr pass0 (pa_cons (pv 0) (pa_cons (pv 1) (pa_cons (pv_at 2 1) (pa_cons (pv 3) pa_nil))))) (pa_cons (cal G hr pass0 (pa_cons (pv 0) (pa_cons (pv 1) (pa_cons (pv_at 2 2) (pa_cons (pv 3) pa_nil))))) pa_nil)))))) pss_nil) (pss_cons (ps_set (i := 4) sc_law_made.nd rfl (.inl rfl) (pe_ix ix_list (pe_lst (pa_cons pe_str (pa_cons pe_str (pa_cons pe_str (pa_cons pe_str (pa_cons pe_str pa_nil)))))) (cal GT hr pass0 (pa_cons (pv 0) (pa_cons pe_int pa_nil))) (fun _ _ => rfl))) (pss_one (ps_ret (pe_tup (pa_cons pe_str (pa_cons (pv 4) (pa_cons (pv_at 2 1) (pa_cons (cal G hr pass0 (pa_cons (pv 0) (pa_cons (pe_op op_cat (pv 1) (pe_lst (pa_cons (pe_tup (pa_cons (pv 4) (pa_cons (pv_at 2 1) pa_nil))) pa_nil))) (pa_cons (pv_at 2 2) (pa_cons (pv 3) pa_nil))))) pa_nil))))))))))), ?_⟩
  cases k with
  | one =>
    obtain ⟨c, rfl, t⟩ := hk
    refine ⟨_, rfl, c, _, _, rfl, t, ifT (by decide +kernel) ⟨sz1, fun p hpn => ?_⟩⟩
    have s := same_new hpn (.tup [.str "thing"])
    exact q .thing (.ref p) _ (.of s) (hp.same s) ⟨p, rfl, .of upd_same⟩ ⟨rfl, Nat.zero_le _, leaf_pt (Nat.le_refl 1)⟩
  | mark m =>
    obtain ⟨c, rfl, t⟩ := hk
    refine ⟨_, rfl, c, _, _, rfl, t, ifF (by decide +kernel) ⟨_, rfl, c, _, _, rfl, t, ifT (by decide +kernel) ?_⟩⟩
    refine ⟨sz2, fun d hd => ?_⟩
    have s1 := same_new hd (.lst [.str "p", .str "q"])
    refine ⟨_, rfl, c, _, _, rfl, s1.tup t, rfl, rfl, .inr ⟨_, rfl, d, _, _, .str (mnm m).str, rfl, rfl, .of upd_same, ?_, sz2, fun p hpn => ?_⟩⟩
    · cases m
      · rw [show decide (V.str (mstr false) = V.str "b") = false by rw [dec_str]; decide +kernel]; exact atI_nat (j := 0) rfl
      · rw [show decide (V.str (mstr true) = V.str "b") = true by rw [dec_str]; decide +kernel]; exact atI_nat (j := 1) rfl
    · have s2 := same_new hpn (.tup [.str "name", .str (mnm m).str])
      have s := s1.trans s2
      refine q (.name (mnm m)) (.ref p) _ (.of s) (hp.same s) ⟨p, rfl, .of upd_same⟩ ⟨?_, Nat.zero_le _, leaf_pt (Nat.le_refl 1)⟩
      cases m
      · exact hg.p_
      · exact hg.q_
  | both k1 k2 =>
    obtain ⟨c, y, z, rfl, t, hy, hz'⟩ := hk
    have hn' : 5 * r + (k1.leaves + k2.leaves) ≤ n + 1 := hn
    have hk4' : k1.leaves + k2.leaves ≤ 4 := hk4
    have d1 := k1.depth_lt
    have d2 := k2.depth_lt
    refine ⟨_, rfl, c, _, _, rfl, t, ifF (by decide +kernel) ⟨_, rfl, c, _, _, rfl, t, ifF (by decide +kernel) ⟨_, rfl, c, _, _, rfl, t, ifT (by decide +kernel) ?_⟩⟩⟩
    refine ⟨_, rfl, _, rfl, _, rfl, c, _, _, rfl, t, rfl, _, rfl, a, b, y, r, l, ws, k1, rfl, hp, hb, hl, hy, by omega, by omega, hg, by omega, fun p1 v1 H1 b1 o1 a1 dr1 => ?_⟩
    have ts1 := hp.ts (K := K) b1
    refine ⟨_, rfl, _, rfl, _, rfl, c, _, _, rfl, ts1 _ _ t, rfl, _, rfl, a, b, z, r, l, ws, k2, rfl, o1, b1 _ _ ba hb, hl.imp fun _ _ h => h.ts ts1, hz'.ts ts1, by omega, by omega, hg, by omega, fun p2 v2 H2 b2 o2 a2 dr2 => ⟨sz3, fun p hpn => ?_⟩⟩
    have s := same_new hpn (.tup [.str "pair", v1, v2])
    refine q (.pair p1 p2) (.ref p) _ ((b1.trans b2).same s) (o2.same s) ⟨p, v1, v2, rfl, .of upd_same, (a1.ts (o1.ts b2)).same s, a2.same s⟩ ⟨kin_pair.mpr ⟨k1, k2, rfl, dr1.kn, dr2.kn⟩, ?_, node_pt dr1.pt dr2.pt⟩
    have := dr1.kd
    have := dr2.kd
    show max p1.kdeep p2.kdeep ≤ 4
    omega
  | to k1 k2 =>
    obtain ⟨c, y, z, rfl, t, hy, hz'⟩ := hk
    have hn' : 5 * r + (k1.leaves + k2.leaves) ≤ n + 1 := hn
    have hk4' : k1.leaves + k2.leaves ≤ 4 := hk4
    have d1 := k1.depth_lt
    have d2 := k2.depth_lt
    refine ⟨_, rfl, c, _, _, rfl, t, ifF (by decide +kernel) ⟨_, rfl, c, _, _, rfl, t, ifF (by decide +kernel) ⟨_, rfl, c, _, _, rfl, t, ifF (by decide +kernel) ?_⟩⟩⟩
    refine ⟨sz5, fun d hd => ?_⟩
    have s1 := same_new hd (.lst [.str "u", .str "v", .str "x0", .str "x7", .str "f"])
    have da : d ≠ a := (hp.same s1).ne upd_same (by intro i e; cases e)
    refine ⟨_, rfl, a, 5, rfl, hp.same s1, by decide, by decide, fun i H1 hi b1 o1 => ?_⟩
    obtain ⟨x, hx, n1, n2⟩ := bound_names hi
    have b01 : But a H H1 := (But.of s1).trans b1
    have ts1 := hp.ts (K := K) b01
    refine ⟨d, _, _, _, rfl, rfl, .of (b1 _ _ da upd_same), atI_nat hx, ?_⟩
    refine ⟨_, rfl, _, rfl, c, _, _, rfl, ts1 _ _ t, rfl, _, rfl, _, rfl, _, rfl, _, rfl, c, _, _, rfl, ts1 _ _ t, rfl, sz2, fun e he => ⟨sz1, fun f hf => ?_⟩⟩
    have s2 := same_new he (.tup [.str x.str, y])
    have s3 := same_new hf (.lst [.ref e])
    refine ⟨b, f, _, _, rfl, rfl, s3 _ _ (s2 _ _ (b01 _ _ ba hb)), upd_same, small (by show ws.length + 1 ≤ _; omega), fun g hgn => ?_⟩
    have s4 := same_new hgn (.lst (ws ++ [.ref e]))
    have s24 := s2.trans (s3.trans s4)
    have ts4 := ts1.trans s24.ts
    refine ⟨_, rfl, c, _, _, rfl, ts4 _ _ t, rfl, _, rfl, a, g, z, r, l ++ [(x, k1)], ws ++ [.ref e], k2, rfl, o1.same s24, upd_same, (hl.imp fun _ _ h => h.ts ts4).snoc ⟨e, y, rfl, (s3.trans s4).tup (.of upd_same), hy.ts ts4⟩, hz'.ts ts4, by omega, by omega, hg.snoc n1 n2 (by omega), by rw [List.length_append, List.length_singleton]; omega, fun p1 v1 H2 b2 o2 a1 dr1 => ⟨sz4, fun p hpn => ?_⟩⟩
    have s := same_new hpn (.tup [.str "take", .str x.str, y, v1])
    have o4 := o1.same s24
    refine q (.take x k1 p1) (.ref p) _ (((b01.same s24).trans b2).same s) (o2.same s) ⟨p, y, v1, rfl, .of upd_same, ((hy.ts ts4).ts (o4.ts b2)).same s, a1.same s⟩ ⟨kin_take.mpr ⟨k2, rfl, dr1.kn⟩, ?_, take_pt dr1.pt (by omega)⟩
    have := dr1.kd
    show max (k1.depth + 1) p1.kdeep ≤ 4
    omega
end
end KF

set_option Elab.async false
set_option linter.all false
set_option maxRecDepth 100000
set_option maxHeartbeats 4000000
namespace KF
open PySem PySem.Spec L2 TL
section
variable {P : Program} {w : World} {K : PySem.W.Frag} {mg : Str → Option Value} {base : Heap}
theorem All2.comp {α : Type} {R : α → V → Prop} {S : V → V → Prop} : ∀ {l : List α} {vs ws : List V}, All2 R l vs → All2 S vs ws → All2 (fun x w => ∃ v, R x v ∧ S v w) l ws
  | [], [], [], _, _ => trivial
  | [], [], _ :: _, _, h => h.elim
  | [], _ :: _, _, h, _ => h.elim
  | _ :: _, [], _, h, _ => h.elim
  | _ :: _, _ :: _, [], _, h => h.elim
  | _ :: _, v :: _, _ :: _, h, h' => ⟨⟨v, h.1, h'.1⟩, All2.comp h.2 h'.2⟩
/-- a name and how it is used -/
def UsAt (K : PySem.W.Frag) (B H : Hp) (u : Nm × List Mv) (v : V) : Prop := ∃ t y, v = .ref t ∧ SqT K H t [.str u.1.str, y] ∧ LsN K B H u.2 y
def usD (u : Nm × List Mv) : PyData := .tuple [.str u.1.str, .list (u.2.map Mv.dat)]
theorem mvs_dp {K : PySem.W.Frag} {H : Hp} {ms : List Mv} {vs : List V} (h : All2 (MvAt K H) ms vs) : DpAll K H vs (ms.map Mv.dat) := All2.dp (f := Mv.dat) (fun m v q => MvAt.dp q) h
theorem UsAt.dp {K : PySem.W.Frag} {B H : Hp} {u : Nm × List Mv} {v : V} (h : UsAt K B H u v) : Dp K H v (usD u) := by
  obtain ⟨t, y, rfl, ht, a, vs, rfl, _, ha, hm⟩ := h
  exact .tup ht (.cons (.str _) (.cons (.lst (.of ha) (mvs_dp hm)) .nil))
theorem usD_lay (u : Nm × List Mv) : (usD u).canLay0 = true := by
  have h : PyData.canLayAll0 (u.2.map Mv.dat) = true := lays_all Mv.lays _
  simp only [usD, PyData.canLay0, PyData.canLayAll0, u.1.low.ok, h]
  decide +kernel
structure UsOK (l : Ctx) (g : Kd) (u : Nm × List Mv) : Prop where
  ex : ∃ κ, knownAs l u.1 = some κ ∧ Fol κ u.2 g
  len : u.2.length ≤ 3
  kds : ∀ c, Mv.kd c ∈ u.2 → c.leaves ≤ 4
theorem knownAs_in {l : Ctx} {x : Nm} {k : Kd} (h : knownAs l x = some k) : ∃ q ∈ l, q.2 = k := ⟨_, knownAs_mem h, rfl⟩
theorem uses_ok {l : Ctx} {g κ : Kd} {x : Nm} {e : List Mv} (hg : GoodC l) (hx : knownAs l x = some κ) (he : e ∈ usesOf g κ) : UsOK l g (x, e) := by
  obtain ⟨q, hq, rfl⟩ := knownAs_in hx
  have h4 := hg.lv q hq
  have hd := q.2.depth_lt
  obtain ⟨h1, h2⟩ := uses_in he
  exact ⟨⟨_, hx, uses_fol he⟩, by show e.length ≤ 3; omega, fun c hc => by have := h2 c hc; omega⟩
def spUsed (K : PySem.W.Frag) (n : Nat) : Sp := fun vs H Q _ => ∃ (a b : Addr) (gv : V) (r : Nat) (l : Ctx) (ws : List V) (k : Kd), vs = [.ref a, .ref b, gv, .int ((r + 1 : Nat) : Int)] ∧ PoAt H a ∧ H b = some (.lst ws) ∧ All2 (NmAt K H) l ws ∧ KdAt K H k gv ∧ 5 * (r + 1) + k.leaves ≤ n ∧ k.leaves ≤ 4 ∧ GoodC l ∧ l.length + n ≤ 100 ∧
  (∀ H', Same H H' → Q .non H') ∧ ∀ p v H', But a H H' → PoAt H' a → PgAt K H' p v → kindIn l p = some k → p.kdeep ≤ 4 → parts p ≤ cB (r + 1) → Q v H'
theorem ok_used_of (T : Tx w K mg) (n : Nat) (G : Df P w K mg base CX0 (2 * n + 10) "_law_program" ["_law_pool_here", "_law_known", "_law_goal", "_law_room"] [] (spProg K n)) :
    Df P w K mg base CX0 (2 * n + 11) "_law_used" ["_law_pool_here", "_law_known", "_law_goal", "_law_room"] [] (spUsed K (n + 1)) := by
  have GT := (ok_take (P := P) (base := base) T).mono (show 1 ≤ 2 * n + 10 by omega)
  have GS := (ok_seen (P := P) (base := base) T).mono (show 1 ≤ 2 * n + 10 by omega)
  have GU := (ok_uses (P := P) (base := base) T 4).mono (show 4 ≤ 2 * n + 10 by omega)
  refine df0 T.d_law_used T.g_law_used sc_law_used (fun _ _ _ _ _ _ us hl => match us, hl with | [_, _, _, _], _ => rfl) (fun vs H Q E h => ?_) (fun cdv A outer sh H vs Q E hr h => ?_)
  · obtain ⟨a, b, gv, r, l, ws, k, rfl, _⟩ := h
    rfl
  obtain ⟨a, b, gv, r, l, ws, k, rfl, hp, hb, hl, hk, hn, hk4, hg, hz, qn, q⟩ := h
  have ba := nm_ne hp hb hl
  have wl := hl.length
  have kd := k.depth_lt
  refine ⟨_, (pss_cons (ps_set (i := 4) sc_law_used.nd rfl (.inl rfl) (pe_lst pa_nil)) (pss_cons (ps_for PassesOwn.never rfl (pi_list (cal GS hr pass0 (pa_cons (pv 1) pa_nil))) (pg_tup rfl (pgs_cons (pg_name (i := 5) sc_law_used.nd rfl (Or.inr rfl)) (pgs_cons (pg_name (i := 6) sc_law_used.nd rfl (Or.inl rfl)) pgs_nil)))
      (pss_one (ps_set (i := 4) sc_law_used.nd rfl (.inl rfl) (pe_op op_cat (pv 4) (pe_lc (own := [("_law_moves", 9)]) (g := gName 9) (tt := tYes) (te := tTup (tCons (tVar 5) (tCons (tVar 9) tNil))) rfl sc_law_used.nd (pi_list (cal GU hr pass0 (pa_cons (pv 6) (pa_cons (pv 2) (pa_cons (pv 5) pa_nil)))))
            (blkOk_by (own := [("_law_moves", 9)]) (N := ["_law_pool_here", "_law_known", "_law_goal", "_law_room", "_law_some", "_law_name", "_law_kind_here", "_law_found", "_law_move", "_law_moves"]) (sc := defScope s_law_used) (by decide +kernel))
            (fun _ _ _ _ _ => pg_name (i := 9) sc_law_used.nd rfl (Or.inl rfl)) (fun _ _ _ _ _ => pts_nil) (fun _ _ _ _ _ => pe_tup (pa_cons (pv 5) (pa_cons (pv 9) pa_nil)))))))) (pss_cons (ps_if (pt_cmpR (op_eqNil hr.u64) (pv 4) (pe_lst pa_nil) (nomark _)) (pss_one (ps_ret pe_non)) pss_nil) (pss_cons (ps_asg (pe_ix ix_list (pv 4) (cal GT hr pass0 (pa_cons (pv 0) (pa_cons (pe_callB call_len_seq rfl T.n_len PySem.boot_len (pa_cons (pv 4) pa_nil)) pa_nil))) (fun _ _ => rfl)) (pg_tup rfl (pgs_cons (pg_name (i := 5) sc_law_used.nd rfl (Or.inr rfl)) (pgs_cons (pg_name (i := 9) sc_law_used.nd rfl (Or.inl rfl)) pgs_nil)))) (pss_cons (ps_set (i := 7) sc_law_used.nd rfl (.inl rfl) (pe_tup (pa_cons pe_str (pa_cons (pv 5) pa_nil)))) (pss_cons (ps_for PassesOwn.never rfl (pi_list (pv 9)) (pg_name (i := 8) sc_law_used.nd rfl (Or.inl rfl))
      (pss_one (ps_if (PW.pt (pw_or (pt_cmpR (op_eqX hr.u) (pv 8) pe_int (nomark _)) (pw_or1 (pt_cmpR (op_eqX hr.u) (pv 8) pe_int (nomark _)))))
          (pss_one (ps_set (i := 7) sc_law_used.nd rfl (.inl rfl) (pe_tup (pa_cons (pe_ix ix_list (pe_lst (pa_cons pe_str (pa_cons pe_str pa_nil))) (pe_op op_sub (pv 8) pe_int) (fun _ _ => rfl)) (pa_cons (pv 7) pa_nil)))))
          (pss_one (ps_set (i := 7) sc_law_used.nd rfl (.inl rfl) (pe_tup (pa_cons pe_str (pa_cons (pv 7) (pa_cons (cal G hr pass0 (pa_cons (pv 0) (pa_cons (pv 1) (pa_cons (pv 8) (pa_cons (pe_op op_sub (pv 3) pe_int) pa_nil))))) pa_nil))))))))) (pss_one (ps_ret (pv 7))))))))), ?_⟩
  refine ⟨sz0, fun p0 hp0 => ?_⟩
  have s0 := same_new hp0 (.lst [])
  refine ⟨_, rfl, b, l, ws, rfl, s0 _ _ hb, hl.imp fun _ _ h => h.same s0, by omega, fun sp us L H1 s1 nsp gsp hL hLl hLk => ⟨sp, rfl, ⟨us, .of gsp⟩, ?_⟩⟩
  have s01 := s0.trans s1
  have usl := hL.length
  refine for_list (xs := us) (fun j σ H2 => Same H1 H2 ∧ ∃ (z5 z6 : Option V) (p4 : Addr) (U : List (Nm × List Mv)) (vs : List V), σ = [some (.ref a), some (.ref b), some gv, some (.int ((r + 1 : Nat) : Int)), some (.ref p4), z5, z6, none, none, none] ∧ H p4 = none ∧ H2 p4 = some (.lst vs) ∧ (∀ H'', Nx K H H2 H'' → All2 (UsAt K H H'') U vs) ∧ (∀ u ∈ U, UsOK l k u) ∧ U.length ≤ 8 * j)
    ⟨.refl _, none, none, p0, [], [], rfl, hp0, s1 _ _ upd_same, fun _ _ => trivial, (fun u hu => by cases hu), Nat.zero_le _⟩ (fun j σ H2 _ h => .of (h.1 _ _ gsp)) ?_ ?_
  · rintro j x σ H2 hx ⟨s2, z5, z6, p4, U, vs, rfl, np4, g4, hU, hok, hUl⟩
    have s02 := s01.trans s2
    have hj : j < L.length := by rw [← usl]; exact (List.getElem?_eq_some_iff.mp hx).1
    have hq := List.getElem?_eq_getElem hj
    obtain ⟨x', e1, t, y, rfl, ht, hy⟩ := (hL.imp fun _ _ h => h.same s2).get hq
    obtain rfl : V.ref t = x := Option.some.inj (e1.symm.trans hx)
    have hkn := hLk _ (List.getElem_mem hj)
    obtain ⟨q0, hq0, eq0⟩ := knownAs_in hkn
    have h4 : L[j].2.leaves ≤ 4 := by rw [← eq0]; exact hg.lv _ hq0
    have hd4 := L[j].2.depth_lt
    have ul := uses_le k L[j].2
    refine ⟨t, _, rfl, ht, rfl, _, _, rfl, _, _, rfl, rfl, ?_⟩
    refine ⟨_, rfl, _, rfl, _, rfl, _, rfl, y, gv, _, L[j].2, k, rfl, hy, hk.same s02, by omega, by omega, fun b3 l3 H3 s3 n3 g3 r3 => ?_⟩
    have m3 := (r3 H3 (.self s3)).length
    refine ⟨b3, rfl, ⟨_, .of g3⟩, fun D hD => ?_⟩
    refine lc_build (K := K) (walk_list (xs := l3)) (fun H'' (y : V) v => ∃ t, v = V.ref t ∧ SqT K H'' t [.str L[j].1.str, y]) l3 rfl (by omega) hD (fun H' s' => .of (s' _ _ g3)) (fun i c x H4 H5 Q2 hb4 s4 hY q2 => ?_) (fun H4 ys s4 gD rD => ?_)
    · obtain ⟨rfl, hx4⟩ := hY
      obtain rfl : c = x := Option.some.inj (hb4.symm.trans hx4)
      refine ⟨rfl, _, rfl, _, rfl, sz2, fun p hpn => ?_⟩
      have s5 := same_new hpn (.tup [.str L[j].1.str, c])
      exact q2 _ _ s5 fun H'' x => ⟨p, rfl, x.tup s5 (.of upd_same)⟩
    · have k4 := (rD H4 (.self s4)).length
      have kU := (hU H2 (.self s02)).length
      refine ⟨p4, D, _, _, rfl, rfl, s4 _ _ (s3 _ _ g4), gD, small (by omega), fun p hpn => ?_⟩
      have s5 := same_new hpn (.lst (vs ++ ys))
      have s25 := s2.trans (s3.trans (s4.trans s5))
      refine ⟨s25, _, _, p, U ++ (usesOf k L[j].2).map fun e => (L[j].1, e), vs ++ ys, rfl, s02.free (s3.free (s4.free hpn)), upd_same, fun H'' x => ?_, fun u hu => ?_, ?_⟩
      · have h1 := hU H'' (x.less (s3.trans (s4.trans s5)))
        have h2 := rD H'' ((x.less s5).later (s02.trans s3) s4)
        have h3 := r3 H'' ((x.less (s4.trans s5)).later s02 s3)
        refine h1.append (All2.map ((h3.comp h2).imp fun e v ⟨y, e1, t, e2, e3⟩ => ⟨t, y, e2, e3, e1.less s02⟩))
      · rcases List.mem_append.mp hu with hu | hu
        · exact hok u hu
        · obtain ⟨e, he, rfl⟩ := List.mem_map.mp hu
          exact uses_ok hg hkn he
      · rw [List.length_append, List.length_map]; omega
  · rintro σ H2 ⟨s2, z5, z6, p4, U, vs, rfl, np4, g4, hU, hok, hUl⟩
    have s02 := s01.trans s2
    refine ⟨_, rfl, sz0, fun c hc => ?_⟩
    have sc := same_new hc (.lst [])
    have s0c := s02.trans sc
    have aU := hU _ (.same s02 sc)
    have aUl := aU.length
    refine ⟨p4, c, _, vs, rfl, rfl, .of (sc _ _ g4), All2.dp (f := usD) (fun u v h => UsAt.dp h) aU, lays_all usD_lay _, .of upd_same, _, rfl, ?_⟩
    match U, vs, aUl, hok, hU, g4, hUl with
    | [], [], _, _, _, _, _ => exact ifT rfl (qn _ s0c)
    | [], _ :: _, z, _, _, _, _ => cases z
    | _ :: _, [], z, _, _, _, _ => cases z
    | u0 :: U, v0 :: vs, aUl, hok, hU, g4, hUl =>
    refine ifF rfl ?_
    have p4a : p4 ≠ a := fun e => by obtain ⟨z, y, e2, _⟩ := hp; rw [← e, np4] at e2; cases e2
    refine ⟨_, rfl, _, rfl, _, rfl, p4, _, rfl, .inl (.of (sc _ _ g4)), a, (v0 :: vs).length, rfl, hp.same s0c, Nat.succ_pos _, by rw [aUl]; omega, fun i H3 hi b3 o3 => ?_⟩
    have b03 : But a H H3 := (But.of s0c).trans b3
    have nx3 : Nx K H H2 H3 := ⟨hp.ts b03, fun x o n e => b3 _ _ (fun z => by rw [z] at n; obtain ⟨z, y, e2, _⟩ := hp; rw [n] at e2; cases e2) (sc _ _ e)⟩
    have hi' : i < (u0 :: U).length := by omega
    have hq := List.getElem?_eq_getElem hi'
    obtain ⟨v, hv, t, y, rfl, ht, c9, l9, rfl, n9, g9, a9⟩ := (hU H3 nx3).get hq
    have hu := hok _ (List.getElem_mem hi')
    revert ht a9 hu
    generalize (u0 :: U)[i] = u
    obtain ⟨x, mv⟩ := u
    intro ht a9 hu
    obtain ⟨⟨κ, hκ, hfol⟩, hmv, hmk⟩ := hu
    refine ⟨p4, _, _, _, rfl, rfl, .of (b3 _ _ p4a (sc _ _ g4)), atI_nat hv, t, _, rfl, ht, rfl, _, _, rfl, _, _, rfl, rfl, ?_⟩
    refine ⟨_, rfl, sz2, fun p5 hp5 => ?_⟩
    have s5 := same_new hp5 (.tup [.str "name", .str x.str])
    have c9a : c9 ≠ a := fun e => by obtain ⟨z, y, e2, _⟩ := hp; rw [← e, n9] at e2; cases e2
    have mvl := a9.length
    refine ⟨_, rfl, c9, rfl, ⟨_, .of (s5 _ _ g9)⟩, ?_⟩
    refine for_list (xs := l9) (fun j σ H4 => But a (upd H3 p5 (.tup [.str "name", .str x.str])) H4 ∧ PoAt H4 a ∧ ∃ (z8 : Option V) (v1 : V) (p1 : Pg) (κ' : Kd), σ = [some (.ref a), some (.ref b), some gv, some (.int ((r + 1 : Nat) : Int)), some (.ref p4), some (.str x.str), z6, some v1, z8, some (.ref c9)] ∧
        PgAt K H4 p1 v1 ∧ kindIn l p1 = some κ' ∧ Fol κ' (mv.drop j) k ∧ p1.kdeep ≤ 4 ∧ parts p1 ≤ 1 + j * (4 * (cB r + 1)))
      ⟨.of (.refl _), o3.same s5, none, _, .name x, κ, rfl, ⟨p5, rfl, .of upd_same⟩, hκ, hfol, Nat.zero_le _, by show 1 ≤ _; omega⟩ (fun j σ H4 _ h => .of (h.1 _ _ c9a (s5 _ _ g9))) ?_ ?_
    · rintro j vm σ H4 hx ⟨b4, o4, z8, v1, p1, κ', rfl, hp1, hk1, hf1, hd1, hz1⟩
      have hj : j < mv.length := by rw [← mvl]; exact (List.getElem?_eq_some_iff.mp hx).1
      have hq2 := List.getElem?_eq_getElem hj
      have b04 : But a H H4 := (b03.same s5).trans b4
      obtain ⟨vm', e1, hm⟩ := (a9.imp fun _ _ h => h.ts (s5.ts.trans ((o3.same s5).ts b4))).get hq2
      obtain rfl : vm' = vm := Option.some.inj (e1.symm.trans hx)
      rw [List.drop_eq_getElem_cons hj] at hf1
      have hmem := List.getElem_mem hj
      revert hf1 hm hmem
      revert hq2
      generalize mv[j] = m
      intro hq2 hf1 hm hmem
      have cb : 1 + (j + 1) * (4 * (cB r + 1)) = 1 + j * (4 * (cB r + 1)) + 4 * (cB r + 1) := by rw [Nat.add_mul, Nat.one_mul]; omega
      refine ⟨_, rfl, m.dat, .int 1, hm.dp, .int 1, m.lays, lay_i 1, Mv.lay_depth _ _, _, rfl, ?_⟩
      rw [mv_ev1]
      have bb : But a H H4 := b04
      cases m with
      | one =>
        obtain rfl : vm' = .int 1 := hm
        match κ', hf1, hk1 with
        | .both k1 k2, hf1, hk1 =>
        have hf2 : Fol k1 (mv.drop (j + 1)) k := hf1
        refine ifT (by decide) ⟨sz2, fun d hd => ⟨_, rfl, _, _, rfl, rfl, d, _, _, .str "first", rfl, rfl, .of upd_same, atI_nat (j := 0) rfl, _, rfl, sz2, fun p6 hp6 => ?_⟩⟩
        have s6 := (same_new hd (.lst [.str "first", .str "second"])).trans (same_new hp6 (.tup [.str "first", v1]))
        exact ⟨b4.same s6, o4.same s6, _, _, .first p1, k1, rfl, ⟨p6, v1, rfl, .of upd_same, hp1.same s6⟩, kin_first.mpr ⟨k2, hk1⟩, hf2, hd1, by show 1 + parts p1 ≤ _; omega⟩
      | two =>
        have hmd := MvAt.dp (m := .two) hm
        obtain rfl : vm' = .int 2 := hm
        match κ', hf1, hk1 with
        | .both k1 k2, hf1, hk1 =>
        have hf2 : Fol k2 (mv.drop (j + 1)) k := hf1
        refine ifF (by decide) ⟨_, rfl, Mv.two.dat, .int 2, hmd, .int 2, Mv.two.lays, lay_i 2, Mv.lay_depth _ _, _, rfl, ?_⟩
        rw [mv_ev2]
        refine ifT (by decide) ⟨sz2, fun d hd => ⟨_, rfl, _, _, rfl, rfl, d, _, _, .str "second", rfl, rfl, .of upd_same, atI_nat (j := 1) rfl, _, rfl, sz2, fun p6 hp6 => ?_⟩⟩
        have s6 := (same_new hd (.lst [.str "first", .str "second"])).trans (same_new hp6 (.tup [.str "second", v1]))
        exact ⟨b4.same s6, o4.same s6, _, _, .second p1, k2, rfl, ⟨p6, v1, rfl, .of upd_same, hp1.same s6⟩, kin_second.mpr ⟨k1, hk1⟩, hf2, hd1, by show 1 + parts p1 ≤ _; omega⟩
      | kd c =>
        match κ', hf1, hk1 with
        | .to k1 k2, hf1, hk1 =>
        obtain ⟨rfl, hf2⟩ : c = k1 ∧ Fol k2 (mv.drop (j + 1)) k := hf1
        have hc4 := hmk c (List.mem_of_getElem? ‹mv[j]? = some (Mv.kd c)›)
        refine ifF (decide_eq_false fun z => by cases z) ⟨_, rfl, (Mv.kd c).dat, .int 2, MvAt.dp (m := .kd c) hm, .int 2, (Mv.kd c).lays, lay_i 2, Mv.lay_depth _ _, _, rfl, ?_⟩
        rw [mv_ev2]
        refine ifF (decide_eq_false fun z => by cases z) ?_
        refine ⟨_, rfl, _, rfl, _, rfl, _, rfl, _, rfl, _, _, rfl, rfl, a, b, vm', r, l, ws, c, congrArg (fun i => [V.ref a, V.ref b, vm', V.int i]) (show (((r + 1 : Nat) : Int) - 1) = (r : Nat) by omega), o4, bb _ _ ba hb, hl.imp fun _ _ h => h.ts (hp.ts bb), hm, by omega, hc4, hg, by omega, fun p2 v2 H5 b5 o5 a5 dr => ⟨sz3, fun p6 hp6 => ?_⟩⟩
        have s6 := same_new hp6 (.tup [.str "give", v1, v2])
        have z2 := dr.pt
        have z3 := Nat.mul_le_mul (Nat.le_refl (cB r + 1)) hc4
        have z4 := dr.kd
        refine ⟨(b4.trans b5).same s6, o5.same s6, _, _, .give p1 p2, k2, rfl, ⟨p6, v1, v2, rfl, .of upd_same, (hp1.ts (o4.ts b5)).same s6, a5.same s6⟩, kin_give.mpr ⟨c, hk1, dr.kn⟩, hf2, by show max p1.kdeep p2.kdeep ≤ 4; omega, by show 1 + (parts p1 + parts p2) ≤ _; omega⟩
    · rintro σ H4 ⟨b4, o4, z8, v1, p1, κ', rfl, hp1, hk1, hf1, hd1, hz1⟩
      rw [mvl, List.drop_length] at hf1
      obtain rfl : κ' = k := by cases κ' <;> exact hf1
      refine ⟨_, rfl, q p1 v1 H4 ((b03.same s5).trans b4) o4 hp1 hk1 hd1 ?_⟩
      have : l9.length * (4 * (cB r + 1)) ≤ 3 * (4 * (cB r + 1)) := Nat.mul_le_mul_right _ (by rw [mvl]; exact hmv)
      rw [cB]
      omega
end
end KF

set_option Elab.async false
set_option linter.all false
set_option maxRecDepth 100000
set_option maxHeartbeats 4000000
namespace KF
open PySem PySem.Spec L2 TL
theorem leaves_pos (k : Kd) : 1 ≤ k.leaves := by have := k.depth_lt; omega
theorem pt_up {r m : Nat} (k : Kd) (h : m ≤ cB r) : m + 1 ≤ (cB r + 1) * k.leaves := by
  have := Nat.mul_le_mul (Nat.le_refl (cB r + 1)) (leaves_pos k)
  omega
theorem pt_dn {c m : Nat} {k : Kd} (h : m + 1 ≤ (c + 1) * k.leaves) (hk : k.leaves ≤ 4) : m + 1 ≤ 4 * (c + 1) := by
  have := Nat.mul_le_mul (Nat.le_refl (c + 1)) hk
  omega
section
variable {P : Program} {w : World} {K : PySem.W.Frag} {mg : Str → Option Value} {base : Heap}
theorem ok_prog_of (T : Tx w K mg) (n : Nat) (G0 : Df P w K mg base CX0 (2 * n + 10) "_law_program" ["_law_pool_here", "_law_known", "_law_goal", "_law_room"] [] (spProg K n))
    (GM : Df P w K mg base CX0 (2 * n + 11) "_law_made" ["_law_pool_here", "_law_known", "_law_goal", "_law_room"] [] (spProg K (n + 1)))
    (GU : Df P w K mg base CX0 (2 * n + 11) "_law_used" ["_law_pool_here", "_law_known", "_law_goal", "_law_room"] [] (spUsed K (n + 1))) :
    Df P w K mg base CX0 (2 * n + 12) "_law_program" ["_law_pool_here", "_law_known", "_law_goal", "_law_room"] [] (spProg K (n + 1)) := by
  have GT := (ok_take (P := P) (base := base) T).mono (show 1 ≤ 2 * n + 11 by omega)
  have GK := (ok_kind (P := P) (base := base) T 3).mono (show 5 ≤ 2 * n + 11 by omega)
  have G := G0.mono (show 2 * n + 10 ≤ 2 * n + 11 by omega)
  refine df0 T.d_law_program T.g_law_program sc_law_program (fun _ _ _ _ _ _ us hl => match us, hl with | [_, _, _, _], _ => rfl) (fun vs H Q E h => ?_) (fun cdv A outer sh H vs Q E hr h => ?_)
  · obtain ⟨a, b, gv, r, l, ws, k, rfl, _⟩ := h
    rfl
  obtain ⟨a, b, gv, r, l, ws, k, rfl, hp, hb, hl, hk, hn, hk4, hg, hz, q⟩ := h
  have ba := nm_ne hp hb hl
  have wl := hl.length
  have lp := leaves_pos k
  refine ⟨_, (pss_cons (ps_set (i := 4) sc_law_program.nd rfl (.inl rfl) (cal GT hr pass0 (pa_cons (pv 0) (pa_cons pe_int pa_nil)))) (pss_cut ( fun σ' H' => ∃ c : Nat, σ' = [some (.ref a), some (.ref b), some gv, some (.int r), some (.int c), none, none, none, none, none] ∧ But a H H' ∧ PoAt H' a ) (ps_if (PW.pt (pw_and (pt_cmpR op_gt (pv 3) pe_int (nomark _)) (pw_and1 (pt_cmpR op_lt (pv 4) pe_int (nomark _)))))
        (pss_cons (ps_set (i := 5) sc_law_program.nd rfl (.inl rfl) (pe_ix ix_list (pe_lst (pa_cons pe_str (pa_cons pe_str (pa_cons pe_str (pa_cons pe_str (pa_cons pe_str pa_nil)))))) (cal GT hr pass0 (pa_cons (pv 0) (pa_cons pe_int pa_nil))) (fun _ _ => rfl))) (pss_cons (ps_set (i := 6) sc_law_program.nd rfl (.inl rfl) (cal GK hr pass0 (pa_cons (pv 0) (pa_cons (pe_op op_add pe_int (cal GT hr pass0 (pa_cons (pv 0) (pa_cons pe_int pa_nil)))) (pa_cons (pe_lst (pa_cons pe_str (pa_cons pe_str pa_nil))) pa_nil))))) (pss_cons (ps_set (i := 7) sc_law_program.nd rfl (.inl rfl) (cal G hr pass0 (pa_cons (pv 0) (pa_cons (pe_op op_cat (pv 1) (pe_lst (pa_cons (pe_tup (pa_cons (pv 5) (pa_cons (pv 6) pa_nil))) pa_nil))) (pa_cons (pv 2) (pa_cons (pe_op op_sub (pv 3) pe_int) pa_nil)))))) (pss_one (ps_ret (pe_tup (pa_cons pe_str (pa_cons (pe_tup (pa_cons pe_str (pa_cons (pv 5) (pa_cons (pv 6) (pa_cons (pv 7) pa_nil))))) (pa_cons (cal G hr pass0 (pa_cons (pv 0) (pa_cons (pv 1) (pa_cons (pv 6) (pa_cons (pe_op op_sub (pv 3) pe_int) pa_nil))))) pa_nil))))))))) pss_nil) (pss_cut ( fun σ' H' => ∃ c : Nat, σ' = [some (.ref a), some (.ref b), some gv, some (.int r), some (.int c), none, none, none, none, none] ∧ But a H H' ∧ PoAt H' a ) (ps_if (PW.pt (pw_and (pt_cmpR op_gt (pv 3) pe_int (nomark _)) (pw_and1 (pt_cmpR op_eq (pv 4) pe_int (nomark _)))))
        (pss_cons (ps_set (i := 6) sc_law_program.nd rfl (.inl rfl) (cal GK hr pass0 (pa_cons (pv 0) (pa_cons (pe_op op_add pe_int (cal GT hr pass0 (pa_cons (pv 0) (pa_cons pe_int pa_nil)))) (pa_cons (pe_lst (pa_cons pe_str (pa_cons pe_str pa_nil))) pa_nil))))) (pss_cons (ps_set (i := 8) sc_law_program.nd rfl (.inl rfl) (pe_lst (pa_cons (cal G hr pass0 (pa_cons (pv 0) (pa_cons (pv 1) (pa_cons (pv 2) (pa_cons (pe_op op_sub (pv 3) pe_int) pa_nil))))) (pa_cons (cal G hr pass0 (pa_cons (pv 0) (pa_cons (pv 1) (pa_cons (pv 6) (pa_cons (pe_op op_sub (pv 3) pe_int) pa_nil))))) pa_nil)))) (pss_cons (ps_if (pt_cmpR op_eq (cal GT hr pass0 (pa_cons (pv 0) (pa_cons pe_int pa_nil))) pe_int (nomark _)) (pss_one (ps_ret (pe_tup (pa_cons pe_str (pa_cons (pe_tup (pa_cons pe_str (pa_cons (pe_atL 0 (pv 8) mono_var) (pa_cons (pe_atL 1 (pv 8) mono_var) pa_nil)))) pa_nil))))) pss_nil) (pss_one (ps_ret (pe_tup (pa_cons pe_str (pa_cons (pe_tup (pa_cons pe_str (pa_cons (pe_atL 1 (pv 8) mono_var) (pa_cons (pe_atL 0 (pv 8) mono_var) pa_nil)))) pa_nil)))))))) pss_nil) (pss_cons (ps_set (i := 9) sc_law_program.nd rfl (.inl rfl) pe_non) (pss_cut ( fun σ' H' => ∃ (c : Nat) (v9 : V), σ' = [some (.ref a), some (.ref b), some gv, some (.int r), some (.int c), none, none, none, none, some v9] ∧ But a H H' ∧ PoAt H' a ∧ (v9 = .non ∨ ∃ p c, v9 = .ref c ∧ PgAt K H' p v9 ∧ DrOK l k r p) ) (ps_if (PW.pt (pw_and (pt_cmpR op_gt (pv 3) pe_int (nomark _)) (pw_and1 (pt_cmpR op_lt (pv 4) pe_int (nomark _))))) (pss_one (ps_set (i := 9) sc_law_program.nd rfl (.inl rfl) (cal GU hr pass0 (pa_cons (pv 0) (pa_cons (pv 1) (pa_cons (pv 2) (pa_cons (pv 3) pa_nil))))))) pss_nil) (pss_cons (ps_if (pt_cmp (pc_isN (pv 9))) (pss_one (ps_set (i := 9) sc_law_program.nd rfl (.inl rfl) (cal GM hr pass0 (pa_cons (pv 0) (pa_cons (pv 1) (pa_cons (pv 2) (pa_cons (pv 3) pa_nil))))))) pss_nil) (pss_one (ps_ret (pv 9))))))))), ?_⟩
  refine ⟨_, rfl, a, 8, rfl, hp, by decide, by decide, fun c H1 hc b1 o1 => ⟨fun N hN => ?_, ?_⟩⟩
  · -- a function given
    have stay : N [some (.ref a), some (.ref b), some gv, some (.int r), some (.int c), none, none, none, none, none] H1 := hN _ _ ⟨c, rfl, b1, o1⟩
    refine ⟨_, rfl, _, _, rfl, rfl, _, rfl, if2 (fun e0 => ?_) fun _ => stay⟩
    refine ⟨_, rfl, _, _, rfl, rfl, _, rfl, if2 (fun _ => ?_) fun _ => stay⟩
    obtain ⟨r, rfl⟩ : ∃ r', r = r' + 1 := ⟨r - 1, by have := of_decide_eq_true e0; omega⟩
    have hroom : (((r + 1 : Nat) : Int) - 1) = (r : Nat) := by omega
    have ts1 := hp.ts (K := K) b1
    refine ⟨sz5, fun d hd => ?_⟩
    have s1 := same_new hd (.lst [.str "u", .str "v", .str "x0", .str "x7", .str "f"])
    have da : d ≠ a := (o1.same s1).ne upd_same (by intro i e; cases e)
    refine ⟨_, rfl, a, 5, rfl, o1.same s1, by decide, by decide, fun i H2 hi b2 o2 => ?_⟩
    obtain ⟨x, hx, n1, n2⟩ := bound_names hi
    have b02 : But a H H2 := (b1.same s1).trans b2
    refine ⟨d, _, _, _, rfl, rfl, .of (b2 _ _ da upd_same), atI_nat hx, ?_⟩
    refine ⟨_, rfl, _, rfl, a, 3, rfl, o2, by decide, by decide, fun j H3 hj b3 o3 => ⟨_, _, rfl, rfl, sz2, fun m hm => ?_⟩⟩
    have s3 := same_new hm (.lst [.str "a", .str "b"])
    refine ⟨a, m, 1 + j, congrArg (fun i => [V.ref a, V.int i, V.ref m]) (show (1 : Int) + (j : Nat) = ((1 + j : Nat) : Int) by omega), o3.same s3, upd_same, by omega, by omega, by omega, fun κ y H4 hκ b4 o4 a4 => ?_⟩
    have b04 : But a H H4 := ((b02.trans b3).same s3).trans b4
    have ts4 := hp.ts (K := K) b04
    refine ⟨_, rfl, _, rfl, _, rfl, _, rfl, sz2, fun e he => ⟨sz1, fun f hf => ?_⟩⟩
    have s5 := same_new he (.tup [.str x.str, y])
    have s6 := same_new hf (.lst [.ref e])
    refine ⟨b, f, _, _, rfl, rfl, s6 _ _ (s5 _ _ (b04 _ _ ba hb)), upd_same, small (by show ws.length + 1 ≤ _; omega), fun g hgn => ?_⟩
    have s7 := same_new hgn (.lst (ws ++ [.ref e]))
    have s57 := s5.trans (s6.trans s7)
    have ts7 := ts4.trans s57.ts
    have o7 := o4.same s57
    refine ⟨_, rfl, _, rfl, _, _, rfl, rfl, a, g, gv, r, l ++ [(x, κ)], ws ++ [.ref e], k, congrArg (fun i => [V.ref a, V.ref g, gv, V.int i]) hroom, o7, upd_same, (hl.imp fun _ _ h => h.ts ts7).snoc ⟨e, y, rfl, (s6.trans s7).tup (.of upd_same), a4.same s57⟩, hk.ts ts7, by omega, by omega, hg.snoc n1 n2 (by omega), by rw [List.length_append, List.length_singleton]; omega, fun p1 v1 H5 b5 o5 a5 dr1 => ?_⟩
    have b05 : But a H H5 := (b04.same s57).trans b5
    have a45 := (a4.same s57).ts (o7.ts b5)
    refine ⟨_, rfl, _, rfl, _, rfl, sz4, fun h hh => ?_⟩
    have s8 := same_new hh (.tup [.str "take", .str x.str, y, v1])
    have ts8 := (hp.ts (K := K) b05).trans s8.ts
    refine ⟨_, rfl, _, rfl, _, rfl, _, rfl, _, _, rfl, rfl, a, b, y, r, l, ws, κ, congrArg (fun i => [V.ref a, V.ref b, y, V.int i]) hroom, o5.same s8, s8 _ _ (b05 _ _ ba hb), hl.imp fun _ _ h => h.ts ts8, a45.same s8, by omega, by omega, hg, by omega, fun p2 v2 H6 b6 o6 a6 dr2 => ⟨sz3, fun p hpn => ?_⟩⟩
    have s9 := same_new hpn (.tup [.str "give", .ref h, v2])
    have t69 : TS K H5 _ := s8.ts.trans (((o5.same s8).ts b6).trans s9.ts)
    have z1 := pt_dn dr1.pt hk4
    have z2 := pt_dn dr2.pt (by omega)
    have z3 := dr1.kd
    have z4 := dr2.kd
    have dκ := κ.depth_lt
    refine q (.give (.take x κ p1) p2) (.ref p) _ (((b05.same s8).trans b6).same s9) (o6.same s9) ⟨p, .ref h, v2, rfl, .of upd_same, ⟨h, y, v1, rfl, (((o5.same s8).ts b6).trans s9.ts) _ _ (.of upd_same), a45.ts t69, a5.ts t69⟩, a6.same s9⟩ ⟨kin_give.mpr ⟨κ, kin_take.mpr ⟨k, rfl, dr1.kn⟩, dr2.kn⟩, ?_, pt_up k ?_⟩
    · show max (max (κ.depth + 1) p1.kdeep) p2.kdeep ≤ 4
      omega
    · show 1 + (1 + parts p1 + parts p2) ≤ 1 + 12 * (cB r + 1)
      omega
  rintro σ1 H1 ⟨c, rfl, b1, o1⟩
  refine ⟨fun N hN => ?_, ?_⟩
  · -- a half of a pair
    have stay : N [some (.ref a), some (.ref b), some gv, some (.int r), some (.int c), none, none, none, none, none] H1 := hN _ _ ⟨c, rfl, b1, o1⟩
    refine ⟨_, rfl, _, _, rfl, rfl, _, rfl, if2 (fun e0 => ?_) fun _ => stay⟩
    refine ⟨_, rfl, rfl, _, rfl, if2 (fun _ => ?_) fun _ => stay⟩
    obtain ⟨r, rfl⟩ : ∃ r', r = r' + 1 := ⟨r - 1, by have := of_decide_eq_true e0; omega⟩
    have hroom : (((r + 1 : Nat) : Int) - 1) = (r : Nat) := by omega
    refine ⟨_, rfl, _, rfl, a, 2, rfl, o1, by decide, by decide, fun j H3 hj b3 o3 => ⟨_, _, rfl, rfl, sz2, fun m hm => ?_⟩⟩
    have s3 := same_new hm (.lst [.str "a", .str "b"])
    refine ⟨a, m, 1 + j, congrArg (fun i => [V.ref a, V.int i, V.ref m]) (show (1 : Int) + (j : Nat) = ((1 + j : Nat) : Int) by omega), o3.same s3, upd_same, by omega, by omega, by omega, fun κ y H4 hκ b4 o4 a4 => ?_⟩
    have b04 : But a H H4 := ((b1.trans b3).same s3).trans b4
    have ts4 := hp.ts (K := K) b04
    refine ⟨_, rfl, _, rfl, _, rfl, _, rfl, _, _, rfl, rfl, a, b, gv, r, l, ws, k, congrArg (fun i => [V.ref a, V.ref b, gv, V.int i]) hroom, o4, b04 _ _ ba hb, hl.imp fun _ _ h => h.ts ts4, hk.ts ts4, by omega, by omega, hg, by omega, fun p1 v1 H5 b5 o5 a5 dr1 => ?_⟩
    have b05 := b04.trans b5
    have ts5 := hp.ts (K := K) b05
    refine ⟨_, rfl, _, rfl, _, rfl, _, rfl, _, _, rfl, rfl, a, b, y, r, l, ws, κ, congrArg (fun i => [V.ref a, V.ref b, y, V.int i]) hroom, o5, b05 _ _ ba hb, hl.imp fun _ _ h => h.ts ts5, a4.ts (o4.ts b5), by omega, by omega, hg, by omega, fun p2 v2 H6 b6 o6 a6 dr2 => ⟨sz2, fun s8 hs8 => ?_⟩⟩
    have sl := same_new hs8 (.lst [v1, v2])
    have s8a : s8 ≠ a := (o6.same sl).ne upd_same (by
      intro i e
      obtain ⟨c', _, e', _⟩ := a5.tagged
      rw [e'] at e; cases e)
    have z1 := pt_dn dr1.pt hk4
    have z2 := pt_dn dr2.pt (by omega)
    have z3 := dr1.kd
    have z4 := dr2.kd
    refine ⟨_, rfl, a, 2, rfl, o6.same sl, by decide, by decide, fun i H7 hi b7 o7 => ⟨rfl, _, rfl, if2 (fun _ => ?_) fun _ => ?_⟩⟩
    · have g7 := b7 _ _ s8a upd_same
      have b07 : But a H H7 := (((b05.trans b6).same sl).trans b7)
      have t57 : TS K H5 H7 := (o5.ts b6).trans (sl.ts.trans ((o6.same sl).ts b7))
      have t67 : TS K H6 H7 := sl.ts.trans ((o6.same sl).ts b7)
      refine ⟨_, rfl, s8, _, _, rfl, .of g7, rfl, _, rfl, s8, _, _, rfl, .of g7, rfl, sz3, fun p hpn => ⟨sz2, fun p' hpn' => ?_⟩⟩
      have s9 := same_new hpn (.tup [.str "pair", v1, v2])
      have s10 := same_new hpn' (.tup [.str "first", .ref p])
      refine q (.first (.pair p1 p2)) (.ref p') _ ((b07.same s9).same s10) ((o7.same s9).same s10) ⟨p', .ref p, rfl, .of upd_same, p, v1, v2, rfl, s10.tup (.of upd_same), ((a5.ts t57).same s9).same s10, ((a6.ts t67).same s9).same s10⟩ ⟨kin_first.mpr ⟨κ, kin_pair.mpr ⟨k, κ, rfl, dr1.kn, dr2.kn⟩⟩, ?_, pt_up k ?_⟩
      · show max p1.kdeep p2.kdeep ≤ 4
        omega
      · show 1 + (1 + (parts p1 + parts p2)) ≤ 1 + 12 * (cB r + 1)
        omega
    · have g7 := b7 _ _ s8a upd_same
      have b07 : But a H H7 := (((b05.trans b6).same sl).trans b7)
      have t57 : TS K H5 H7 := (o5.ts b6).trans (sl.ts.trans ((o6.same sl).ts b7))
      have t67 : TS K H6 H7 := sl.ts.trans ((o6.same sl).ts b7)
      refine ⟨_, rfl, s8, _, _, rfl, .of g7, rfl, _, rfl, s8, _, _, rfl, .of g7, rfl, sz3, fun p hpn => ⟨sz2, fun p' hpn' => ?_⟩⟩
      have s9 := same_new hpn (.tup [.str "pair", v2, v1])
      have s10 := same_new hpn' (.tup [.str "second", .ref p])
      refine q (.second (.pair p2 p1)) (.ref p') _ ((b07.same s9).same s10) ((o7.same s9).same s10) ⟨p', .ref p, rfl, .of upd_same, p, v2, v1, rfl, s10.tup (.of upd_same), ((a6.ts t67).same s9).same s10, ((a5.ts t57).same s9).same s10⟩ ⟨kin_second.mpr ⟨κ, kin_pair.mpr ⟨κ, k, rfl, dr2.kn, dr1.kn⟩⟩, ?_, pt_up k ?_⟩
      · show max p2.kdeep p1.kdeep ≤ 4
        omega
      · show 1 + (1 + (parts p2 + parts p1)) ≤ 1 + 12 * (cB r + 1)
        omega
  clear b1 o1
  rintro σ1 H1 ⟨c, rfl, b1, o1⟩
  have ts1 := hp.ts (K := K) b1
  have hb1 := b1 _ _ ba hb
  have hl1 := hl.imp fun _ _ h => h.ts ts1
  have hk1 := hk.ts ts1
  refine ⟨fun N hN => ?_, ?_⟩
  · have stay : N [some (.ref a), some (.ref b), some gv, some (.int r), some (.int c), none, none, none, none, some .non] H1 := hN _ _ ⟨c, _, rfl, b1, o1, .inl rfl⟩
    refine ⟨_, rfl, _, _, rfl, rfl, _, rfl, if2 (fun e0 => ?_) fun _ => stay⟩
    refine ⟨_, rfl, _, _, rfl, rfl, _, rfl, if2 (fun _ => ?_) fun _ => stay⟩
    obtain ⟨r, rfl⟩ : ∃ r', r = r' + 1 := ⟨r - 1, by have := of_decide_eq_true e0; omega⟩
    refine ⟨_, rfl, _, rfl, _, rfl, _, rfl, a, b, gv, r, l, ws, k, rfl, o1, hb1, hl1, hk1, by omega, hk4, hg, by omega, fun H2 s2 => hN _ _ ⟨c, _, rfl, b1.same s2, o1.same s2, .inl rfl⟩, fun p v H2 b2 o2 a2 k2 d2 z2 => ?_⟩
    obtain ⟨c', _, rfl, _⟩ := a2.tagged
    exact hN _ _ ⟨c, _, rfl, b1.trans b2, o2, .inr ⟨p, c', rfl, a2, k2, d2, pt_up k z2⟩⟩
  clear b1 o1 ts1 hb1 hl1 hk1
  rintro σ1 H1 ⟨c, v9, rfl, b1, o1, hv⟩
  rcases hv with rfl | ⟨p, c', rfl, hp1, dr⟩
  · have ts1 := hp.ts (K := K) b1
    refine ⟨_, rfl, _, rfl, ifT rfl ?_⟩
    refine ⟨_, rfl, _, rfl, _, rfl, _, rfl, a, b, gv, r, l, ws, k, rfl, o1, b1 _ _ ba hb, hl.imp fun _ _ h => h.ts ts1, hk.ts ts1, hn, hk4, hg, hz, fun p v H2 b2 o2 a2 dr => ?_⟩
    exact ⟨_, rfl, q p v H2 (b1.trans b2) o2 a2 dr⟩
  · exact ⟨_, rfl, _, rfl, ifF rfl ⟨_, rfl, q p _ H1 b1 o1 hp1 dr⟩⟩
end
end KF

set_option Elab.async false
set_option linter.all false
set_option maxRecDepth 100000
set_option maxHeartbeats 4000000
namespace KF
open PySem PySem.Spec L2 TL
/-- a row of given names as it is drawn -/
structure RowG (l : Ctx) : Prop where
  good : GoodC l
  nox : NoX l
  noe : NoE l
theorem nox_snoc {l : Ctx} {x : Nm} {k : Kd} (h : NoX l) (hx : ∀ j, x ≠ .x j) : NoX (l ++ [(x, k)]) := fun q hq j => by
  rcases List.mem_append.mp hq with hq | hq
  · exact h q hq j
  · cases List.mem_singleton.mp hq; exact hx j
theorem noe_snoc {l : Ctx} {x : Nm} {k : Kd} (h : NoE l) (hx : ∀ j, x ≠ .e j) : NoE (l ++ [(x, k)]) := fun q hq j => by
  rcases List.mem_append.mp hq with hq | hq
  · exact h q hq j
  · cases List.mem_singleton.mp hq; exact hx j
theorem cut_fg {n : Nat} (h : n < 3) : cutV [V.str "f", V.str "g"] none (some (n : Nat)) = [V.str "f", V.str "g"].take n := match n, h with
  | 0, _ => rfl
  | 1, _ => rfl
  | 2, _ => rfl
theorem fg_name {n j : Nat} {x : V} (h : ([V.str "f", V.str "g"].take n)[j]? = some x) : ∃ y : Nm, x = .str y.str ∧ y ≠ .p ∧ y ≠ .q ∧ (∀ j, y ≠ .x j) ∧ ∀ j, y ≠ .e j := by
  have hm := List.mem_of_mem_take (List.mem_of_getElem? h)
  rcases List.mem_cons.mp hm with rfl | hm
  · exact ⟨.f, rfl, by decide, by decide, fun j z => (by cases z), fun j z => (by cases z)⟩
  · rcases List.mem_cons.mp hm with rfl | hm
    · exact ⟨.g, rfl, by decide, by decide, fun j z => (by cases z), fun j z => (by cases z)⟩
    · cases hm
section
variable {P : Program} {w : World} {K : PySem.W.Frag} {mg : Str → Option Value} {base : Heap}
theorem ok_prog (T : Tx w K mg) : ∀ n, Df P w K mg base CX0 (2 * n + 10) "_law_program" ["_law_pool_here", "_law_known", "_law_goal", "_law_room"] [] (spProg K n)
  | 0 => df_none T.d_law_program T.g_law_program (fun _ _ _ _ _ _ us hl => match us, hl with | [_, _, _, _], _ => rfl) fun vs H Q E ⟨_, _, _, r, _, _, k, _, _, _, _, _, h, _⟩ => by have := leaves_pos k; omega
  | n + 1 => ok_prog_of T n (ok_prog T n) (ok_made_of T n (ok_prog T n)) (ok_used_of T n (ok_prog T n))
def spRow (K : PySem.W.Frag) : Sp := fun vs H Q _ => ∃ a : Addr, vs = [.ref a] ∧ PoAt H a ∧ ∀ l ws p H', But a H H' → PoAt H' a → H p = none → H' p = some (.lst ws) → All2 (NmAt K H') l ws → RowG l → l.length ≤ 4 → Q (.ref p) H'
theorem ok_row (T : Tx w K mg) : Df P w K mg base CX0 7 "_law_row" ["_law_pool_here"] [] (spRow K) := by
  have GT := (ok_take (P := P) (base := base) T).mono (show 1 ≤ 6 by omega)
  have GK := (ok_kind (P := P) (base := base) T 4)
  refine df0 T.d_law_row T.g_law_row sc_law_row (fun _ _ _ _ _ _ us hl => match us, hl with | [_], _ => rfl) (fun vs H Q E h => ?_) (fun cdv A outer sh H vs Q E hr h => ?_)
  · obtain ⟨a, rfl, _⟩ := h
    rfl
  obtain ⟨a, rfl, hp, q⟩ := h
  refine ⟨_, (pss_cons (ps_set (i := 1) sc_law_row.nd rfl (.inl rfl) (pe_lst (pa_cons (pe_tup (pa_cons pe_str (pa_cons (pe_tup (pa_cons pe_str (pa_cons pe_str pa_nil))) pa_nil))) (pa_cons (pe_tup (pa_cons pe_str (pa_cons (pe_tup (pa_cons pe_str (pa_cons pe_str pa_nil))) pa_nil))) pa_nil)))) (pss_cons (ps_for PassesOwn.never rfl (pi_list (pe_slice sl_list (pe_lst (pa_cons pe_str (pa_cons pe_str pa_nil))) po_none (po_some (cal GT hr pass0 (pa_cons (pv 0) (pa_cons pe_int pa_nil)))))) (pg_name (i := 2) sc_law_row.nd rfl (Or.inl rfl))
      (pss_one (ps_expr (pe_bm PySem.F.plainAttrs_list PySem.F.slot_list_append PySem.F.type_list_append mt_append (pv 1) (pa_cons (pe_tup (pa_cons (pv 2) (pa_cons (cal GK hr pass0 (pa_cons (pv 0) (pa_cons (pe_op op_add pe_int (cal GT hr pass0 (pa_cons (pv 0) (pa_cons pe_int pa_nil)))) (pa_cons (pe_lst (pa_cons pe_str (pa_cons pe_str pa_nil))) pa_nil)))) pa_nil))) pa_nil))))) (pss_one (ps_ret (pv 1))))), ?_⟩
  refine ⟨sz2, fun t1 h1 => ⟨sz2, fun t2 h2 => ⟨sz2, fun t3 h3 => ⟨sz2, fun t4 h4 => ⟨sz2, fun p1 h5 => ?_⟩⟩⟩⟩⟩
  have s1 := same_new h1 (.tup [.str "mark", .str "a"])
  have s2 := same_new h2 (.tup [.str "p", .ref t1])
  have s3 := same_new h3 (.tup [.str "mark", .str "b"])
  have s4 := same_new h4 (.tup [.str "q", .ref t3])
  have s5 := same_new h5 (.lst [.ref t2, .ref t4])
  have s15 := s1.trans (s2.trans (s3.trans (s4.trans s5)))
  have np1 : _ = none := s1.free (s2.free (s3.free (s4.free h5)))
  have o5 := hp.same s15
  refine ⟨sz2, fun d hd => ?_⟩
  have s6 := same_new hd (.lst [.str "f", .str "g"])
  refine ⟨_, rfl, a, 3, rfl, o5.same s6, by decide, by decide, fun n H1 hn b1 o1 => ⟨_, rfl, d, _, rfl, .of (b1 _ _ ((o5.same s6).ne upd_same (by intro i e; cases e)) upd_same), fun f hf => ?_⟩⟩
  have s7 := same_new hf (.lst (cutV [V.str "f", V.str "g"] none (some (n : Nat))))
  have b17 := b1.same s7
  have o7 := o1.same s7
  have p1a : p1 ≠ a := fun e => by obtain ⟨z, y, e2, _⟩ := hp; rw [← e, np1] at e2; cases e2
  have ts6 := (o5.same s6).ts (K := K) b17
  have base0 : All2 (NmAt K _) [(Nm.p, Kd.mark false), (Nm.q, Kd.mark true)] [V.ref t2, V.ref t4] :=
    ⟨⟨t2, .ref t1, rfl, ts6 _ _ (s6.tup ((s3.trans (s4.trans s5)).tup (.of upd_same))), t1, rfl, ts6 _ _ (s6.tup ((s2.trans (s3.trans (s4.trans s5))).tup (.of upd_same)))⟩,
     ⟨t4, .ref t3, rfl, ts6 _ _ (s6.tup (s5.tup (.of upd_same))), t3, rfl, ts6 _ _ (s6.tup ((s4.trans s5).tup (.of upd_same)))⟩, trivial⟩
  have fa : f ≠ a := o7.ne upd_same (by
    rw [cut_fg hn]
    intro i e
    obtain ⟨y, e2, _⟩ := fg_name e
    cases e2)
  refine ⟨f, rfl, ⟨_, .of upd_same⟩, ?_⟩
  rw [cut_fg hn] at *
  refine for_list (xs := [V.str "f", V.str "g"].take n) (fun j σ H2 => ∃ (l : Ctx) (ws : List V) (z2 : Option V), σ = [some (.ref a), some (.ref p1), z2] ∧ But a H H2 ∧ PoAt H2 a ∧ H2 f = some (.lst ([V.str "f", V.str "g"].take n)) ∧ H2 p1 = some (.lst ws) ∧ All2 (NmAt K H2) l ws ∧ RowG l ∧ l.length = 2 + j)
    ⟨_, _, none, rfl, ((But.of (s15.trans s6)).trans b17), o7, upd_same, b17 _ _ p1a (s6 _ _ upd_same), base0, ⟨⟨?_, rfl, rfl⟩, ?_, ?_⟩, rfl⟩ (fun j σ H2 _ ⟨l, ws, z2, _, _, _, h, _⟩ => .of h) ?_ ?_
  · intro q hq
    rcases List.mem_cons.mp hq with rfl | hq
    · decide
    · cases List.mem_singleton.mp hq; decide
  · intro q hq j
    rcases List.mem_cons.mp hq with rfl | hq
    · intro z; cases z
    · cases List.mem_singleton.mp hq; intro z; cases z
  · intro q hq j
    rcases List.mem_cons.mp hq with rfl | hq
    · intro z; cases z
    · cases List.mem_singleton.mp hq; intro z; cases z
  · rintro j x σ H2 hx ⟨l, ws, z2, rfl, b2, o2, g2, gp, al, rg, hl⟩
    obtain ⟨y, rfl, n1, n2, n3, n4⟩ := fg_name hx
    have hj : j < 2 := by
      have := (List.getElem?_eq_some_iff.mp hx).1
      rw [List.length_take] at this
      have e : [V.str "f", V.str "g"].length = 2 := rfl
      omega
    have wl := al.length
    refine ⟨_, rfl, tyL gp, _, rfl, _, rfl, _, rfl, a, 4, rfl, o2, by decide, by decide, fun i H3 hi b3 o3 => ⟨_, _, rfl, rfl, sz2, fun m hm => ?_⟩⟩
    have s8 := same_new hm (.lst [.str "a", .str "b"])
    refine ⟨a, m, 1 + i, congrArg (fun i => [V.ref a, V.int i, V.ref m]) (show (1 : Int) + (i : Nat) = ((1 + i : Nat) : Int) by omega), o3.same s8, upd_same, by omega, by omega, by omega, fun κ yv H4 hκ b4 o4 a4 => ⟨sz2, fun e he => ?_⟩⟩
    have s9 := same_new he (.tup [.str y.str, yv])
    have b24 : But a H2 H4 := (b3.same s8).trans b4
    have gp4 := s9 _ _ (b24 _ _ p1a gp)
    refine ⟨p1, ws, _, rfl, rfl, gp4, small' (by omega), ?_⟩
    have tsu : TS K (upd H4 e (.tup [.str y.str, yv])) (upd (upd H4 e (.tup [.str y.str, yv])) p1 (.lst (ws ++ [.ref e]))) := But.ts (But.upd _ _ _) gp4 rfl
    have ts24 : TS K H2 (upd (upd H4 e (.tup [.str y.str, yv])) p1 (.lst (ws ++ [.ref e]))) := (o2.ts b24).trans (s9.ts.trans tsu)
    have fp : f ≠ p1 := fun z => by
      have z1 := s6 _ _ (upd_same (H := upd (upd (upd (upd H t1 (.tup [.str "mark", .str "a"])) t2 (.tup [.str "p", .ref t1])) t3 (.tup [.str "mark", .str "b"])) t4 (.tup [.str "q", .ref t3])) (a := p1) (o := .lst [.ref t2, .ref t4]))
      have z2 := b1 _ _ p1a z1
      rw [← z, hf] at z2
      cases z2
    refine ⟨l ++ [(y, κ)], ws ++ [.ref e], _, rfl, fun b o nb eb => ?_, ?_, ?_, upd_same, (al.imp fun _ _ h => h.ts ts24).snoc ⟨e, yv, rfl, tsu _ _ (.of upd_same), (a4.same s9).ts tsu⟩, ⟨rg.good.snoc n1 n2 (by omega), nox_snoc rg.nox n3, noe_snoc rg.noe n4⟩, by rw [List.length_append, List.length_singleton]; omega⟩
    · have bp : b ≠ p1 := ne_of_none eb np1
      rw [upd_ne bp]
      exact s9 _ _ (b24 _ _ nb (b2 _ _ nb eb))
    · obtain ⟨z, y', e2, e3⟩ := o4.same s9
      exact ⟨z, y', by rw [upd_ne (Ne.symm p1a)]; exact e2, e3⟩
    · rw [upd_ne fp]
      exact s9 _ _ (b24 _ _ fa g2)
  · rintro σ H2 ⟨l, ws, z2, rfl, b2, o2, g2, gp, al, rg, hl⟩
    refine ⟨_, rfl, q l ws p1 H2 b2 o2 np1 gp al rg ?_⟩
    rw [List.length_take] at hl
    have e : [V.str "f", V.str "g"].length = 2 := rfl
    omega
end
end KF

set_option Elab.async false
set_option linter.all false
set_option maxRecDepth 100000
set_option maxHeartbeats 4000000
namespace KF
open PySem PySem.Spec L2 TL
theorem All2.unsnoc {α : Type} {R : α → V → Prop} : ∀ {l : List α} {x : α} {vs : List V}, All2 R (l ++ [x]) vs → ∃ vs' v, vs = vs' ++ [v] ∧ All2 R l vs' ∧ R x v
  | [], x, [v], h => ⟨[], v, rfl, trivial, h.1⟩
  | [], x, [], h => h.elim
  | [], x, _ :: _ :: _, h => h.2.elim
  | y :: l, x, [], h => h.elim
  | y :: l, x, v :: vs, h => by
    obtain ⟨vs', w, e, h1, h2⟩ := All2.unsnoc (l := l) h.2
    exact ⟨v :: vs', w, by rw [e]; rfl, ⟨h.1, h1⟩, h2⟩
theorem parts_in (p : Pg) : parts p = 1 + ((inner p).map parts).sum := by cases p <;> simp [inner, parts]
theorem len_parts (ps : List Pg) : ps.length ≤ (ps.map parts).sum := by
  induction ps with
  | nil => exact Nat.le_refl _
  | cons p ps ih =>
    have := parts_pos p
    show ps.length + 1 ≤ parts p + (ps.map parts).sum
    omega
theorem ktags_not : ∀ t ∈ ktags, decide (t ∈ ptags) = false := by decide +kernel
theorem ktag_not (k : Kd) : decide (k.tag ∈ ptags) = false := ktags_not _ (List.mem_of_getElem? k.tag_num)
theorem ptag_in (p : Pg) : decide (p.tag ∈ ptags) = true := decide_eq_true (List.mem_of_getElem? p.tag_num)
theorem kit_st {K : PySem.W.Frag} : PySem.W.kitOne K (.type "str") (.type "tuple") = some false := kit_ty (by decide +kernel)
/-- what stands in a program's tuple -/
def ItsAt (K : PySem.W.Frag) (H : Hp) : List V → List Pg → Prop
  | [], ps => ps = []
  | x :: xs, ps => (((∃ s, x = .str s) ∨ ∃ k, KdAt K H k x) ∧ ItsAt K H xs ps) ∨ ∃ p ps', ps = p :: ps' ∧ PgAt K H p x ∧ ItsAt K H xs ps'
theorem PgAt.items {K : PySem.W.Frag} {H : Hp} {p : Pg} {v : V} (h : PgAt K H p v) : ∃ a xs, v = .ref a ∧ SqT K H a xs ∧ ItsAt K H xs (inner p) ∧ xs.length ≤ 4 := by
  cases p with
  | name x => obtain ⟨a, e, q⟩ := h; exact ⟨a, _, e, q, .inl ⟨.inl ⟨_, rfl⟩, .inl ⟨.inl ⟨_, rfl⟩, rfl⟩⟩, by show 2 ≤ 4; decide⟩
  | thing => obtain ⟨a, e, q⟩ := h; exact ⟨a, _, e, q, .inl ⟨.inl ⟨_, rfl⟩, rfl⟩, by decide⟩
  | take x k p => obtain ⟨a, y, z, e, q, h1, h2⟩ := h; exact ⟨a, _, e, q, .inl ⟨.inl ⟨_, rfl⟩, .inl ⟨.inl ⟨_, rfl⟩, .inl ⟨.inr ⟨k, h1⟩, .inr ⟨p, [], rfl, h2, rfl⟩⟩⟩⟩, Nat.le_refl 4⟩
  | give p r => obtain ⟨a, y, z, e, q, h1, h2⟩ := h; exact ⟨a, _, e, q, .inl ⟨.inl ⟨_, rfl⟩, .inr ⟨p, [r], rfl, h1, .inr ⟨r, [], rfl, h2, rfl⟩⟩⟩, Nat.le_succ 3⟩
  | pair p r => obtain ⟨a, y, z, e, q, h1, h2⟩ := h; exact ⟨a, _, e, q, .inl ⟨.inl ⟨_, rfl⟩, .inr ⟨p, [r], rfl, h1, .inr ⟨r, [], rfl, h2, rfl⟩⟩⟩, Nat.le_succ 3⟩
  | first p => obtain ⟨a, y, e, q, h1⟩ := h; exact ⟨a, _, e, q, .inl ⟨.inl ⟨_, rfl⟩, .inr ⟨p, [], rfl, h1, rfl⟩⟩, by show 2 ≤ 4; decide⟩
  | second p => obtain ⟨a, y, e, q, h1⟩ := h; exact ⟨a, _, e, q, .inl ⟨.inl ⟨_, rfl⟩, .inr ⟨p, [], rfl, h1, rfl⟩⟩, by show 2 ≤ 4; decide⟩
section
variable {P : Program} {w : World} {K : PySem.W.Frag} {mg : Str → Option Value} {base : Heap}
def spWords : Sp := fun vs H Q _ => vs = [] ∧ ∀ p, H p = none → Q (.ref p) (upd H p (.lst (ptags.map V.str)))
theorem ok_words (T : Tx w K mg) : Df P w K mg base CX0 1 "_law_words" [] [] spWords := by
  refine df0 T.d_law_words T.g_law_words sc_law_words (fun _ _ _ _ _ _ us hl => match us, hl with | [], _ => rfl) (fun vs H Q E h => ?_) (fun cdv A outer sh H vs Q E hr h => ?_)
  · obtain ⟨rfl, _⟩ := h
    rfl
  obtain ⟨rfl, q⟩ := h
  exact ⟨_, (pss_one (ps_ret (pe_lst (pa_cons pe_str (pa_cons pe_str (pa_cons pe_str (pa_cons pe_str (pa_cons pe_str (pa_cons pe_str (pa_cons pe_str pa_nil)))))))))), by show 7 ≤ sizeLine; decide, q⟩
def spMany (K : PySem.W.Frag) : Sp := fun vs H Q _ => ∃ (v : V) (p : Pg), vs = [v] ∧ PgAt K H p v ∧ parts p ≤ 100000 ∧ Ret H Q fun _ u => u = .int (parts p)
theorem ok_many (T : Tx w K mg) : Df P w K mg base CX0 2 "_law_many" ["_law_program_here"] [] (spMany K) := by
  have GW := (ok_words (P := P) (base := base) T)
  refine df0 T.d_law_many T.g_law_many sc_law_many (fun _ _ _ _ _ _ us hl => match us, hl with | [_], _ => rfl) (fun vs H Q E h => ?_) (fun cdv A outer sh H vs Q E hr h => ?_)
  · obtain ⟨v, p, rfl, _⟩ := h
    rfl
  obtain ⟨v, p, rfl, hp, hz, q⟩ := h
  refine ⟨_, (pss_cons (ps_set (i := 1) sc_law_many.nd rfl (.inl rfl) (pe_lst (pa_cons (pv 0) pa_nil))) (pss_cons (ps_set (i := 2) sc_law_many.nd rfl (.inl rfl) pe_int) (pss_cons (ps_while PassesOwn.never (pt_cmpR (op_neNil hr.u64) (pv 1) (pe_lst pa_nil) (nomark _))
      (pss_cons (ps_set (i := 3) sc_law_many.nd rfl (.inl rfl) (pe_bm0 PySem.F.plainAttrs_list PySem.F.slot_list_pop PySem.F.type_list_pop mt_pop (pv 1))) (pss_cons (ps_set (i := 2) sc_law_many.nd rfl (.inl rfl) (pe_op op_add (pv 2) pe_int)) (pss_one (ps_expr (pe_bm PySem.F.plainAttrs_list PySem.F.slot_list_extend PySem.F.type_list_extend mt_extend (pv 1) (pa_cons
          (pe_lc (own := [("_law_part", 4)]) (g := gName 4) (tt := tAnd (tB (tCB (rIsi K) (tCons (tVar 4) (tCons (tC (.ty "tuple")) tNil)))) (tTest (tOp (rIn K false) (tAt K (tVar 4) 0) (tCall spWords [] E0 tNil)))) (te := tVar 4) rfl sc_law_many.nd (pi_tup (pv 3)) (blkOk_by (own := [("_law_part", 4)]) (N := ["_law_program_here", "_law_row_here", "_law_many_here", "_law_one", "_law_part"]) (sc := defScope s_law_many) (by decide +kernel))
            (fun _ _ _ _ _ => pg_name (i := 4) sc_law_many.nd rfl (Or.inl rfl))
            (fun _ _ _ _ _ => pts_one (PW.pt (pw_and (pt_val (pe_callB call_isi rfl T.n_isinstance (by decide +kernel) (pa_cons (pv 4) (pa_cons (pe_bltn (v := .ty "tuple") rfl T.n_tuple (by decide +kernel) rfl) pa_nil)))) (pw_and1 (pt_cmpR op_in_seq (pv_at 4 0) (cal0 GW hr pass0) rfl)))))
            (fun _ _ _ _ _ => pv 4)) pa_nil))))))) (pss_one (ps_ret (pv 2)))))), ?_⟩
  refine ⟨_, rfl, sz1, fun pl hpl => ?_⟩
  have s0 := same_new hpl (.lst [v])
  refine ⟨fun m σ H1 => ∃ (vs : List V) (ps : List Pg) (c : Nat) (z3 : Option V), σ = [some v, some (.ref pl), some (.int (c : Nat)), z3, none] ∧ Same H H1 ∧ H1 pl = some (.lst vs) ∧ All2 (PgAt K H1) ps vs ∧ c + (ps.map parts).sum = parts p ∧ m = (ps.map parts).sum,
    ⟨_, [v], [p], 0, none, rfl, s0, upd_same, ⟨hp.same s0, trivial⟩, by show 0 + (parts p + 0) = parts p; omega, rfl⟩, ?_⟩
  rintro m σ H1 ⟨vs, ps, c, z3, rfl, s1, g1, al, hc, rfl⟩
  have vl := al.length
  have pz := len_parts ps
  refine ⟨_, rfl, sz0, fun e he => ?_⟩
  have se := same_new he (.lst [])
  refine ⟨pl, e, _, vs, rfl, rfl, .of (se _ _ g1), All2.dp (f := Pg.dat) (fun r u h => (h.same se).dp) al, lays_all Pg.lays _, .of upd_same, _, rfl, ?_⟩
  rcases List.eq_nil_or_concat ps with rfl | ⟨ps', p1, rfl⟩
  · have : vs = [] := List.eq_nil_of_length_eq_zero vl
    subst this
    have ec : c = parts p := by have : c + 0 = parts p := hc; omega
    refine ifF rfl ⟨_, rfl, q.of (s1.trans se) (by rw [ec])⟩
  · rw [List.concat_eq_append] at *
    obtain ⟨vs', v1, rfl, al', hp1⟩ := al.unsnoc
    have vl' := al'.length
    rw [List.map_append, List.sum_append] at hc pz ⊢
    rw [List.length_append] at pz
    have e1 : ([p1].map parts).sum = parts p1 := by show parts p1 + 0 = _; omega
    rw [e1] at hc pz ⊢
    have pin := parts_in p1
    have plin := len_parts (inner p1)
    refine ifT (by cases vs' <;> rfl) ⟨_, fun σ' H' h => h, ?_⟩
    refine ⟨_, rfl, tyL (se _ _ g1), pl, _, v1, rfl, rfl, se _ _ g1, by rw [List.length_append]; simp, ?_⟩
    have hpop : (vs' ++ [v1]).dropLast = vs' := by simp
    rw [hpop]
    obtain ⟨H2, eH2⟩ : ∃ H2, H2 = upd (upd H1 e (.lst [])) pl (.lst vs') := ⟨_, rfl⟩
    have g2 : H2 pl = some (.lst vs') := by rw [eH2]; exact upd_same
    have ts2 : TS K H1 H2 := by rw [eH2]; exact se.ts.trans (But.ts (But.upd _ _ _) (se _ _ g1) rfl)
    have s2 : Same H H2 := fun b o hb => by rw [eH2, upd_ne (ne_of_none hb hpl)]; exact se _ _ (s1 _ _ hb)
    show gName 3 v1 _ (upd (upd H1 e (.lst [])) pl (.lst vs')) _
    rw [← eH2]
    obtain ⟨a, xs, rfl, ht, hits, xl⟩ := (hp1.ts ts2).items
    refine ⟨_, rfl, _, _, rfl, rfl, _, rfl, tyL g2, ?_⟩
    refine ⟨_, rfl, a, rfl, ⟨_, ht⟩, fun D hD => ?_⟩
    refine lc_it (walk_tup (xs := xs)) (fun i H3 => Same H2 H3 ∧ ∃ acc pd pr, H3 D = some (.lst acc) ∧ All2 (PgAt K H3) pd acc ∧ ItsAt K H2 (xs.drop i) pr ∧ inner p1 = pd ++ pr ∧ acc.length ≤ i) ⟨same_new hD _, [], [], inner p1, upd_same, trivial, hits, rfl, Nat.le_refl _⟩ (fun i H3 _ h => h.1.tup ht) ?_ ?_
    · rintro i x H3 H3' hi ⟨s3, acc, pd, pr, gD, ad, hir, epr, hal⟩ ⟨rfl, hx⟩
      have ex : xs[i] = x := by rw [List.getElem?_eq_getElem hi] at hx; exact Option.some.inj hx
      rw [List.drop_eq_getElem_cons hi, ex] at hir
      refine ⟨rfl, ?_⟩
      rcases hir with ⟨h1, h2⟩ | ⟨p2, ps2, rfl, h1, h2⟩
      · rcases h1 with ⟨s, rfl⟩ | ⟨k, hk⟩
        · exact ⟨_, rfl, _, _, _, _, false, rfl, .ty "tuple", .base (.str _), kit_st, _, rfl, ifF rfl (ifF rfl ⟨s3, acc, pd, pr, gD, ad, h2, epr, by omega⟩)⟩
        · obtain ⟨b, ys, rfl, tb⟩ := (hk.same s3).tagged
          refine ⟨_, rfl, _, _, _, _, true, rfl, .ty "tuple", sqt_ty tb, kit_tt, _, rfl, ifT rfl ⟨_, rfl, b, _, _, rfl, tb, rfl, rfl, fun wl hwl => ?_⟩⟩
          have sw := same_new hwl (.lst (ptags.map V.str))
          refine ⟨wl, _, rfl, .inl (.of upd_same), rfl, flat_strs' _, _, rfl, ifF ?_ ⟨s3.trans sw, acc, pd, pr, sw _ _ gD, ad.imp fun _ _ h => h.same sw, h2, epr, by omega⟩⟩
          rw [inV_strs]
          exact ktag_not k
      · have h1' := h1.same s3
        obtain ⟨b, ys, rfl, tb⟩ := h1'.tagged
        refine ⟨_, rfl, _, _, _, _, true, rfl, .ty "tuple", sqt_ty tb, kit_tt, _, rfl, ifT rfl ⟨_, rfl, b, _, _, rfl, tb, rfl, rfl, fun wl hwl => ?_⟩⟩
        have sw := same_new hwl (.lst (ptags.map V.str))
        have gD' := sw _ _ gD
        refine ⟨wl, _, rfl, .inl (.of upd_same), rfl, flat_strs' _, _, rfl, ifT (by rw [inV_strs]; exact ptag_in p2) ⟨_, rfl, acc, gD', small' (by omega), ?_⟩⟩
        have tu : TS K (upd H3' wl (.lst (ptags.map V.str))) (upd (upd H3' wl (.lst (ptags.map V.str))) D (.lst (acc ++ [.ref b]))) := But.ts (But.upd _ _ _) gD' rfl
        refine ⟨fun o u ho => by rw [upd_ne (ne_of_none ho hD)]; exact sw _ _ (s3 _ _ ho), acc ++ [.ref b], pd ++ [p2], ps2, upd_same, (ad.imp fun _ _ h => (h.same sw).ts tu).snoc ((h1'.same sw).ts tu), h2, by rw [epr, List.append_assoc]; rfl, by rw [List.length_append, List.length_singleton]; omega⟩
    · rintro H3 ⟨s3, acc, pd, pr, gD, ad, hir, epr, hal⟩
      rw [List.drop_length] at hir
      obtain rfl : pr = [] := hir
      rw [List.append_nil] at epr
      subst epr
      have ga := s3 _ _ g2
      refine ⟨pl, D, vs', acc, rfl, rfl, ga, gD, small (by omega), ?_⟩
      have tu : TS K H3 (upd H3 pl (.lst (vs' ++ acc))) := But.ts (But.upd _ _ _) ga rfl
      refine ⟨((ps' ++ inner p1).map parts).sum, ?_, _, ps' ++ inner p1, c + 1, _, rfl, fun b o hb => by rw [upd_ne (ne_of_none hb hpl)]; exact s3 _ _ (s2 _ _ hb), upd_same, ((al'.imp fun _ _ h => (h.ts ts2).ts (s3.ts.trans tu)).append (ad.imp fun _ _ h => h.ts tu)), ?_, rfl⟩
      · rw [List.map_append, List.sum_append]; omega
      · rw [List.map_append, List.sum_append]; omega
end
end KF

set_option Elab.async false
set_option linter.all false
set_option maxRecDepth 100000
set_option maxHeartbeats 4000000
namespace KF
open PySem PySem.Spec L2 TL
theorem cB_le {r : Nat} (h : r ≤ 2) : cB r ≤ 313 := match r, h with
  | 0, _ => by decide
  | 1, _ => by decide
  | 2, _ => by decide
theorem dr_parts {l : Ctx} {k : Kd} {r : Nat} {p : Pg} (h : DrOK l k r p) (hr : r ≤ 2) (hk : k.leaves ≤ 4) : parts p ≤ 2000 := by
  have h1 := h.pt
  have h2 := Nat.mul_le_mul (show cB r + 1 ≤ 314 by have := cB_le hr; omega) hk
  omega
def kw (k : Kd) : Nat := 2 * k.leaves - 1
theorem sumL_map : ∀ l : Ctx, ((l.map (·.2)).map Kd.leaves).sum = sumLeaves l
  | [] => rfl
  | q :: l => by
    show q.2.leaves + ((l.map (·.2)).map Kd.leaves).sum = q.2.leaves + sumLeaves l
    rw [sumL_map l]
theorem len_leaves (ks : List Kd) : ks.length ≤ (ks.map Kd.leaves).sum := by
  induction ks with
  | nil => exact Nat.le_refl _
  | cons k ks ih =>
    have := leaves_pos k
    show ks.length + 1 ≤ k.leaves + (ks.map Kd.leaves).sum
    omega
section
variable {P : Program} {w : World} {K : PySem.W.Frag} {mg : Str → Option Value} {base : Heap}
def spDrawn (K : PySem.W.Frag) : Sp := fun vs H Q _ => ∃ (a b : Addr) (l : Ctx) (ws : List V), vs = [.ref a, .ref b, .int 40] ∧ PoAt H a ∧ H b = some (.lst ws) ∧ All2 (NmAt K H) l ws ∧ GoodC l ∧ l.length ≤ 4 ∧
  ∀ k p t kv pv H', But a H H' → PoAt H' a → SqT K H' t [kv, pv] → KdAt K H' k kv → PgAt K H' p pv → k.leaves ≤ 4 → kindIn l p = some k → p.kdeep ≤ 4 → parts p ≤ 40 → Q (.ref t) H'
theorem ok_drawn (T : Tx w K mg) : Df P w K mg base CX0 39 "_law_drawn" ["_law_pool_here", "_law_row_here", "_law_most"] [] (spDrawn K) := by
  have GT := (ok_take (P := P) (base := base) T).mono (show 1 ≤ 38 by omega)
  have GK := (ok_kind (P := P) (base := base) T 4).mono (show 6 ≤ 38 by omega)
  have GP := (ok_prog (P := P) (base := base) T 14).mono (show 2 * 14 + 10 ≤ 38 by omega)
  have GM := (ok_many (P := P) (base := base) T).mono (show 2 ≤ 38 by omega)
  refine df0 T.d_law_drawn T.g_law_drawn sc_law_drawn (fun _ _ _ _ _ _ us hl => match us, hl with | [_, _, _], _ => rfl) (fun vs H Q E h => ?_) (fun cdv A outer sh H vs Q E hr h => ?_)
  · obtain ⟨a, b, l, ws, rfl, _⟩ := h
    rfl
  obtain ⟨a, b, l, ws, rfl, hp, hb, hl, hg, hz, q⟩ := h
  have ba := nm_ne hp hb hl
  refine ⟨_, (pss_cons (ps_set (i := 3) sc_law_drawn.nd rfl (.inl rfl) (cal GK hr pass0 (pa_cons (pv 0) (pa_cons (pe_op op_add pe_int (cal GT hr pass0 (pa_cons (pv 0) (pa_cons pe_int pa_nil)))) (pa_cons (pe_lst (pa_cons pe_str (pa_cons pe_str pa_nil))) pa_nil))))) (pss_cons (ps_set (i := 4) sc_law_drawn.nd rfl (.inl rfl) (cal GP hr pass0 (pa_cons (pv 0) (pa_cons (pe_callTy call_list_of rfl T.n_list (by decide +kernel) (pa_cons (pv 1) pa_nil)) (pa_cons (pv 3) (pa_cons (pe_op op_add pe_int (cal GT hr pass0 (pa_cons (pv 0) (pa_cons pe_int pa_nil)))) pa_nil)))))) (pss_cons (ps_if (pt_cmpR op_gt (cal GM hr pass0 (pa_cons (pv 4) pa_nil)) (pv 2) (nomark _)) (pss_one (ps_set (i := 4) sc_law_drawn.nd rfl (.inl rfl) (cal GP hr pass0 (pa_cons (pv 0) (pa_cons (pe_callTy call_list_of rfl T.n_list (by decide +kernel) (pa_cons (pv 1) pa_nil)) (pa_cons (pv 3) (pa_cons pe_int pa_nil))))))) pss_nil) (pss_one (ps_ret (pe_tup (pa_cons (pv 3) (pa_cons (pv 4) pa_nil)))))))), ?_⟩
  refine ⟨_, rfl, _, rfl, a, 4, rfl, hp, by decide, by decide, fun j H1 hj b1 o1 => ⟨_, _, rfl, rfl, sz2, fun m hm => ?_⟩⟩
  have s1 := same_new hm (.lst [.str "a", .str "b"])
  refine ⟨a, m, 1 + j, congrArg (fun i => [V.ref a, V.int i, V.ref m]) (show (1 : Int) + (j : Nat) = ((1 + j : Nat) : Int) by omega), o1.same s1, upd_same, by omega, by omega, by omega, fun k y H2 hk b2 o2 a2 => ?_⟩
  have hk4 : k.leaves ≤ 4 := by omega
  have b02 : But a H H2 := (b1.same s1).trans b2
  have hb2 := b02 _ _ ba hb
  have hl2 := hl.imp fun _ _ h => h.ts (hp.ts (K := K) b02)
  refine ⟨_, rfl, _, rfl, b, ws, rfl, .inl (.of hb2), fun c hc => ?_⟩
  have s3 := same_new hc (.lst ws)
  have ca : c ≠ a := nm_ne (o2.same s3) upd_same (hl2.imp fun _ _ h => h.same s3)
  refine ⟨_, rfl, _, rfl, a, 2, rfl, o2.same s3, by decide, by decide, fun i H3 hi b3 o3 => ⟨_, _, rfl, rfl, ?_⟩⟩
  have b03 : But a H H3 := (b02.same s3).trans b3
  have t23 : TS K H2 H3 := s3.ts.trans ((o2.same s3).ts b3)
  refine ⟨a, c, y, 1 + i, l, ws, k, congrArg (fun i => [V.ref a, V.ref c, y, V.int i]) (show (1 : Int) + (i : Nat) = ((1 + i : Nat) : Int) by omega), o3, b3 _ _ ca upd_same, hl2.imp fun _ _ h => h.ts t23, a2.ts t23, by omega, hk4, hg, by omega, fun p pv H4 b4 o4 a4 dr => ?_⟩
  have b04 := b03.trans b4
  have a24 := a2.ts (t23.trans (o3.ts b4))
  refine ⟨_, rfl, pv, p, rfl, a4, by have := dr_parts dr (by omega) hk4; omega, fun u H5 s5 e => ?_⟩
  subst e
  refine ⟨_, rfl, _, _, rfl, rfl, _, rfl, if2 (fun e => ?_) fun e => ?_⟩
  · have b05 := b04.same s5
    have o5 := o4.same s5
    have hb5 := b05 _ _ ba hb
    have hl5 := hl.imp fun _ _ h => h.ts (hp.ts (K := K) b05)
    refine ⟨_, rfl, _, rfl, b, ws, rfl, .inl (.of hb5), fun c hc => ?_⟩
    have s6 := same_new hc (.lst ws)
    refine ⟨_, rfl, a, c, y, 0, l, ws, k, rfl, o5.same s6, upd_same, hl5.imp fun _ _ h => h.same s6, (a24.same s5).same s6, by omega, hk4, hg, by omega, fun p' pv' H7 b7 o7 a7 dr' => ?_⟩
    refine ⟨_, rfl, _, rfl, sz2, fun t ht => ?_⟩
    have s8 := same_new ht (.tup [y, pv'])
    have z := dr'.pt
    rw [cB] at z
    exact q k p' t y pv' _ (((b05.same s6).trans b7).same s8) (o7.same s8) (.of upd_same) (((a24.same (s5.trans s6)).ts ((o5.same s6).ts b7)).same s8) (a7.same s8) hk4 dr'.kn dr'.kd (by omega)
  · refine ⟨_, rfl, _, rfl, sz2, fun t ht => ?_⟩
    have s8 := same_new ht (.tup [y, pv])
    have z := of_decide_eq_false e
    exact q k p t y pv _ ((b04.same s5).same s8) ((o4.same s5).same s8) (.of upd_same) ((a24.same s5).same s8) ((a4.same s5).same s8) hk4 dr.kn dr.kd (by omega)
def spLvs (K : PySem.W.Frag) : Sp := fun vs H Q _ => ∃ (b : Addr) (kv : V) (l : Ctx) (ws : List V) (k : Kd), vs = [.ref b, kv] ∧ H b = some (.lst ws) ∧ All2 (NmAt K H) l ws ∧ KdAt K H k kv ∧ sumLeaves l + k.leaves ≤ 1000 ∧ Ret H Q fun _ u => u = .int ((sumLeaves l + k.leaves : Nat) : Int)
theorem ok_lvs (T : Tx w K mg) : Df P w K mg base CX0 1 "_law_leaves" ["_law_row_here", "_law_kind_here"] [] (spLvs K) := by
  refine df0 T.d_law_leaves T.g_law_leaves sc_law_leaves (fun _ _ _ _ _ _ us hl => match us, hl with | [_, _], _ => rfl) (fun vs H Q E h => ?_) (fun cdv A outer sh H vs Q E hr h => ?_)
  · obtain ⟨b, kv, l, ws, k, rfl, _⟩ := h
    rfl
  obtain ⟨b, kv, l, ws, k, rfl, hb, hl, hk, hz, q⟩ := h
  refine ⟨_, (pss_cons (ps_set (i := 2) sc_law_leaves.nd rfl (.inl rfl) (pe_op op_cat
        (pe_lc (own := [("_law_name", 5), ("_law_given", 6)]) (g := gTup K 2 (gCons (gName 5) (gCons (gName 6) gNil))) (tt := tYes) (te := tVar 6) rfl sc_law_leaves.nd (pi_list (pv 0)) (blkOk_by (own := [("_law_name", 5), ("_law_given", 6)]) (N := ["_law_row_here", "_law_kind_here", "_law_some", "_law_many_here", "_law_one", "_law_name", "_law_given"]) (sc := defScope s_law_leaves) (by decide +kernel))
          (fun _ _ _ _ _ => pg_tup rfl (pgs_cons (pg_name (i := 5) sc_law_leaves.nd rfl (Or.inl rfl)) (pgs_cons (pg_name (i := 6) sc_law_leaves.nd rfl (Or.inl rfl)) pgs_nil))) (fun _ _ _ _ _ => pts_nil) (fun _ _ _ _ _ => pv 6))
        (pe_lst (pa_cons (pv 1) pa_nil)))) (pss_cons (ps_set (i := 3) sc_law_leaves.nd rfl (.inl rfl) pe_int) (pss_cons (ps_while PassesOwn.never (pt_cmpR (op_neNil hr.u64) (pv 2) (pe_lst pa_nil) (nomark _))
      (pss_cons (ps_set (i := 4) sc_law_leaves.nd rfl (.inl rfl) (pe_bm0 PySem.F.plainAttrs_list PySem.F.slot_list_pop PySem.F.type_list_pop mt_pop (pv 2))) (pss_one (ps_if (pt_cmpR op_eq (pe_callB call_len_seq rfl T.n_len PySem.boot_len (pa_cons (pv 4) pa_nil)) pe_int (nomark _))
          (pss_one (ps_expr (pe_bm PySem.F.plainAttrs_list PySem.F.slot_list_extend PySem.F.type_list_extend mt_extend (pv 2) (pa_cons (pe_lst (pa_cons (pv_at 4 1) (pa_cons (pv_at 4 2) pa_nil))) pa_nil))))
          (pss_one (ps_set (i := 3) sc_law_leaves.nd rfl (.inl rfl) (pe_op op_add (pv 3) pe_int))))))) (pss_one (ps_ret (pv 3)))))), ?_⟩
  have wl := hl.length
  have ll := len_leaves (l.map (·.2))
  rw [sumL_map, List.length_map] at ll
  refine ⟨_, rfl, b, rfl, ⟨_, .of hb⟩, fun D hD => ?_⟩
  refine lc_build (K := K) (walk_list (xs := ws)) (KdAt K) (l.map (·.2)) (by rw [List.length_map]; exact wl.symm) (by omega) hD (fun H' s' => .of (s' _ _ hb)) (fun i c x H2 H3 Q2 hc s2 hY q2 => ?_) (fun H2 ys s2 gD rD => ?_)
  · obtain ⟨rfl, hx⟩ := hY
    obtain ⟨e, he, rfl⟩ := get_map hc
    obtain ⟨x', hx', t, y, rfl, ht, hy⟩ := (hl.imp fun _ _ h => h.same s2).get he
    obtain rfl : V.ref t = x := Option.some.inj (hx'.symm.trans hx)
    refine ⟨t, _, rfl, ht, rfl, _, _, rfl, _, _, rfl, rfl, rfl, _, rfl, q2 y _ (.refl _) fun H'' x => hy.ts x.ts⟩
  have yl := (rD H2 (.self s2)).length
  rw [List.length_map] at yl
  refine ⟨_, rfl, sz1, fun e he => ?_⟩
  have se := same_new he (.lst [kv])
  refine ⟨D, e, _, _, rfl, rfl, se _ _ gD, upd_same, small (by show ys.length + 1 ≤ _; omega), fun pl hpl => ?_⟩
  have sp := same_new hpl (.lst (ys ++ [kv]))
  have s1p := s2.trans (se.trans sp)
  have npl : H pl = none := s2.free (se.free hpl)
  refine ⟨fun m σ H1 => ∃ (vs : List V) (ks : List Kd) (c : Nat) (z4 : Option V), σ = [some (.ref b), some kv, some (.ref pl), some (.int (c : Nat)), z4, none, none] ∧ Same H H1 ∧ H1 pl = some (.lst vs) ∧ All2 (KdAt K H1) ks vs ∧ c + (ks.map Kd.leaves).sum = sumLeaves l + k.leaves ∧ m = (ks.map kw).sum,
    ⟨_, ys ++ [kv], l.map (·.2) ++ [k], 0, none, rfl, s1p, upd_same, ((rD H2 (.self s2)).imp fun _ _ h => h.same (se.trans sp)).snoc (hk.same s1p), ?_, rfl⟩, ?_⟩
  · rw [List.map_append, List.sum_append, sumL_map]
    show 0 + (sumLeaves l + (k.leaves + 0)) = _
    omega
  rintro m σ H1 ⟨vs, ks, c, z4, rfl, s1, g1, al, hc, rfl⟩
  have vl := al.length
  have kz := len_leaves ks
  refine ⟨_, rfl, sz0, fun e2 he2 => ?_⟩
  have se2 := same_new he2 (.lst [])
  refine ⟨pl, e2, _, vs, rfl, rfl, .of (se2 _ _ g1), All2.dp (f := Kd.dat) (fun r u h => (h.same se2).dp) al, lays_all Kd.lays _, .of upd_same, _, rfl, ?_⟩
  rcases List.eq_nil_or_concat ks with rfl | ⟨ks', k1, rfl⟩
  · have : vs = [] := List.eq_nil_of_length_eq_zero vl
    subst this
    have ec : c = sumLeaves l + k.leaves := by have : c + 0 = sumLeaves l + k.leaves := hc; omega
    refine ifF rfl ⟨_, rfl, q.of (s1.trans se2) (by rw [ec])⟩
  · rw [List.concat_eq_append] at *
    obtain ⟨vs', v1, rfl, al', hk1⟩ := al.unsnoc
    have vl' := al'.length
    rw [List.map_append, List.sum_append] at hc kz
    rw [List.map_append, List.sum_append]
    rw [List.length_append] at kz
    have e1 : ([k1].map Kd.leaves).sum = k1.leaves := by show k1.leaves + 0 = _; omega
    have e3 : ([k1].map kw).sum = kw k1 := by show kw k1 + 0 = _; omega
    rw [e1] at hc kz
    rw [e3]
    have kp := leaves_pos k1
    refine ifT (by cases vs' <;> rfl) ⟨_, fun σ' H' h => h, ?_⟩
    refine ⟨_, rfl, tyL (se2 _ _ g1), pl, _, v1, rfl, rfl, se2 _ _ g1, by rw [List.length_append]; simp, ?_⟩
    have hpop : (vs' ++ [v1]).dropLast = vs' := by simp
    rw [hpop]
    obtain ⟨H3, eH3⟩ : ∃ H3, H3 = upd (upd H1 e2 (.lst [])) pl (.lst vs') := ⟨_, rfl⟩
    have g3 : H3 pl = some (.lst vs') := by rw [eH3]; exact upd_same
    have ts3 : TS K H1 H3 := by rw [eH3]; exact se2.ts.trans (But.ts (But.upd _ _ _) (se2 _ _ g1) rfl)
    have s3 : Same H H3 := fun b o hb => by rw [eH3, upd_ne (ne_of_none hb npl)]; exact se2 _ _ (s1 _ _ hb)
    show gName 4 v1 _ (upd (upd H1 e2 (.lst [])) pl (.lst vs')) _
    rw [← eH3]
    have hk3 := hk1.ts ts3
    have two : (∃ (a : Addr) (xs : List V), v1 = .ref a ∧ SqT K H3 a xs ∧ xs.length ≠ 3 ∧ k1.leaves = 1) ∨ ∃ (a : Addr) (x y : V) (s : Str) (ka kb : Kd), v1 = .ref a ∧ SqT K H3 a [.str s, x, y] ∧ KdAt K H3 ka x ∧ KdAt K H3 kb y ∧ k1.leaves = ka.leaves + kb.leaves := by
      clear hc kz e1 e3 kp hk1
      cases k1 with
      | one => obtain ⟨a, e, t⟩ := hk3; exact .inl ⟨a, _, e, t, (by intro z; cases z), rfl⟩
      | mark m => obtain ⟨a, e, t⟩ := hk3; exact .inl ⟨a, _, e, t, (by intro z; cases z), rfl⟩
      | to ka kb => obtain ⟨a, x, y, e, t, hx, hy⟩ := hk3; exact .inr ⟨a, x, y, _, ka, kb, e, t, hx, hy, rfl⟩
      | both ka kb => obtain ⟨a, x, y, e, t, hx, hy⟩ := hk3; exact .inr ⟨a, x, y, _, ka, kb, e, t, hx, hy, rfl⟩
    rcases two with ⟨a, xs, rfl, ht, hne, h1⟩ | ⟨a, x, y, s, ka, kb, rfl, ht, hx, hy, h2⟩
    · refine ⟨_, rfl, a, _, rfl, .inr ht, rfl, _, rfl, ifF (decide_eq_false fun z => hne (by have := V.int.inj z; omega)) ?_⟩
      refine ⟨_, rfl, _, _, rfl, rfl, (ks'.map kw).sum, by unfold kw; omega, vs', ks', c + 1, _, rfl, s3, g3, al'.imp fun _ _ h => h.ts ts3, by omega, rfl⟩
    · have hp1 := leaves_pos ka
      have hp2 := leaves_pos kb
      refine ⟨_, rfl, a, _, rfl, .inr ht, rfl, _, rfl, ifT rfl ?_⟩
      refine ⟨_, rfl, tyL g3, _, rfl, a, _, _, rfl, ht, rfl, _, rfl, a, _, _, rfl, ht, rfl, sz2, fun f hf => ?_⟩
      have sf := same_new hf (.lst [x, y])
      have gf := sf _ _ g3
      refine ⟨pl, f, vs', _, rfl, rfl, gf, upd_same, small (by show vs'.length + 2 ≤ _; omega), ?_⟩
      have tu : TS K (upd H3 f (.lst [x, y])) (upd (upd H3 f (.lst [x, y])) pl (.lst (vs' ++ [x, y]))) := But.ts (But.upd _ _ _) gf rfl
      refine ⟨((ks' ++ [ka, kb]).map kw).sum, ?_, vs' ++ [x, y], ks' ++ [ka, kb], c, _, rfl, fun b o hb => by rw [upd_ne (ne_of_none hb npl)]; exact sf _ _ (s3 _ _ hb), upd_same, (al'.imp fun _ _ h => ((h.ts ts3).same sf).ts tu).append ⟨(hx.same sf).ts tu, (hy.same sf).ts tu, trivial⟩, ?_, rfl⟩
      · rw [List.map_append, List.sum_append]
        show _ + (kw ka + (kw kb + 0)) < _
        unfold kw
        omega
      · rw [List.map_append, List.sum_append]
        show c + (_ + (ka.leaves + (kb.leaves + 0))) = _
        omega
end
end KF

set_option Elab.async false
set_option linter.all false
set_option maxRecDepth 100000
set_option maxHeartbeats 4000000
namespace KF
open PySem PySem.Spec L2 TL
theorem deep_lt (p : Pg) : p.deep < parts p := by
  induction p with
  | name x => exact Nat.zero_lt_one
  | thing => exact Nat.zero_lt_one
  | take x k p h => show p.deep + 1 < 1 + parts p; omega
  | first p h => show p.deep + 1 < 1 + parts p; omega
  | second p h => show p.deep + 1 < 1 + parts p; omega
  | give p q h h' => show max p.deep q.deep + 1 < 1 + (parts p + parts q); omega
  | pair p q h h' => show max p.deep q.deep + 1 < 1 + (parts p + parts q); omega
section
variable {P : Program} {w : World} {K : PySem.W.Frag} {mg : Str → Option Value} {base : Heap}
def spLong (K : PySem.W.Frag) : Sp := fun vs H Q _ => ∃ (a : Addr) (v : V) (l : Ctx) (ws : List V) (p : Pg) (k : Kd), vs = [.ref a, v] ∧ H a = some (.lst ws) ∧ All2 (NmAt K H) l ws ∧ PgAt K H p v ∧
  kindIn l p = some k ∧ RowG l ∧ p.kdeep ≤ 4 ∧ parts p ≤ 100 ∧ l.length ≤ 4 ∧ (∀ H', Same H H' → Q .non H') ∧
  ∀ H' r m d u, Same H H' → Runs (tid [] p) r → Md m l k r d → PgAt K H' (tid [] d) u → d.deep ≤ 100 → parts d ≤ 1500 → Q u H'
theorem ok_long (T : Tx w K mg) : Df P w K mg base CX0 309 "_law_long" ["_law_row_here", "_law_program_here"] [] (spLong K) := by
  have GL := (ok_longForm (P := P) (base := base) T)
  refine df0 T.d_law_long T.g_law_long sc_law_long (fun _ _ _ _ _ _ us hl => match us, hl with | [_, _], _ => rfl) (fun vs H Q E h => ?_) (fun cdv A outer sh H vs Q E hr h => ?_)
  · obtain ⟨a, v, l, ws, p, k, rfl, _⟩ := h
    rfl
  obtain ⟨a, v, l, ws, p, k, rfl, ha, hl, hp, hk, hrg, hkd, hpp, hll, hn, q⟩ := h
  refine ⟨_, (pss_cons (ps_set (i := 2) sc_law_long.nd rfl (.inl rfl) pe_non) (pss_cons (ps_try_only (tb := fun W => tAsg (tCallS (spLongForm K) (WE W) (tCons (tVar 0) (tCons (tVar 1) tNil))) (gName 2)) (ts := fun _ _ _ => tAsg (tC .non) (gName 2)) (Wout := fun _ _ _ _ => False) rfl rfl ⟨rfl, by decide, Or.inl T.c_TooLong⟩ takes0
        (fun W pn xe tk _ => (pss_one (ps_set (i := 2) sc_law_long.nd rfl (.inl rfl) (by exact (calS GL hr (fun σ => passAt tk σ) (by exact (pa_cons (pv 0) (pa_cons (pv 1) pa_nil))))))))
        (fun _ _ _ _ _ _ _ => (pss_one (ps_set (i := 2) sc_law_long.nd rfl (.inl rfl) pe_non)))) (pss_one (ps_ret (pv 2))))), ?_⟩
  have hdp := deep_lt p
  refine ⟨_, rfl, _, rfl, a, v, l, ws, p, k, rfl, ha, hl, hp, hk, fun x hx => ?_, by omega, by omega, by omega, by omega, fun r hr => (runs_plain hrg.nox hrg.noe hk hr).1, fun H' s' => ⟨true, T.e_TooLong, fun _ b hb => ⟨_, rfl, hn H' s'⟩, fun z => nomatch z⟩, fun H' r m d u s' h1 h2 h3 h4 h5 => ⟨_, rfl, q H' r m d u s' h1 h2 h3 h4 h5⟩⟩
  have := hrg.good.lv x hx
  have := x.2.depth_lt
  omega
def spLacks (K : PySem.W.Frag) : Sp := fun vs H Q _ => ∃ (a m : Addr) (kv : V) (l : Ctx) (ws mv : List V) (k : Kd) (p : Pg) (starts : List Nat) (rows : List (List Line)) (M its : List Item) (rs' : List Nat), vs = [.ref a, kv, .ref m] ∧ H a = some (.lst ws) ∧ All2 (NmAt K H) l ws ∧ KdAt K H k kv ∧ H m = some (.lst mv) ∧ All2 (ItAt K H) M mv ∧ BookOk l k starts rows ∧
  Tl rows 101 l 0 k p starts rs' its ∧ M <+: its ∧ M.length ≤ 100000 ∧ M.length < its.length ∧ Ret H Q fun _ u => u = .bl true
theorem ok_lacks (T : Tx w K mg) : Df P w K mg base CX0 341 "_law_lacks" ["_law_row_here", "_law_kind_here", "_law_making"] [] (spLacks K) := by
  have GM := (ok_madeBy (P := P) (base := base) T)
  refine df0 T.d_law_lacks T.g_law_lacks sc_law_lacks (fun _ _ _ _ _ _ us hl => match us, hl with | [_, _, _], _ => rfl) (fun vs H Q E h => ?_) (fun cdv A outer sh H vs Q E hr h => ?_)
  · obtain ⟨a, m, kv, l, ws, mv, k, p, starts, rows, M, its, rs', rfl, _⟩ := h
    rfl
  obtain ⟨a, m, kv, l, ws, mv, k, p, starts, rows, M, its, rs', rfl, ha, hl, hk, hm, hmv, hbk, htl, hpre, hM, hlt, fin⟩ := h
  refine ⟨_, (pss_cons (ps_set (i := 3) sc_law_lacks.nd rfl (.inl rfl) pe_non) (pss_cons (ps_try_as (i := 4) (tb := fun W => tDrop (tCallS (spMadeBy K) (WE W) (tCons (tVar 0) (tCons (tVar 1) (tCons (tVar 2) tNil))))) (ts := fun a cls d => tAsg (tXf a cls d (He.ga K "NoMaking") "at" (tVar 4)) (gName 3)) (Wout := fun _ _ _ _ => False) rfl rfl sc_law_lacks.nd rfl rfl ⟨rfl, by decide, Or.inl T.c_NoMaking⟩ takes0
        (fun W pn xe tk _ => (pss_one (ps_expr (by exact (calS GM hr (fun σ => passAt tk σ) (by exact (pa_cons (pv 0) (pa_cons (pv 1) (pa_cons (pv 2) pa_nil)))))))))
        (fun a oe cls d pn hz hf => (pss_one (ps_set (i := 3) sc_law_lacks.nd rfl (.inl rfl) (by exact (pe_xf T.f_NoMaking.1 T.a_NoMaking_at hz hf (pv 4))))))) (pss_one (ps_ret (pe_cmpR op_eq (pv 3) (pe_callB call_len_seq rfl T.n_len PySem.boot_len (pa_cons (pv 2) pa_nil)) (nomark _)))))), ?_⟩
  have ml := hmv.length
  refine ⟨_, rfl, _, rfl, _, rfl, a, m, kv, l, ws, mv, k, p, starts, rows, M, its, rs', rfl, ha, hl, hk, hm, hmv, hbk, htl, hpre, hM, fun _ H' dx s' e => ⟨true, T.e_NoMaking, fun _ b hb => ?_, fun z => nomatch z⟩, fun H' u s' h => by omega⟩
  refine ⟨_, rfl, rfl, rfl, dx, _, _, rfl, e, rfl, ?_⟩
  refine ⟨_, rfl, _, rfl, m, _, rfl, .inl (.of (s' _ _ hm)), rfl, fin.of s' ?_⟩
  show V.bl (decide (V.int (M.length : Nat) = V.int (mv.length : Nat))) = _
  rw [ml, decide_eq_true rfl]
end
end KF

set_option Elab.async false
set_option linter.all false
set_option maxRecDepth 100000
set_option maxHeartbeats 4000000
/-! Plain maths: what is known of a long form. -/
namespace KF
open PySem PySem.Spec L2 TL
theorem lg_kdeep {D : Nat} : ∀ N, (∀ (l : Ctx) t k p, (∀ q ∈ l, q.2.depth ≤ D) → k.depth ≤ D → Lg N l t k p → p.kdeep ≤ D + 1) ∧ (∀ (l : Ctx) t p k, (∀ q ∈ l, q.2.depth ≤ D) → Hd N l t p k → p.kdeep ≤ D + 1)
  | 0 => ⟨fun _ _ _ _ _ _ h => by rw [Lg] at h; exact h.elim, fun _ _ _ _ _ h => by rw [Hd] at h; exact h.elim⟩
  | n + 1 => by
    obtain ⟨L, D'⟩ := lg_kdeep (D := D) n
    constructor
    · intro l t k p hl hk h
      cases k with
      | one => rw [Lg] at h; subst h; exact Nat.zero_le _
      | mark b => rw [Lg] at h; exact D' _ _ _ _ hl h
      | both a b =>
        rw [Lg] at h
        obtain ⟨q, r, rfl, h1, h2⟩ := h
        have hk' : 1 + max a.depth b.depth ≤ D := hk
        have := L _ _ _ _ hl (by omega) h1
        have := L _ _ _ _ hl (by omega) h2
        show max q.kdeep r.kdeep ≤ _
        omega
      | to a b =>
        rw [Lg] at h
        obtain ⟨q, rfl, h1⟩ := h
        have hk' : 1 + max a.depth b.depth ≤ D := hk
        have := L _ _ _ _ (fun q hq => by
          rcases List.mem_append.mp hq with hq | hq
          · exact hl q hq
          · cases List.mem_singleton.mp hq; show a.depth ≤ D; omega) (by omega) h1
        show max (a.depth + 1) q.kdeep ≤ _
        omega
    · intro l t p k hl h
      cases p with
      | name x => exact Nat.zero_le _
      | give p q =>
        rw [Hd] at h
        obtain ⟨a, h1, h2⟩ := h
        have hd : 1 + max a.depth k.depth ≤ D := Hd.depth hl h1
        have := D' _ _ _ _ hl h1
        have := L _ _ _ _ hl (by omega) h2
        show max p.kdeep q.kdeep ≤ _
        omega
      | first p =>
        rw [Hd] at h
        obtain ⟨b, h1⟩ := h
        exact D' _ _ p _ hl h1
      | second p =>
        rw [Hd] at h
        obtain ⟨b, h1⟩ := h
        exact D' _ _ p _ hl h1
      | take _ _ _ => rw [Hd] at h; exact h.elim; all_goals (intros; rename_i z; cases z)
      | pair _ _ => rw [Hd] at h; exact h.elim; all_goals (intros; rename_i z; cases z)
      | thing => rw [Hd] at h; exact h.elim; all_goals (intros; rename_i z; cases z)
theorem size_parts (p : Pg) : sizeN p ≤ parts p := by
  induction p with
  | name x => exact Nat.le_refl _
  | thing => exact Nat.zero_le _
  | take x k p h => show sizeN p ≤ 1 + parts p; omega
  | first p h => show sizeN p ≤ 1 + parts p; omega
  | second p h => show sizeN p ≤ 1 + parts p; omega
  | give p q h h' => show sizeN p + sizeN q ≤ 1 + (parts p + parts q); omega
  | pair p q h h' => show sizeN p + sizeN q ≤ 1 + (parts p + parts q); omega
/-- the long form of a program -/
def FormOK (l : Ctx) (k : Kd) (p f : Pg) : Prop := ∃ r m d, Runs (tid [] p) r ∧ Md m l k r d ∧ f = tid [] d ∧ d.deep ≤ 100 ∧ parts d ≤ 1500
theorem form_facts {l : Ctx} {k : Kd} {p f : Pg} (rg : RowG l) (s : Small l k) (h : FormOK l k p f) : ∃ starts rows its, BookOk l k starts rows ∧ Lg 250 l 0 k f ∧ Tl rows 101 l 0 k f starts [] its ∧ its.length = sizeN f ∧ f.deep ≤ 100 ∧ f.kdeep ≤ 14 ∧ sizeN f ≤ 1500 := by
  obtain ⟨r, m, d, _, h2, rfl, h4, h5⟩ := h
  obtain ⟨starts, rows, b1, b2⟩ := book_ok s
  have lg := form_lg rg.nox h2 h4
  have hd : (tid [] d).deep ≤ 100 := by rw [tid_deep]; exact h4
  obtain ⟨its, t1, t2⟩ := b2 250 _ hd lg
  have s1 := s.sum
  have kp := k.depth_lt
  refine ⟨starts, rows, its, b1, lg, t1, t2, hd, (lg_kdeep (D := 13) 250).1 _ _ _ _ (fun q hq => ?_) (by omega) lg, ?_⟩
  · have := leaves_le hq
    have := q.2.depth_lt
    omega
  · have := size_parts (tid [] d)
    rw [tid_parts] at this
    omega
theorem form_pair {l : Ctx} {k c : Kd} {p o f f' : Pg} (rg : RowG l) (hk : kindIn l p = some k) (h : FormOK l k p f) (h' : FormOK l (.both k c) (.pair p o) f') : ∃ f2, f' = .pair f f2 := by
  obtain ⟨r, m, d, h1, h2, rfl, _⟩ := h
  obtain ⟨r', m', d', h1', h2', rfl, _⟩ := h'
  obtain ⟨d2, rfl⟩ := more_first rg.nox hk h1 h2 h1' h2'
  exact ⟨tid [] d2, rfl⟩
theorem passF {X : Cx} : Passes (L2.CX X.prog X.w) X E0 := fun _ _ _ _ _ _ _ ⟨_, _, _, _, _, _, _, _, _, _, _, _, h⟩ => h.elim
end KF

set_option Elab.async false
set_option linter.all false
set_option maxRecDepth 100000
set_option maxHeartbeats 4000000
namespace KF
open PySem PySem.Spec L2 TL
section
variable {P : Program} {w : World} {K : PySem.W.Frag} {mg : Str → Option Value} {base : Heap}
/-- what is drawn, in a heap -/
structure Drw (K : PySem.W.Frag) (H' : Hp) (b : Addr) (ws : List V) (l : Ctx) (k : Kd) (p o : Pg) (kv pv ov bv : V) : Prop where
  gb : H' b = some (.lst ws)
  al : All2 (NmAt K H') l ws
  rg : RowG l
  l4 : l.length ≤ 4
  ak : KdAt K H' k kv
  k4 : k.leaves ≤ 4
  ap : PgAt K H' p pv
  kp : kindIn l p = some k
  dp : p.kdeep ≤ 4
  pp : parts p ≤ 40
  ao : PgAt K H' o ov
  ko : kindIn l o = some (.mark false)
  do_ : o.kdeep ≤ 4
  po : parts o ≤ 2000
  ab : KdAt K H' (.both k (.mark false)) bv
theorem Drw.same {K : PySem.W.Frag} {H H' : Hp} {b : Addr} {ws : List V} {l : Ctx} {k : Kd} {p o : Pg} {kv pv ov bv : V} (d : Drw K H b ws l k p o kv pv ov bv) (s : Same H H') : Drw K H' b ws l k p o kv pv ov bv :=
  ⟨s _ _ d.gb, d.al.imp fun _ _ h => h.same s, d.rg, d.l4, d.ak.same s, d.k4, d.ap.same s, d.kp, d.dp, d.pp, d.ao.same s, d.ko, d.do_, d.po, d.ab.same s⟩
/-- a form at v, or none -/
def FrAt (K : PySem.W.Frag) (H : Hp) (l : Ctx) (k : Kd) (p : Pg) (v : V) : Prop := v = .non ∨ ∃ f c, v = .ref c ∧ PgAt K H f v ∧ FormOK l k p f
def St1 (K : PySem.W.Frag) (H : Hp) (a : Addr) (σ : L2.St) (H' : Hp) : Prop := ∃ (i : Int) (po b : Addr) (ws : List V) (l : Ctx) (k : Kd) (p o : Pg) (kv pv ov bv fv : V) (z9 z10 z11 : Option V), σ = [some (.ref a), some (.int i), some (.ref po), some (.ref b), some kv, some pv, some ov, some bv, some fv, z9, z10, z11] ∧ Same H H' ∧
  Drw K H' b ws l k p o kv pv ov bv ∧ FrAt K H' l k p fv
def St2 (K : PySem.W.Frag) (H : Hp) (a : Addr) (σ : L2.St) (H' : Hp) : Prop := ∃ (i : Int) (po b c : Addr) (ws : List V) (l : Ctx) (k : Kd) (p o f : Pg) (kv pv ov bv mv : V) (z10 z11 : Option V), σ = [some (.ref a), some (.int i), some (.ref po), some (.ref b), some kv, some pv, some ov, some bv, some (.ref c), some mv, z10, z11] ∧ Same H H' ∧
  Drw K H' b ws l k p o kv pv ov bv ∧ PgAt K H' f (.ref c) ∧ FormOK l k p f ∧ FrAt K H' l (.both k (.mark false)) (.pair p o) mv ∧ sumLeaves l + (k.leaves + 1) ≤ 12
def spLaw (K : PySem.W.Frag) : Sp := fun vs H Q _ => ∃ (a : Addr) (ns : List Int), vs = [.ref a] ∧ SqL K H a (ns.map V.int) ∧ ns.length ≤ 100 ∧ ∀ H', Q (.bl true) H'
/-- max(1, min(L, 6)) -/
def rng (L : Nat) : Int := if (if (6 : Int) < (L : Int) then (6 : Int) else (L : Int)) > 1 then (if (6 : Int) < (L : Int) then (6 : Int) else (L : Int)) else 1
theorem rng_ok (L : Nat) : 1 ≤ rng L ∧ rng L ≤ 6 := by
  unfold rng
  split <;> split <;> omega
theorem but_new {H1 H2 H3 : Hp} {p : Addr} (s : Same H1 H2) (n : H1 p = none) (b : But p H2 H3) : Same H1 H3 := fun x o hx => b _ _ (ne_of_none hx n) (s _ _ hx)
theorem sum_le {l : Ctx} (h : ∀ q ∈ l, q.2.leaves ≤ 4) : sumLeaves l ≤ 4 * l.length := by
  induction l with
  | nil => exact Nat.zero_le _
  | cons q l ih =>
    have h1 := h q List.mem_cons_self
    have h2 := ih fun x hx => h x (List.mem_cons_of_mem _ hx)
    show q.2.leaves + sumLeaves l ≤ 4 * (l.length + 1)
    omega
def itD (x : Item) : PyData := .tuple [.int x.1, .int x.2.1, .int x.2.2]
theorem ItAt.dp {K : PySem.W.Frag} {H : Hp} {x : Item} {v : V} (h : ItAt K H x v) : Dp K H v (itD x) := by
  obtain ⟨t, rfl, q⟩ := h
  exact .tup q (.cons (.int _) (.cons (.int _) (.cons (.int _) .nil)))
theorem itD_lay (x : Item) : (itD x).canLay0 = true := by simp only [itD, PyData.canLay0, PyData.canLayAll0]; rfl
theorem All2.of_eq {α : Type} {R : α → V → Prop} {l : List α} {vs vs' : List V} (e : vs = vs') (h : All2 R l vs') : All2 R l vs := by rw [e]; exact h
theorem cut_last (mv : List V) : cutV mv none (some (-1)) = mv.take (mv.length - 1) := by
  unfold cutV
  have e1 : HT.sIx mv.length 0 none = 0 := rfl
  have e2 : HT.sIx mv.length mv.length (some (-1)) = mv.length - 1 := by
    show (if (-1 : Int) < 0 then ((-1 : Int) + (mv.length : Int)).toNat else min (-1 : Int).toNat mv.length) = _
    rw [if_pos (by decide)]
    omega
  rw [e1, e2, List.drop_zero, Nat.sub_zero]
theorem seq_same {H H' : Hp} {a : Addr} {xs : List V} (s : Same H H') (h : SqL K H a xs) : SqL K H' a xs := by
  rcases h with (h | ⟨o, h⟩) | h
  · exact .inl (.inl (s _ _ h))
  · exact .inl (.inr ⟨o, s _ _ h⟩)
  · exact .inr h
theorem fl0 {x : Str} {st : Stmt} {N ps : List Str} {k : Nat} {sp : Sp} {fd : FuncData} (F : FunD K x x (defArgs st) (defBody st) (defScope st) [] [] (He.ga K x) fd) (S : FnScope N ps (defScope st))
    (len : ∀ vs H Q E, sp vs H Q E → vs.length = ps.length)
    (hbody : ∀ (cdv : Value) (A : Around) (outer : List Env) (s : Shared) (H : Hp) (vs : List V) (Q : VK) (E : XK), LR k (A.deeper (PyProof.Rows.envOfC x (defScope st) s.heap.objs.size (He.ga K x) cdv)) → sp vs H Q E →
      ∃ t, PSs (cxOf CX0 P w K mg base N x (defScope st) (He.ga K x) cdv A outer s H E).nox (defBody st) t ∧ t { nx := fun _ H' => Q .non H', rt := Q } (start N vs) H) : FnL P w K mg base CX0 (k + 1) (He.ga K x) fd ps sp := by
  refine FunD_okL F S len fun cdv A outer s H vs Q E hr hsp => ?_
  obtain ⟨t, h, q⟩ := hbody cdv A outer s H vs Q E hr hsp
  exact ⟨t, h.nox, q⟩
theorem ok_law (T : Tx w K mg) {fd : FuncData} (F : FunD K "law" "law" (defArgs s_law) (defBody s_law) (defScope s_law) [] [] (He.ga K "law") fd) : FnL P w K mg base CX0 342 (He.ga K "law") fd ["_law_script"] (spLaw K) := by
  have GPool := (ok_pool (P := P) (base := base) T).mono (show 1 ≤ 341 by omega)
  have GRow := (ok_row (P := P) (base := base) T).mono (show 7 ≤ 341 by omega)
  have GDrawn := (ok_drawn (P := P) (base := base) T).mono (show 39 ≤ 341 by omega)
  have GProg := (ok_prog (P := P) (base := base) T 14).mono (show 2 * 14 + 10 ≤ 341 by omega)
  have GLong := (ok_long (P := P) (base := base) T).mono (show 309 ≤ 341 by omega)
  have GMany := (ok_many (P := P) (base := base) T).mono (show 2 ≤ 341 by omega)
  have GLvs := (ok_lvs (P := P) (base := base) T).mono (show 1 ≤ 341 by omega)
  have GMk := (ok_makingOf (P := P) (base := base) T).mono (show 260 ≤ 341 by omega)
  have GBy := (ok_madeBy (P := P) (base := base) T).mono (show 340 ≤ 341 by omega)
  have GSz := (ok_size (P := P) (base := base) T 101).mono (show 102 ≤ 341 by omega)
  have GLk := (ok_lacks (P := P) (base := base) T)
  refine fl0 F sc_law (fun vs H Q E h => ?_) (fun cdv A outer sh H vs Q E hr h => ?_)
  · obtain ⟨a, ns, rfl, _⟩ := h
    rfl
  obtain ⟨a, ns, rfl, ha, hn, fin⟩ := h
  refine ⟨_, (pss_cons (ps_for PassesOwn.never rfl (pi_range1 rfl T.n_range (pa_cons (pe_callB (call_max2 rfl) rfl T.n_max (by decide +kernel) (pa_cons pe_int (pa_cons (pe_callB (call_min2 rfl) rfl T.n_min (by decide +kernel) (pa_cons (pe_callB call_len_seq rfl T.n_len PySem.boot_len (pa_cons (pv 0) pa_nil)) (pa_cons pe_int pa_nil))) pa_nil))) pa_nil)) (pg_name (i := 1) sc_law.nd rfl (Or.inl rfl))
      (pss_cons (ps_set (i := 2) sc_law.nd rfl (.inl rfl) (cal GPool hr pass0 (pa_cons (pv 0) (pa_cons (pv 1) pa_nil)))) (pss_cons (ps_set (i := 3) sc_law.nd rfl (.inl rfl) (cal GRow hr pass0 (pa_cons (pv 2) pa_nil))) (pss_cons (ps_asg (cal GDrawn hr pass0 (pa_cons (pv 2) (pa_cons (pv 3) (pa_cons pe_int pa_nil)))) (pg_tup rfl (pgs_cons (pg_name (i := 4) sc_law.nd rfl (Or.inl rfl)) (pgs_cons (pg_name (i := 5) sc_law.nd rfl (Or.inl rfl)) pgs_nil)))) (pss_cons (ps_set (i := 6) sc_law.nd rfl (.inl rfl) (cal GProg hr pass0 (pa_cons (pv 2) (pa_cons (pe_callTy call_list_of rfl T.n_list (by decide +kernel) (pa_cons (pv 3) pa_nil)) (pa_cons (pe_tup (pa_cons pe_str (pa_cons pe_str pa_nil))) (pa_cons pe_int pa_nil)))))) (pss_cons (ps_set (i := 7) sc_law.nd rfl (.inl rfl) (pe_tup (pa_cons pe_str (pa_cons (pv 4) (pa_cons (pe_tup (pa_cons pe_str (pa_cons pe_str pa_nil))) pa_nil))))) (pss_cut ( St1 K H a ) (ps_set (i := 8) sc_law.nd rfl (.inl rfl) (cal GLong hr pass0 (pa_cons (pv 3) (pa_cons (pv 5) pa_nil)))) (pss_one (ps_if (PW.pt (pw_and (pt_cmpR op_lt (cal GMany hr pass0 (pa_cons (pv 6) pa_nil)) pe_int (nomark _)) (pw_and (pt_cmp (pc_notN (pv 8))) (pw_and1 (pt_cmpR op_le (cal GLvs hr pass0 (pa_cons (pv 3) (pa_cons (pv 7) pa_nil))) pe_int (nomark _))))))
          (pss_cut ( St2 K H a ) (ps_set (i := 9) sc_law.nd rfl (.inl rfl) (cal GLong hr pass0 (pa_cons (pv 3) (pa_cons (pe_tup (pa_cons pe_str (pa_cons (pv 5) (pa_cons (pv 6) pa_nil)))) pa_nil)))) (pss_cons (ps_set (i := 10) sc_law.nd rfl (.inl rfl) (cal GMk hr pass0 (pa_cons (pv 3) (pa_cons (pv 4) (pa_cons (pv 8) pa_nil))))) (pss_cons (ps_if (PW.pt (pw_or (pt_cmpR (op_neP hr.u) (cal GBy hr passF (pa_cons (pv 3) (pa_cons (pv 4) (pa_cons (pv 10) pa_nil)))) (pv 8) (nomark _)) (pw_or1 (pt_cmpR op_ne (pe_callB call_len_seq rfl T.n_len PySem.boot_len (pa_cons (pv 10) pa_nil)) (cal GSz hr pass0 (pa_cons (pv 8) pa_nil)) (nomark _))))) (pss_one (ps_ret pe_bl)) pss_nil) (pss_cut ( St2 K H a ) (ps_if (PW.pt (pw_and (pt_cmpR (op_neNil hr.u64) (pv 10) (pe_lst pa_nil) (nomark _)) (pw_and1 (pt_not (pt_val (cal GLk hr pass0 (pa_cons (pv 3) (pa_cons (pv 4) (pa_cons (pe_slice sl_list (pv 10) po_none (po_some (pe_un un_neg pe_int))) pa_nil))))))))) (pss_one (ps_ret pe_bl)) pss_nil) (pss_one (ps_if (pt_cmp (pc_notN (pv 9)))
              (pss_cons (ps_set (i := 11) sc_law.nd rfl (.inl rfl) (cal GMk hr pass0 (pa_cons (pv 3) (pa_cons (pv 7) (pa_cons (pv 9) pa_nil))))) (pss_cons (ps_if (PW.pt (pw_or (pt_cmpR (op_neP hr.u) (pv_at 9 1) (pv 8) (nomark _)) (pw_or1 (pt_cmpR op_ne (pe_callB call_len_seq rfl T.n_len PySem.boot_len (pa_cons (pv 11) pa_nil)) (pe_op op_add (cal GSz hr pass0 (pa_cons (pv 8) pa_nil)) (cal GSz hr pass0 (pa_cons (pv_at 9 2) pa_nil))) (nomark _))))) (pss_one (ps_ret pe_bl)) pss_nil) (pss_one (ps_if (pt_cmpR (op_neP hr.u) (cal GBy hr passF (pa_cons (pv 3) (pa_cons (pv 7) (pa_cons (pv 11) pa_nil)))) (pv 9) (nomark _)) (pss_one (ps_ret pe_bl)) pss_nil)))) pss_nil)))))) pss_nil))))))))) (pss_one (ps_ret pe_bl))), ?_⟩
  have hrng := rng_ok (ns.map V.int).length
  refine ⟨_, rfl, a, _, rfl, .inl ha, _, _, rfl, _, _, rfl, rng (ns.map V.int).length, rfl, by omega, by omega, for_range (lo := 0) (fun i σ H1 => Same H H1 ∧ ∃ z1 z2 z3 z4 z5 z6 z7 z8 z9 z10 z11, σ = [some (.ref a), z1, z2, z3, z4, z5, z6, z7, z8, z9, z10, z11]) ⟨.refl H, none, none, none, none, none, none, none, none, none, none, none, rfl⟩ ?_ fun σ H' _ => fin H'⟩
  rintro i σ H1 hi ⟨s1, z1, z2, z3, z4, z5, z6, z7, z8, z9, z10, z11, rfl⟩
  have hi6 : i ≤ 100 := by omega
  refine ⟨_, rfl, _, rfl, a, ns, i, congrArg (fun z => [V.ref a, V.int z]) (Int.zero_add _), seq_same s1 ha, hi6, fun po H2 s2 npo o2 => ?_⟩
  refine ⟨_, rfl, po, rfl, o2, fun l ws b H3 b3 o3 nb gb al rg hl4 => ?_⟩
  have bp : b ≠ po := nm_ne o3 gb al
  refine ⟨_, rfl, _, rfl, po, b, l, ws, rfl, o3, gb, al, rg.good, hl4, fun k p t kv pv H4 b4 o4 ht ak ap hk4 kn kd pt => ?_⟩
  refine ⟨t, _, rfl, ht, rfl, _, _, rfl, _, _, rfl, rfl, ?_⟩
  have gb4 := b4 _ _ bp gb
  have al4 := al.imp fun _ _ h => h.ts (o3.ts (K := K) b4)
  refine ⟨_, rfl, _, rfl, b, ws, rfl, .inl (.of gb4), fun c hc => ⟨sz2, fun t2 ht2 => ?_⟩⟩
  have s5 := same_new hc (.lst ws)
  have s6 := same_new ht2 (.tup [.str "mark", .str "a"])
  have s56 := s5.trans s6
  refine ⟨po, c, .ref t2, 1, l, ws, .mark false, rfl, o4.same s56, s6 _ _ upd_same, al4.imp fun _ _ h => h.same s56, ⟨t2, rfl, .of upd_same⟩, (by show 5 * 1 + 1 ≤ 14; decide), (by show 1 ≤ 4; decide), rg.good, by omega, fun o ov H5 b5 o5 ao dr => ?_⟩
  have b45 : But po H4 H5 := (But.of s56).trans b5
  have t45 : TS K H4 H5 := o4.ts b45
  refine ⟨_, rfl, sz2, fun t3 ht3 => ⟨sz3, fun t4 ht4 => ?_⟩⟩
  have s7 := same_new ht3 (.tup [.str "mark", .str "a"])
  have s8 := same_new ht4 (.tup [.str "both", kv, .ref t3])
  have s78 := s7.trans s8
  obtain ⟨H6, eH6⟩ : ∃ H6, H6 = upd (upd H5 t3 (.tup [.str "mark", .str "a"])) t4 (.tup [.str "both", kv, .ref t3]) := ⟨_, rfl⟩
  rw [← eH6] at s8 s78 ⊢
  have ht4' : SqT K H6 t4 [.str "both", kv, .ref t3] := by rw [eH6]; exact .of upd_same
  have sHH6 : Same H H6 := s1.trans ((but_new ((but_new s2 npo b3) : Same H1 H3) npo (b4.trans b45)).trans s78)
  have t46 : TS K H4 H6 := t45.trans s78.ts
  have ak6 := ak.ts t46
  have dw : Drw K H6 b ws l k p o kv pv ov (.ref t4) := ⟨s78 _ _ (b45 _ _ bp gb4), al4.imp fun _ _ h => h.ts t46, rg, hl4, ak6, hk4, ap.ts t46, kn, kd, pt, ao.same s78, dr.kn, dr.kd, dr_parts dr (by decide) (by show 1 ≤ 4; decide), ⟨t4, kv, .ref t3, rfl, ht4', ak6, t3, rfl, s8.tup (.of upd_same)⟩⟩
  clear eH6 ht4' t46 ak6 t45 b45
  refine ⟨fun N hN => ?_, ?_⟩
  · refine ⟨_, rfl, _, rfl, b, pv, l, ws, p, k, rfl, dw.gb, dw.al, dw.ap, kn, rg, kd, by omega, hl4, fun H' s' => hN _ _ ⟨_, po, b, ws, l, k, p, o, kv, pv, ov, .ref t4, .non, _, _, _, rfl, sHH6.trans s', dw.same s', .inl rfl⟩, fun H' r m d u s' h1 h2 h3 h4 h5 => ?_⟩
    obtain ⟨c', _, eu, _⟩ := h3.tagged
    exact hN _ _ ⟨_, po, b, ws, l, k, p, o, kv, pv, ov, .ref t4, u, _, _, _, rfl, sHH6.trans s', dw.same s', .inr ⟨_, c', eu, h3, r, m, d, h1, h2, rfl, h4, h5⟩⟩
  clear dw sHH6 pt kd kn dr ht ak ap ao
  rintro σ1 H7 ⟨i', po', b', ws', l', k', p', o', kv', pv', ov', bv', fv', y9, y10, y11, rfl, s7', dw, fr⟩
  have stay : ∀ H', Same H7 H' → ∀ x9 x10 x11, Same H H' ∧ ∃ z1 z2 z3 z4 z5 z6 z7 z8 z9 z10 z11, [some (V.ref a), some (.int i'), some (.ref po'), some (.ref b'), some kv', some pv', some ov', some bv', some fv', x9, x10, x11] = [some (.ref a), z1, z2, z3, z4, z5, z6, z7, z8, z9, z10, z11] := fun H' s' x9 x10 x11 => ⟨s7'.trans s', _, _, _, _, _, _, _, _, _, _, _, rfl⟩
  have zo := dw.po
  refine ⟨_, rfl, ov', o', rfl, dw.ao, by omega, fun u H8 s8' e => ?_⟩
  subst e
  refine ⟨_, _, rfl, rfl, _, rfl, if2 (fun eo => ?_) fun _ => stay _ s8' _ _ _⟩
  have po40 : parts o' < 40 := by have := of_decide_eq_true eo; omega
  rcases fr with rfl | ⟨f, c', rfl, af, hf⟩
  · exact ⟨_, rfl, _, rfl, ifF rfl (stay _ s8' _ _ _)⟩
  refine ⟨_, rfl, _, rfl, ifT rfl ?_⟩
  have dw8 := dw.same s8'
  have lsum := sum_le dw.rg.good.lv
  have l4 := dw.l4
  have k4 := dw.k4
  refine ⟨_, rfl, _, rfl, b', bv', l', ws', .both k' (.mark false), rfl, dw8.gb, dw8.al, dw8.ab, (by show sumLeaves l' + (k'.leaves + 1) ≤ 1000; omega), fun u H9 s9' e => ?_⟩
  subst e
  refine ⟨_, _, rfl, rfl, _, rfl, if2 (fun el => ?_) fun _ => stay _ (s8'.trans s9') _ _ _⟩
  have l12 : sumLeaves l' + (k'.leaves + 1) ≤ 12 := by
    have h := of_decide_eq_true el
    have e : (Kd.both k' (.mark false)).leaves = k'.leaves + 1 := rfl
    rw [e] at h
    omega
  have s89 := s8'.trans s9'
  have dw9 := dw.same s89
  have af9 := af.same s89
  have dwpp := dw.pp
  have dwdp := dw.dp
  have dwdo := dw.do_
  refine ⟨fun N hN => ?_, ?_⟩
  · -- the form of the pair
    refine ⟨_, rfl, _, rfl, _, rfl, sz3, fun t' ht' => ?_⟩
    have sx := same_new ht' (.tup [.str "pair", pv', ov'])
    have dwx := dw9.same sx
    refine ⟨b', .ref t', l', ws', .pair p' o', .both k' (.mark false), rfl, dwx.gb, dwx.al, ⟨t', pv', ov', rfl, .of upd_same, dwx.ap, dwx.ao⟩, kin_pair.mpr ⟨k', .mark false, rfl, dw.kp, dw.ko⟩, dw.rg, (by show max p'.kdeep o'.kdeep ≤ 4; omega), (by show 1 + (parts p' + parts o') ≤ 100; omega), l4, fun H' s' => hN _ _ ⟨_, _, b', c', ws', l', k', p', o', f, kv', pv', ov', bv', .non, _, _, rfl, s7'.trans (s89.trans (sx.trans s')), dwx.same s', af9.same (sx.trans s'), hf, .inl rfl, l12⟩, fun H' r m d u s' h1 h2 h3 h4 h5 => ?_⟩
    obtain ⟨c2, _, eu, _⟩ := h3.tagged
    exact hN _ _ ⟨_, _, b', c', ws', l', k', p', o', f, kv', pv', ov', bv', u, _, _, rfl, s7'.trans (s89.trans (sx.trans s')), dwx.same s', af9.same (sx.trans s'), hf, .inr ⟨_, c2, eu, h3, r, m, d, h1, h2, rfl, h4, h5⟩, l12⟩
  clear stay s7' s8' s9' s89 dw dw8 dw9 af af9 hf el eo lsum l4 k4 l12 zo po40 dwpp dwdp dwdo
  rintro σ1 H7 ⟨i', po', b', c', ws', l', k', p', o', f, kv', pv', ov', bv', mv9, y10, y11, rfl, s7', dw, af, hf, fr, l12⟩
  have l4 := dw.l4
  obtain ⟨starts, rows, its, hbk, lg, htl, hlen, fd, fk, fz⟩ := form_facts dw.rg (k := k') ⟨by omega, by omega⟩ hf
  refine ⟨_, rfl, _, rfl, _, rfl, b', kv', .ref c', l', ws', k', f, starts, rows, its, [], rfl, dw.gb, dw.al, dw.ak, af, hbk, lg, htl, by omega, by omega, fun H8 mk mv s8' gmk am => ?_⟩
  have dw8 := dw.same s8'
  have af8 := af.same s8'
  have ml := am.length
  refine ⟨_, rfl, _, rfl, _, rfl, b', mk, kv', l', ws', mv, k', f, starts, rows, its, its, [], rfl, dw8.gb, dw8.al, dw8.ak, gmk, am, hbk, htl, List.prefix_refl _, by omega, fun h => absurd h (Nat.lt_irrefl _), fun H9 u s9' _ au => ?_⟩
  refine ⟨_, rfl, f, f, au, af8.same s9', by omega, _, rfl, ifF (by rw [decide_eq_true rfl]; rfl) ?_⟩
  refine ⟨_, rfl, mk, _, rfl, .inl (.of (s9' _ _ gmk)), _, rfl, .ref c', f, rfl, af8.same s9', by omega, fun u2 H10 s10' e => ?_⟩
  subst e
  refine ⟨rfl, _, rfl, ifF (by rw [ml, hlen, decide_eq_true rfl]; rfl) ?_⟩
  have s810 := s9'.trans s10'
  have gmk10 := s810 _ _ gmk
  have am10 := am.imp fun _ _ h => h.ts s810.ts
  have dw10 := dw8.same s810
  have af10 := af8.same s810
  have s710 := s7'.trans (s8'.trans s810)
  have fr10 : FrAt K H10 l' (.both k' (.mark false)) (.pair p' o') mv9 := by
    rcases fr with h | ⟨f', c2, e, h1, h2⟩
    · exact .inl h
    · exact .inr ⟨f', c2, e, h1.same (s8'.trans s810), h2⟩
  refine ⟨fun N hN => ?_, ?_⟩
  · have stay : ∀ H', Same H10 H' → N [some (.ref a), some (.int i'), some (.ref po'), some (.ref b'), some kv', some pv', some ov', some bv', some (.ref c'), some mv9, some (.ref mk), y11] H' := fun H' s' => hN _ _ ⟨_, _, b', c', ws', l', k', p', o', f, kv', pv', ov', bv', mv9, _, _, rfl, s710.trans s', dw10.same s', af10.same s', hf, (by
      rcases fr10 with h | ⟨f', c2, e, h1, h2⟩
      · exact .inl h
      · exact .inr ⟨f', c2, e, h1.same s', h2⟩), l12⟩
    refine ⟨_, rfl, sz0, fun e he => ?_⟩
    have se := same_new he (.lst [])
    refine ⟨mk, e, _, mv, rfl, rfl, .of (se _ _ gmk10), All2.dp (f := itD) (fun x v h => (h.ts se.ts).dp) am10, lays_all itD_lay _, .of upd_same, _, rfl, ?_⟩
    cases hmv : mv with
    | nil => exact ifF rfl (stay _ se)
    | cons v0 vs0 =>
    rw [← hmv]
    have mpos : 0 < mv.length := by rw [hmv]; exact Nat.succ_pos _
    refine ifT (by rw [hmv]; rfl) ?_
    refine ⟨_, rfl, _, rfl, _, rfl, _, rfl, _, rfl, mk, mv, rfl, .of (se _ _ gmk10), fun m2 hm2 => ?_⟩
    have s2' := same_new hm2 (.lst (cutV mv none (some (-1))))
    have s22 := se.trans s2'
    have dw12 := dw10.same s22
    have hcut : All2 (ItAt K (upd (upd H10 e (.lst [])) m2 (.lst (cutV mv none (some (-1)))))) (its.take (its.length - 1)) (cutV mv none (some (-1))) :=
      All2.of_eq ((cut_last mv).trans (by rw [ml])) ((am10.imp fun _ _ h => h.ts s22.ts).take (its.length - 1))
    have tl : (its.take (its.length - 1)).length = its.length - 1 := by rw [List.length_take]; omega
    refine ⟨b', m2, kv', l', ws', _, k', f, starts, rows, its.take (its.length - 1), its, [], rfl, dw12.gb, dw12.al, dw12.ak, upd_same, hcut, hbk, htl, List.take_prefix _ _, by omega, by omega, fun u H13 s13 e2 => ?_⟩
    subst e2
    exact ⟨_, rfl, ifF rfl (stay _ (s22.trans s13))⟩
  clear fr10 s710 af10 dw10 am10 gmk10 s810 s10' s9' au dw8 af8 gmk am ml htl hlen lg hbk fd fk fz fr hf af dw l12 l4 s8' s7'
  rintro σ1 H7 ⟨i', po', b', c', ws', l', k', p', o', f, kv', pv', ov', bv', mv9, y10, y11, rfl, s7', dw, af, hf, fr, l12⟩
  have stay : ∀ H', Same H7 H' → ∀ x10 x11, Same H H' ∧ ∃ z1 z2 z3 z4 z5 z6 z7 z8 z9 z10 z11, [some (V.ref a), some (.int i'), some (.ref po'), some (.ref b'), some kv', some pv', some ov', some bv', some (.ref c'), some mv9, x10, x11] = [some (.ref a), z1, z2, z3, z4, z5, z6, z7, z8, z9, z10, z11] := fun H' s' x10 x11 => ⟨s7'.trans s', _, _, _, _, _, _, _, _, _, _, _, rfl⟩
  rcases fr with rfl | ⟨f', c2, rfl, am, hm⟩
  · exact ⟨_, rfl, _, rfl, ifF rfl (stay _ (.refl _) _ _)⟩
  refine ⟨_, rfl, _, rfl, ifT rfl ?_⟩
  have l4 := dw.l4
  obtain ⟨f2, rfl⟩ := form_pair dw.rg dw.kp hf hm
  obtain ⟨_, _, _, _, _, _, _, fd1, fk1, _⟩ := form_facts dw.rg (k := k') ⟨by omega, by omega⟩ hf
  obtain ⟨starts, rows, its, hbk, lg, htl, hlen, fd, fk, fz⟩ := form_facts dw.rg (k := .both k' (.mark false)) ⟨by show sumLeaves l' + (k'.leaves + 1) ≤ 13; omega, by omega⟩ hm
  have fd' : max f.deep f2.deep + 1 ≤ 100 := fd
  have hlen' : its.length = sizeN f + sizeN f2 := hlen
  refine ⟨_, rfl, _, rfl, _, rfl, b', bv', .ref c2, l', ws', .both k' (.mark false), .pair f f2, starts, rows, its, [], rfl, dw.gb, dw.al, dw.ab, am, hbk, lg, htl, by omega, by omega, fun H8 mk mv s8' gmk amk => ?_⟩
  have dw8 := dw.same s8'
  have af8 := af.same s8'
  have am8 := am.same s8'
  have ml := amk.length
  obtain ⟨t2, y, z, e2, st, ay, az⟩ := id am8
  cases e2
  refine ⟨_, rfl, c2, _, _, rfl, st, rfl, _, rfl, f, f, ay, af8, by omega, _, rfl, ifF (by rw [decide_eq_true rfl]; rfl) ?_⟩
  refine ⟨_, rfl, mk, _, rfl, .inl (.of gmk), _, rfl, .ref c', f, rfl, af8, by omega, fun u H9 s9' e => ?_⟩
  subst e
  refine ⟨_, rfl, c2, _, _, rfl, s9'.tup st, rfl, z, f2, rfl, az.same s9', by omega, fun u H10 s10' e => ?_⟩
  subst e
  have s810 := s9'.trans s10'
  refine ⟨_, _, rfl, rfl, rfl, _, rfl, ifF ?_ ?_⟩
  · rw [ml, hlen', show ((sizeN f + sizeN f2 : Nat) : Int) = (sizeN f : Int) + (sizeN f2 : Int) from Int.natCast_add _ _, decide_eq_true rfl]; rfl
  have dw10 := dw8.same s810
  refine ⟨_, rfl, _, rfl, _, rfl, b', mk, bv', l', ws', mv, .both k' (.mark false), .pair f f2, starts, rows, its, its, [], rfl, dw10.gb, dw10.al, dw10.ab, s810 _ _ gmk, amk.imp fun _ _ h => h.ts s810.ts, hbk, htl, List.prefix_refl _, by omega, fun h => absurd h (Nat.lt_irrefl _), fun H11 u s11' _ au => ?_⟩
  refine ⟨_, rfl, .pair f f2, .pair f f2, au, am8.same (s810.trans s11'), by omega, _, rfl, ifF (by rw [decide_eq_true rfl]; rfl) (stay _ (s8'.trans (s810.trans s11')) _ _)⟩
end
end KF

set_option Elab.async false
set_option linter.all false
set_option maxRecDepth 100000
set_option maxHeartbeats 0
/-! The head: facts by names (printed by gen_end.py), the run. -/
namespace KF
open PySem PySem.Spec PyProof.Rows L2 He

def faL0 : List He.Fa := [.glo "is_mark", .glo "has_form", .glo "is_kind", .glo "leaves_of", .glo "ends_of", .glo "ways_of", .glo "shown_kind", .glo "word_at", .glo "kind_from", .glo "read_kind", .glo "there_with", .glo "move_ends", .glo "book_of", .glo "inner", .glo "parts_of", .glo "deep_of", .glo "part_at", .glo "with_inner", .glo "with_part", .glo "known_as"]
def faL1 : List He.Fa := [.glo "kind_here", .glo "kind_within", .glo "kind_of", .glo "tidied_within", .glo "tidied", .glo "can_step", .glo "put_places", .glo "step_places", .glo "name_count", .glo "with_given", .glo "what_comes", .glo "parts_that_come", .glo "done_at", .glo "next_place", .glo "run", .glo "taken_name", .glo "is_long_here", .glo "gone_along", .glo "is_long", .glo "size_of"]
def faL2 : List He.Fa := [.glo "long_form", .glo "moves_in", .glo "same_way", .glo "way_in", .glo "which_of", .glo "making_of", .glo "made_by", .glo "_law_pool", .glo "_law_take", .glo "_law_kind", .glo "_law_seen", .glo "_law_uses", .glo "_law_used", .glo "_law_made", .glo "_law_program", .glo "_law_row", .glo "_law_many", .glo "_law_words", .glo "_law_drawn", .glo "_law_long"]
def faL3 : List He.Fa := [.glo "_law_leaves", .glo "_law_lacks", .glo "law", .glo "KindError", .glo "NoKind", .glo "NoFit", .glo "TooLong", .glo "NoLong", .glo "NoMaking", .glo "Book", .glo "Longer", .glo "Maker", .free "isinstance", .free "tuple", .free "str", .free "len", .free "sorted", .free "set", .free "enumerate", .free "list"]
def faL4 : List He.Fa := [.free "sum", .free "max", .free "min", .free "reversed", .free "range", .free "int", .free "zip", .str "LETTERS" "abcdefghijklmnopqrstuvwxyz", .int "LONGEST" 6, .glo "ONE", .int "MOST_LEAVES" 24, .int "MOST_DEPTH" 12, .glo "SIGNS", .int "DEEPEST" 12, .glo "THING", .int "MOST_STEPS" 200, .int "MOST_PARTS_steps" 1500, .int "MOST_DEEP_steps" 100, .int "MOST_PARTS_longs" 1500, .int "MOST_DEEP_longs" 100]
def faL5 : List He.Fa := [.cls "Book", .mkr "Book", .cls "Longer", .mkr "Longer", .cls "Maker", .mkr "Maker", .meth "Book" "number", .meth "Book" "rows_of", .meth "Book" "fill", .meth "Longer" "spend", .meth "Longer" "made", .meth "Longer" "along", .meth "Maker" "tell", .meth "Maker" "tell_mark", .meth "Maker" "make", .meth "Maker" "make_mark", .meth "Maker" "go", .noat "Book" "rooms", .noat "Book" "numbers", .noat "Book" "rows"]
def faL6 : List He.Fa := [.noat "Longer" "left", .noat "Maker" "row", .noat "Maker" "kind", .noat "Maker" "starts", .noat "Maker" "rooms", .noat "Maker" "lines", .noat "Maker" "making", .noat "Maker" "done", .exc "TooLong", .noat "NoMaking" "at", .exm "TooLong" "TooLong" true, .exm "NoMaking" "NoMaking" true]
def faL : List He.Fa := faL0 ++ (faL1 ++ (faL2 ++ (faL3 ++ (faL4 ++ (faL5 ++ (faL6))))))
def fnL0 : List He.DefD := [⟨("is_mark", none), "is_mark", "is_mark", defArgs s_is_mark, defBody s_is_mark, defScope s_is_mark, [], []⟩, ⟨("has_form", none), "has_form", "has_form", defArgs s_has_form, defBody s_has_form, defScope s_has_form, [], []⟩, ⟨("is_kind", none), "is_kind", "is_kind", defArgs s_is_kind, defBody s_is_kind, defScope s_is_kind, [], []⟩, ⟨("leaves_of", none), "leaves_of", "leaves_of", defArgs s_leaves_of, defBody s_leaves_of, defScope s_leaves_of, [], []⟩, ⟨("ends_of", none), "ends_of", "ends_of", defArgs s_ends_of, defBody s_ends_of, defScope s_ends_of, [], []⟩, ⟨("ways_of", none), "ways_of", "ways_of", defArgs s_ways_of, defBody s_ways_of, defScope s_ways_of, [], []⟩, ⟨("NoFit", some "__init__"), "__init__", "NoFit.__init__", defArgs s_NoFit___init__, defBody s_NoFit___init__, defScope s_NoFit___init__, [], []⟩, ⟨("NoMaking", some "__init__"), "__init__", "NoMaking.__init__", defArgs s_NoMaking___init__, defBody s_NoMaking___init__, defScope s_NoMaking___init__, [], []⟩, ⟨("shown_kind", none), "shown_kind", "shown_kind", defArgs s_shown_kind, defBody s_shown_kind, defScope s_shown_kind, [], []⟩, ⟨("word_at", none), "word_at", "word_at", defArgs s_word_at, defBody s_word_at, defScope s_word_at, [], []⟩]
def fnL1 : List He.DefD := [⟨("kind_from", none), "kind_from", "kind_from", defArgs s_kind_from, defBody s_kind_from, defScope s_kind_from, [], []⟩, ⟨("read_kind", none), "read_kind", "read_kind", defArgs s_read_kind, defBody s_read_kind, defScope s_read_kind, [], []⟩, ⟨("there_with", none), "there_with", "there_with", defArgs s_there_with, defBody s_there_with, defScope s_there_with, [], []⟩, ⟨("move_ends", none), "move_ends", "move_ends", defArgs s_move_ends, defBody s_move_ends, defScope s_move_ends, [], []⟩, ⟨("Book", some "__init__"), "__init__", "Book.__init__", defArgs s_Book___init__, defBody s_Book___init__, defScope s_Book___init__, [], []⟩, ⟨("Book", some "number"), "number", "Book.number", defArgs s_Book_number, defBody s_Book_number, defScope s_Book_number, [], []⟩, ⟨("Book", some "rows_of"), "rows_of", "Book.rows_of", defArgs s_Book_rows_of, defBody s_Book_rows_of, defScope s_Book_rows_of, [], []⟩, ⟨("Book", some "fill"), "fill", "Book.fill", defArgs s_Book_fill, defBody s_Book_fill, defScope s_Book_fill, [], []⟩, ⟨("book_of", none), "book_of", "book_of", defArgs s_book_of, defBody s_book_of, defScope s_book_of, [], []⟩, ⟨("inner", none), "inner", "inner", defArgs s_inner, defBody s_inner, defScope s_inner, [], []⟩]
def fnL2 : List He.DefD := [⟨("parts_of", none), "parts_of", "parts_of", defArgs s_parts_of, defBody s_parts_of, defScope s_parts_of, [], []⟩, ⟨("deep_of", none), "deep_of", "deep_of", defArgs s_deep_of, defBody s_deep_of, defScope s_deep_of, [], []⟩, ⟨("part_at", none), "part_at", "part_at", defArgs s_part_at, defBody s_part_at, defScope s_part_at, [], []⟩, ⟨("with_inner", none), "with_inner", "with_inner", defArgs s_with_inner, defBody s_with_inner, defScope s_with_inner, [], []⟩, ⟨("with_part", none), "with_part", "with_part", defArgs s_with_part, defBody s_with_part, defScope s_with_part, [], []⟩, ⟨("known_as", none), "known_as", "known_as", defArgs s_known_as, defBody s_known_as, defScope s_known_as, [], []⟩, ⟨("kind_here", none), "kind_here", "kind_here", defArgs s_kind_here, defBody s_kind_here, defScope s_kind_here, [], []⟩, ⟨("kind_within", none), "kind_within", "kind_within", defArgs s_kind_within, defBody s_kind_within, defScope s_kind_within, [], []⟩, ⟨("kind_of", none), "kind_of", "kind_of", defArgs s_kind_of, defBody s_kind_of, defScope s_kind_of, [], []⟩, ⟨("tidied_within", none), "tidied_within", "tidied_within", defArgs s_tidied_within, defBody s_tidied_within, defScope s_tidied_within, [], []⟩]
def fnL3 : List He.DefD := [⟨("tidied", none), "tidied", "tidied", defArgs s_tidied, defBody s_tidied, defScope s_tidied, [], []⟩, ⟨("can_step", none), "can_step", "can_step", defArgs s_can_step, defBody s_can_step, defScope s_can_step, [], []⟩, ⟨("put_places", none), "put_places", "put_places", defArgs s_put_places, defBody s_put_places, defScope s_put_places, [], []⟩, ⟨("step_places", none), "step_places", "step_places", defArgs s_step_places, defBody s_step_places, defScope s_step_places, [], []⟩, ⟨("name_count", none), "name_count", "name_count", defArgs s_name_count, defBody s_name_count, defScope s_name_count, [], []⟩, ⟨("with_given", none), "with_given", "with_given", defArgs s_with_given, defBody s_with_given, defScope s_with_given, [], []⟩, ⟨("what_comes", none), "what_comes", "what_comes", defArgs s_what_comes, defBody s_what_comes, defScope s_what_comes, [], []⟩, ⟨("parts_that_come", none), "parts_that_come", "parts_that_come", defArgs s_parts_that_come, defBody s_parts_that_come, defScope s_parts_that_come, [], []⟩, ⟨("done_at", none), "done_at", "done_at", defArgs s_done_at, defBody s_done_at, defScope s_done_at, [], []⟩, ⟨("next_place", none), "next_place", "next_place", defArgs s_next_place, defBody s_next_place, defScope s_next_place, [], []⟩]
def fnL4 : List He.DefD := [⟨("run", none), "run", "run", defArgs s_run, defBody s_run, defScope s_run, [.non], []⟩, ⟨("taken_name", none), "taken_name", "taken_name", defArgs s_taken_name, defBody s_taken_name, defScope s_taken_name, [], []⟩, ⟨("is_long_here", none), "is_long_here", "is_long_here", defArgs s_is_long_here, defBody s_is_long_here, defScope s_is_long_here, [], []⟩, ⟨("gone_along", none), "gone_along", "gone_along", defArgs s_gone_along, defBody s_gone_along, defScope s_gone_along, [], []⟩, ⟨("is_long", none), "is_long", "is_long", defArgs s_is_long, defBody s_is_long, defScope s_is_long, [], []⟩, ⟨("size_of", none), "size_of", "size_of", defArgs s_size_of, defBody s_size_of, defScope s_size_of, [], []⟩, ⟨("Longer", some "__init__"), "__init__", "Longer.__init__", defArgs s_Longer___init__, defBody s_Longer___init__, defScope s_Longer___init__, [], []⟩, ⟨("Longer", some "spend"), "spend", "Longer.spend", defArgs s_Longer_spend, defBody s_Longer_spend, defScope s_Longer_spend, [], []⟩, ⟨("Longer", some "made"), "made", "Longer.made", defArgs s_Longer_made, defBody s_Longer_made, defScope s_Longer_made, [], []⟩, ⟨("Longer", some "along"), "along", "Longer.along", defArgs s_Longer_along, defBody s_Longer_along, defScope s_Longer_along, [], []⟩]
def fnL5 : List He.DefD := [⟨("long_form", none), "long_form", "long_form", defArgs s_long_form, defBody s_long_form, defScope s_long_form, [], []⟩, ⟨("moves_in", none), "moves_in", "moves_in", defArgs s_moves_in, defBody s_moves_in, defScope s_moves_in, [], []⟩, ⟨("same_way", none), "same_way", "same_way", defArgs s_same_way, defBody s_same_way, defScope s_same_way, [], []⟩, ⟨("way_in", none), "way_in", "way_in", defArgs s_way_in, defBody s_way_in, defScope s_way_in, [], []⟩, ⟨("which_of", none), "which_of", "which_of", defArgs s_which_of, defBody s_which_of, defScope s_which_of, [], []⟩, ⟨("Maker", some "__init__"), "__init__", "Maker.__init__", defArgs s_Maker___init__, defBody s_Maker___init__, defScope s_Maker___init__, [], []⟩, ⟨("Maker", some "tell"), "tell", "Maker.tell", defArgs s_Maker_tell, defBody s_Maker_tell, defScope s_Maker_tell, [], []⟩, ⟨("Maker", some "tell_mark"), "tell_mark", "Maker.tell_mark", defArgs s_Maker_tell_mark, defBody s_Maker_tell_mark, defScope s_Maker_tell_mark, [], []⟩, ⟨("Maker", some "make"), "make", "Maker.make", defArgs s_Maker_make, defBody s_Maker_make, defScope s_Maker_make, [], []⟩, ⟨("Maker", some "make_mark"), "make_mark", "Maker.make_mark", defArgs s_Maker_make_mark, defBody s_Maker_make_mark, defScope s_Maker_make_mark, [], []⟩]
def fnL6 : List He.DefD := [⟨("Maker", some "go"), "go", "Maker.go", defArgs s_Maker_go, defBody s_Maker_go, defScope s_Maker_go, [], []⟩, ⟨("making_of", none), "making_of", "making_of", defArgs s_making_of, defBody s_making_of, defScope s_making_of, [], []⟩, ⟨("made_by", none), "made_by", "made_by", defArgs s_made_by, defBody s_made_by, defScope s_made_by, [], []⟩, ⟨("_law_pool", none), "_law_pool", "_law_pool", defArgs s_law_pool, defBody s_law_pool, defScope s_law_pool, [], []⟩, ⟨("_law_take", none), "_law_take", "_law_take", defArgs s_law_take, defBody s_law_take, defScope s_law_take, [], []⟩, ⟨("_law_kind", none), "_law_kind", "_law_kind", defArgs s_law_kind, defBody s_law_kind, defScope s_law_kind, [], []⟩, ⟨("_law_seen", none), "_law_seen", "_law_seen", defArgs s_law_seen, defBody s_law_seen, defScope s_law_seen, [], []⟩, ⟨("_law_uses", none), "_law_uses", "_law_uses", defArgs s_law_uses, defBody s_law_uses, defScope s_law_uses, [], []⟩, ⟨("_law_used", none), "_law_used", "_law_used", defArgs s_law_used, defBody s_law_used, defScope s_law_used, [], []⟩, ⟨("_law_made", none), "_law_made", "_law_made", defArgs s_law_made, defBody s_law_made, defScope s_law_made, [], []⟩]
def fnL7 : List He.DefD := [⟨("_law_program", none), "_law_program", "_law_program", defArgs s_law_program, defBody s_law_program, defScope s_law_program, [], []⟩, ⟨("_law_row", none), "_law_row", "_law_row", defArgs s_law_row, defBody s_law_row, defScope s_law_row, [], []⟩, ⟨("_law_many", none), "_law_many", "_law_many", defArgs s_law_many, defBody s_law_many, defScope s_law_many, [], []⟩, ⟨("_law_words", none), "_law_words", "_law_words", defArgs s_law_words, defBody s_law_words, defScope s_law_words, [], []⟩, ⟨("_law_drawn", none), "_law_drawn", "_law_drawn", defArgs s_law_drawn, defBody s_law_drawn, defScope s_law_drawn, [], []⟩, ⟨("_law_long", none), "_law_long", "_law_long", defArgs s_law_long, defBody s_law_long, defScope s_law_long, [], []⟩, ⟨("_law_leaves", none), "_law_leaves", "_law_leaves", defArgs s_law_leaves, defBody s_law_leaves, defScope s_law_leaves, [], []⟩, ⟨("_law_lacks", none), "_law_lacks", "_law_lacks", defArgs s_law_lacks, defBody s_law_lacks, defScope s_law_lacks, [], []⟩, ⟨("law", none), "law", "law", defArgs s_law, defBody s_law, defScope s_law, [], []⟩]
def fnL : List He.DefD := fnL0 ++ (fnL1 ++ (fnL2 ++ (fnL3 ++ (fnL4 ++ (fnL5 ++ (fnL6 ++ (fnL7)))))))
def loose0 : List Str := ["LETTERS", "LONGEST", "is_mark", "ONE", "MOST_LEAVES", "MOST_DEPTH", "has_form", "is_kind", "leaves_of", "ends_of", "ways_of", "KindError", "NoKind", "NoFit", "TooLong", "NoLong", "NoMaking", "SIGNS", "DEEPEST", "shown_kind", "word_at", "kind_from", "read_kind", "there_with", "move_ends", "Book", "book_of", "THING", "inner", "parts_of"]
def loose1 : List Str := ["deep_of", "part_at", "with_inner", "with_part", "known_as", "kind_here", "kind_within", "kind_of", "tidied_within", "tidied", "can_step", "put_places", "step_places", "MOST_STEPS", "MOST_PARTS_steps", "MOST_DEEP_steps", "name_count", "with_given", "what_comes", "parts_that_come", "done_at", "next_place", "run", "MOST_PARTS_longs", "MOST_DEEP_longs", "taken_name", "is_long_here", "gone_along", "is_long", "size_of"]
def loose2 : List Str := ["Longer", "long_form", "moves_in", "same_way", "way_in", "which_of", "Maker", "making_of", "made_by", "_law_pool", "_law_take", "_law_kind", "_law_seen", "_law_uses", "_law_used", "_law_made", "_law_program", "_law_row", "_law_many", "_law_words", "_law_drawn", "_law_long", "_law_leaves", "_law_lacks"]
def loose : List Str := loose0 ++ (loose1 ++ (loose2))
def tabL : List He.Tab := [(fun K => He.ga K "SIGNS", ["->", "*"])]
abbrev lawAt : Nat := 96

def slB (C : Addr) (hd del : Bool) : List Value → List (Option Value) → Bool
  | .ref C' :: bm, [_, _, _, _, some (.builtin n), _] => decide (C' = C) && (decide (n = "ValueError.__new__") && (PySem.HandSPX.refsVE bm && (hd && !del)))
  | _, _ => false
theorem slB_ok {C : Addr} {hd del : Bool} : ∀ {mro : List Value} {sl : List (Option Value)}, slB C hd del mro sl = true → ∃ bm k0 k1 k2 k3 k5, mro = .ref C :: bm ∧ sl = [k0, k1, k2, k3, some (.builtin "ValueError.__new__"), k5] ∧ PySem.HandSPX.refsVE bm = true ∧ hd = true ∧ del = false := by
  intro mro sl h
  unfold slB at h
  split at h
  · rename_i C' bm k0 k1 k2 k3 n k5
    obtain ⟨e2, h8⟩ := ba h
    obtain ⟨e3, h9⟩ := ba h8
    obtain ⟨e4, h10⟩ := ba h9
    obtain ⟨e5, e6⟩ := ba h10
    refine ⟨bm, k0, k1, k2, k3, k5, by rw [of_decide_eq_true e2], by rw [of_decide_eq_true e3], e4, e5, ?_⟩
    cases del with
    | false => rfl
    | true => cases e6
  · cases h
def oexB (K : PySem.W.Frag) (C : Addr) : Bool := (match K.lookup C with
  | some ⟨.type t, _, .cls cd, sl⟩ => decide (t = "type") && slB C cd.hasDict cd.hasDel cd.mro sl.toList
  | _ => false) && (eqO (PySem.W.findIn K (.ref C) "__setattr__") (some (some (.builtin "object.__setattr__"))) && (decide (PySem.W.subIn K (.ref C) (.type "BaseException") = some true) && (decide (PySem.W.typeIn K (.ref C) = some (.type "type")) && PySem.W.keepIn K (.ref C))))
theorem oexB_ok {K : PySem.W.Frag} {C : Addr} (h : oexB K C = true) : OexC K C := by
  obtain ⟨h1, h⟩ := ba h
  obtain ⟨h2, h⟩ := ba h
  obtain ⟨h3, h⟩ := ba h
  obtain ⟨h4, h5⟩ := ba h
  refine ⟨?_, eqO_ok h2, of_decide_eq_true h3, of_decide_eq_true h4, h5⟩
  cases q : K.lookup C with
  | none => rw [q] at h1; cases h1
  | some o =>
    obtain ⟨oc, dd, dt, sl⟩ := o
    rw [q] at h1
    cases oc with
    | type t =>
      cases dt with
      | cls cd =>
        obtain ⟨e1, h6⟩ := ba h1
        obtain ⟨nm, bs, mro, N, qn, hd, sn, sub, ab, col, del⟩ := cd
        obtain ⟨sl⟩ := sl
        obtain ⟨bm, k0, k1, k2, k3, k5, f1, f2, f3, f4, f5⟩ := slB_ok h6
        dsimp only at f1 f2 f4 f5
        have f6 : t = "type" := of_decide_eq_true e1
        subst f1 f2 f4 f5 f6
        exact ⟨nm, qn, N, bs, bm, sn, sub, ab, col, dd, k0, k1, k2, k3, k5, rfl, f3⟩
      | _ => cases h1
    | _ => cases dt <;> cases h1
def kErrB (K : PySem.W.Frag) : Bool := decide (PySem.W.specialIn K (.ref (ga K "KindError")) "__getattribute__" = some (some (.builtin "type.__getattribute__"))) && (PySem.W.readsIn K (ga K "KindError") (.type "type") && (match PySem.W.findCls K (.ref (ga K "KindError")) (.type "type") "__init__" with
  | some (.val (.builtin s)) => decide (s = "ValueError.__init__")
  | _ => false))
theorem kErrB_ok {K : PySem.W.Frag} (h : kErrB K = true) : PySem.W.specialIn K (.ref (ga K "KindError")) "__getattribute__" = some (some (.builtin "type.__getattribute__")) ∧ PySem.W.readsIn K (ga K "KindError") (.type "type") = true ∧ PySem.W.findCls K (.ref (ga K "KindError")) (.type "type") "__init__" = some (.val (.builtin "ValueError.__init__")) := by
  obtain ⟨h1, h⟩ := ba h
  obtain ⟨h2, h3⟩ := ba h
  refine ⟨of_decide_eq_true h1, h2, ?_⟩
  split at h3
  · rename_i s q
    rw [q, of_decide_eq_true h3]
  · cases h3
def iNoB (K : PySem.W.Frag) : Bool := eqO (PySem.W.findIn K (.ref (ga K "NoMaking")) "__init__") (some (some (.ref (ma K (ga K "NoMaking") "__init__")))) && decide (PySem.W.typeIn K (.ref (ma K (ga K "NoMaking") "__init__")) = some (.type "function"))
theorem iNoB_ok {K : PySem.W.Frag} (h : iNoB K = true) : PySem.W.findIn K (.ref (ga K "NoMaking")) "__init__" = some (some (.ref (ma K (ga K "NoMaking") "__init__"))) ∧ PySem.W.typeIn K (.ref (ma K (ga K "NoMaking") "__init__")) = some (.type "function") := by
  obtain ⟨h1, h2⟩ := ba h
  exact ⟨eqO_ok h1, of_decide_eq_true h2⟩
/-- what else is looked at -/
def exB (K : PySem.W.Frag) : Bool := tupB K "ONE" [.str "one"] && (tupB K "THING" [.str "thing"] && (valsB K (ga K "SIGNS") [("->", .str "to"), ("*", .str "both")] && (oexB K (ga K "NoMaking") && (kErrB K && (iNoB K && xfB K (ga K "NoMaking"))))))
structure Ex (K : PySem.W.Frag) : Prop where
  t_ONE : tupB K "ONE" [.str "one"] = true
  t_THING : tupB K "THING" [.str "thing"] = true
  v_SIGNS : valsB K (ga K "SIGNS") [("->", .str "to"), ("*", .str "both")] = true
  o_NoMaking : oexB K (ga K "NoMaking") = true
  k_KindError : kErrB K = true
  i_NoMaking : iNoB K = true
  f_NoMaking : xfB K (ga K "NoMaking") = true
theorem exB_ok {K : PySem.W.Frag} (h : exB K = true) : Ex K := by
  obtain ⟨h1, h⟩ := ba h
  obtain ⟨h2, h⟩ := ba h
  obtain ⟨h3, h⟩ := ba h
  obtain ⟨h4, h⟩ := ba h
  obtain ⟨h5, h⟩ := ba h
  obtain ⟨h6, h7⟩ := ba h
  exact ⟨h1, h2, h3, h4, h5, h6, h7⟩
/-! ### the Hook -/
abbrev AlX : Type := AlT × Bool
def asX : List Addr := [3, 2, 63, 76, 95, 107, 119, 138, 217, 441, 526, 62, 75, 94, 106, 118, 137, 216, 440, 525, 22, 227, 363, 141, 21, 20, 29, 28, 36, 35, 43, 42, 48, 47, 53, 52, 148, 147, 155, 154, 162, 161, 169, 168, 174, 173, 181, 180, 226, 225, 234, 233, 239, 238, 244, 243, 251, 250, 258, 257, 265, 264, 272, 271, 279, 278, 284, 283, 291, 290, 296, 295, 303, 302, 310, 309, 317, 316, 324, 323, 329, 328, 334, 333, 341, 340, 348, 347, 355, 354, 362, 361, 370, 369, 377, 376, 384, 383, 391, 390, 398, 397, 403, 402, 452, 451, 459, 458, 466, 465, 473, 472, 478, 477, 537, 536, 544, 543, 551, 550, 558, 557, 565, 564, 570, 569, 575, 574, 580, 579, 587, 586, 594, 593, 601, 600, 606, 605, 613, 612, 620, 619, 627, 626, 632, 631, 639, 638, 646, 645, 92, 91, 135, 134, 195, 194, 202, 201, 207, 206, 214, 213, 417, 416, 424, 423, 431, 430, 438, 437, 492, 491, 499, 498, 504, 503, 511, 510, 516, 515, 523, 522]
def frX (g : Addr → Option Obj) : PySem.W.Frag := frG g asX
def obsX (g : Addr → Option Obj) : AlX := (obsT faL fnL tabL (frX g), exB (frX g))
def hookX : PySem.W.Hook where
  α := AlX
  obs := fun s => obsX s.heap.get?
  val := fun w => (valT fnL tabL w, true)
  says := fun w h => ∃ K : PySem.W.Frag, K.In h ∧ SaysT faL fnL tabL w K ∧ exB K = true
  of := fun _ _ e => ⟨_, frG_in, congrArg (fun z : AlX => z.1) e, congrArg (fun z : AlX => z.2) e⟩
  keeps := fun _ _ _ ⟨K, hK, c⟩ k => ⟨K, PySem.W.Frag.In.keeps hK k, c⟩
theorem obsX_eq {g : Addr → Option Obj} {s : Shared} (h : ∀ a, g a = s.heap.get? a) : obsX g = hookX.obs s := by
  have e : g = s.heap.get? := funext h
  rw [e] <;> rfl
abbrev R : PySem.W.OpenRow := PySem.W.OpenLaw.row PySem.Challenge.rw_kindfill_k31_whole_every_program_made
abbrev hk : PySem.W.Hook := hookX
def ob (s : PySem.W.SharedT) : AlX := obsX (HandSHeadRun.getT s)
theorem ob_eq (s : PySem.W.SharedT) : ob s = hk.obs s.abs := obsX_eq (HandSHeadRun.getT_eq s)
theorem run_no (w : World) : HandSHeadRun.RunEq R (PySem.W.view R.prog [lawAt]) hk ob 6000 loose (w.withFollow "special-get-raises" false) := by
  intro os
  kernel_rfl
theorem run_yes (w : World) : HandSHeadRun.RunEq R (PySem.W.view R.prog [lawAt]) hk ob 6000 loose (w.withFollow "special-get-raises" true) := by
  intro os
  kernel_rfl
theorem run_ok (w : World) : HandSHeadRun.RunEq R (PySem.W.view R.prog [lawAt]) hk ob 6000 loose w :=
  PySem.W.byRow2 "special-get-raises" (P := fun w => HandSHeadRun.RunEq R (PySem.W.view R.prog [lawAt]) hk ob 6000 loose w) run_no run_yes w
end KF

set_option Elab.async false
set_option linter.all false
set_option maxRecDepth 100000
set_option maxHeartbeats 0
/-! The end: the head's facts as the walk wants them (fields printed by gen_end.py). -/
namespace KF
open PySem PySem.Spec PyProof.Rows L2 He
theorem tx_of {w : World} {K : PySem.W.Frag} {h : Heap} {mg : Str → Option Value} (X : K.In h) (G : h.Ns mainGlobals mg) (c : SaysT faL fnL tabL w K) (e : Ex K) : Tx w K mg where
  d_is_mark := c.d.def_ 0
  g_is_mark := glo_ok X G (c.d.fact 0)
  d_has_form := c.d.def_ 1
  g_has_form := glo_ok X G (c.d.fact 1)
  d_is_kind := c.d.def_ 2
  g_is_kind := glo_ok X G (c.d.fact 2)
  d_leaves_of := c.d.def_ 3
  g_leaves_of := glo_ok X G (c.d.fact 3)
  d_ends_of := c.d.def_ 4
  g_ends_of := glo_ok X G (c.d.fact 4)
  d_ways_of := c.d.def_ 5
  g_ways_of := glo_ok X G (c.d.fact 5)
  d_NoFit___init__ := c.d.def_ 6
  d_NoMaking___init__ := c.d.def_ 7
  d_shown_kind := c.d.def_ 8
  g_shown_kind := glo_ok X G (c.d.fact 6)
  d_word_at := c.d.def_ 9
  g_word_at := glo_ok X G (c.d.fact 7)
  d_kind_from := c.d.def_ 10
  g_kind_from := glo_ok X G (c.d.fact 8)
  d_read_kind := c.d.def_ 11
  g_read_kind := glo_ok X G (c.d.fact 9)
  d_there_with := c.d.def_ 12
  g_there_with := glo_ok X G (c.d.fact 10)
  d_move_ends := c.d.def_ 13
  g_move_ends := glo_ok X G (c.d.fact 11)
  d_Book___init__ := c.d.def_ 14
  d_Book_number := c.d.def_ 15
  d_Book_rows_of := c.d.def_ 16
  d_Book_fill := c.d.def_ 17
  d_book_of := c.d.def_ 18
  g_book_of := glo_ok X G (c.d.fact 12)
  d_inner := c.d.def_ 19
  g_inner := glo_ok X G (c.d.fact 13)
  d_parts_of := c.d.def_ 20
  g_parts_of := glo_ok X G (c.d.fact 14)
  d_deep_of := c.d.def_ 21
  g_deep_of := glo_ok X G (c.d.fact 15)
  d_part_at := c.d.def_ 22
  g_part_at := glo_ok X G (c.d.fact 16)
  d_with_inner := c.d.def_ 23
  g_with_inner := glo_ok X G (c.d.fact 17)
  d_with_part := c.d.def_ 24
  g_with_part := glo_ok X G (c.d.fact 18)
  d_known_as := c.d.def_ 25
  g_known_as := glo_ok X G (c.d.fact 19)
  d_kind_here := c.d.def_ 26
  g_kind_here := glo_ok X G (c.d.fact 20)
  d_kind_within := c.d.def_ 27
  g_kind_within := glo_ok X G (c.d.fact 21)
  d_kind_of := c.d.def_ 28
  g_kind_of := glo_ok X G (c.d.fact 22)
  d_tidied_within := c.d.def_ 29
  g_tidied_within := glo_ok X G (c.d.fact 23)
  d_tidied := c.d.def_ 30
  g_tidied := glo_ok X G (c.d.fact 24)
  d_can_step := c.d.def_ 31
  g_can_step := glo_ok X G (c.d.fact 25)
  d_put_places := c.d.def_ 32
  g_put_places := glo_ok X G (c.d.fact 26)
  d_step_places := c.d.def_ 33
  g_step_places := glo_ok X G (c.d.fact 27)
  d_name_count := c.d.def_ 34
  g_name_count := glo_ok X G (c.d.fact 28)
  d_with_given := c.d.def_ 35
  g_with_given := glo_ok X G (c.d.fact 29)
  d_what_comes := c.d.def_ 36
  g_what_comes := glo_ok X G (c.d.fact 30)
  d_parts_that_come := c.d.def_ 37
  g_parts_that_come := glo_ok X G (c.d.fact 31)
  d_done_at := c.d.def_ 38
  g_done_at := glo_ok X G (c.d.fact 32)
  d_next_place := c.d.def_ 39
  g_next_place := glo_ok X G (c.d.fact 33)
  d_run := c.d.def_ 40
  g_run := glo_ok X G (c.d.fact 34)
  d_taken_name := c.d.def_ 41
  g_taken_name := glo_ok X G (c.d.fact 35)
  d_is_long_here := c.d.def_ 42
  g_is_long_here := glo_ok X G (c.d.fact 36)
  d_gone_along := c.d.def_ 43
  g_gone_along := glo_ok X G (c.d.fact 37)
  d_is_long := c.d.def_ 44
  g_is_long := glo_ok X G (c.d.fact 38)
  d_size_of := c.d.def_ 45
  g_size_of := glo_ok X G (c.d.fact 39)
  d_Longer___init__ := c.d.def_ 46
  d_Longer_spend := c.d.def_ 47
  d_Longer_made := c.d.def_ 48
  d_Longer_along := c.d.def_ 49
  d_long_form := c.d.def_ 50
  g_long_form := glo_ok X G (c.d.fact 40)
  d_moves_in := c.d.def_ 51
  g_moves_in := glo_ok X G (c.d.fact 41)
  d_same_way := c.d.def_ 52
  g_same_way := glo_ok X G (c.d.fact 42)
  d_way_in := c.d.def_ 53
  g_way_in := glo_ok X G (c.d.fact 43)
  d_which_of := c.d.def_ 54
  g_which_of := glo_ok X G (c.d.fact 44)
  d_Maker___init__ := c.d.def_ 55
  d_Maker_tell := c.d.def_ 56
  d_Maker_tell_mark := c.d.def_ 57
  d_Maker_make := c.d.def_ 58
  d_Maker_make_mark := c.d.def_ 59
  d_Maker_go := c.d.def_ 60
  d_making_of := c.d.def_ 61
  g_making_of := glo_ok X G (c.d.fact 45)
  d_made_by := c.d.def_ 62
  g_made_by := glo_ok X G (c.d.fact 46)
  d_law_pool := c.d.def_ 63
  g_law_pool := glo_ok X G (c.d.fact 47)
  d_law_take := c.d.def_ 64
  g_law_take := glo_ok X G (c.d.fact 48)
  d_law_kind := c.d.def_ 65
  g_law_kind := glo_ok X G (c.d.fact 49)
  d_law_seen := c.d.def_ 66
  g_law_seen := glo_ok X G (c.d.fact 50)
  d_law_uses := c.d.def_ 67
  g_law_uses := glo_ok X G (c.d.fact 51)
  d_law_used := c.d.def_ 68
  g_law_used := glo_ok X G (c.d.fact 52)
  d_law_made := c.d.def_ 69
  g_law_made := glo_ok X G (c.d.fact 53)
  d_law_program := c.d.def_ 70
  g_law_program := glo_ok X G (c.d.fact 54)
  d_law_row := c.d.def_ 71
  g_law_row := glo_ok X G (c.d.fact 55)
  d_law_many := c.d.def_ 72
  g_law_many := glo_ok X G (c.d.fact 56)
  d_law_words := c.d.def_ 73
  g_law_words := glo_ok X G (c.d.fact 57)
  d_law_drawn := c.d.def_ 74
  g_law_drawn := glo_ok X G (c.d.fact 58)
  d_law_long := c.d.def_ 75
  g_law_long := glo_ok X G (c.d.fact 59)
  d_law_leaves := c.d.def_ 76
  g_law_leaves := glo_ok X G (c.d.fact 60)
  d_law_lacks := c.d.def_ 77
  g_law_lacks := glo_ok X G (c.d.fact 61)
  d_law := c.d.def_ 78
  g_law := glo_ok X G (c.d.fact 62)
  c_KindError := glo_ok X G (c.d.fact 63)
  c_NoKind := glo_ok X G (c.d.fact 64)
  c_NoFit := glo_ok X G (c.d.fact 65)
  c_TooLong := glo_ok X G (c.d.fact 66)
  c_NoLong := glo_ok X G (c.d.fact 67)
  c_NoMaking := glo_ok X G (c.d.fact 68)
  c_Book := glo_ok X G (c.d.fact 69)
  c_Longer := glo_ok X G (c.d.fact 70)
  c_Maker := glo_ok X G (c.d.fact 71)
  n_isinstance := free_ok X G (c.d.fact 72)
  n_tuple := free_ok X G (c.d.fact 73)
  n_str := free_ok X G (c.d.fact 74)
  n_len := free_ok X G (c.d.fact 75)
  n_sorted := free_ok X G (c.d.fact 76)
  n_set := free_ok X G (c.d.fact 77)
  n_enumerate := free_ok X G (c.d.fact 78)
  n_list := free_ok X G (c.d.fact 79)
  n_sum := free_ok X G (c.d.fact 80)
  n_max := free_ok X G (c.d.fact 81)
  n_min := free_ok X G (c.d.fact 82)
  n_reversed := free_ok X G (c.d.fact 83)
  n_range := free_ok X G (c.d.fact 84)
  n_int := free_ok X G (c.d.fact 85)
  n_zip := free_ok X G (c.d.fact 86)
  i_LETTERS := str_ok X G (c.d.fact 87)
  i_LONGEST := int_ok X G (c.d.fact 88)
  i_ONE := glo_ok X G (c.d.fact 89)
  t_ONE := tupB_ok e.t_ONE
  i_MOST_LEAVES := int_ok X G (c.d.fact 90)
  i_MOST_DEPTH := int_ok X G (c.d.fact 91)
  i_SIGNS := glo_ok X G (c.d.fact 92)
  i_DEEPEST := int_ok X G (c.d.fact 93)
  i_THING := glo_ok X G (c.d.fact 94)
  t_THING := tupB_ok e.t_THING
  i_MOST_STEPS := int_ok X G (c.d.fact 95)
  i_MOST_PARTS_steps := int_ok X G (c.d.fact 96)
  i_MOST_DEEP_steps := int_ok X G (c.d.fact 97)
  i_MOST_PARTS_longs := int_ok X G (c.d.fact 98)
  i_MOST_DEEP_longs := int_ok X G (c.d.fact 99)
  D_SIGNS := c.tab 0
  v_SIGNS_to := valsB_ok e.v_SIGNS (q := ("->", .str "to")) List.mem_cons_self
  v_SIGNS_both := valsB_ok e.v_SIGNS (q := ("*", .str "both")) (List.mem_cons_of_mem _ List.mem_cons_self)
  cl_Book := cls_ok (c.d.fact 100)
  mk_Book := mkr_ok (c.d.fact 101)
  cl_Longer := cls_ok (c.d.fact 102)
  mk_Longer := mkr_ok (c.d.fact 103)
  cl_Maker := cls_ok (c.d.fact 104)
  mk_Maker := mkr_ok (c.d.fact 105)
  m_Book_number := meth_ok (c.d.fact 106)
  m_Book_rows_of := meth_ok (c.d.fact 107)
  m_Book_fill := meth_ok (c.d.fact 108)
  m_Longer_spend := meth_ok (c.d.fact 109)
  m_Longer_made := meth_ok (c.d.fact 110)
  m_Longer_along := meth_ok (c.d.fact 111)
  m_Maker_tell := meth_ok (c.d.fact 112)
  m_Maker_tell_mark := meth_ok (c.d.fact 113)
  m_Maker_make := meth_ok (c.d.fact 114)
  m_Maker_make_mark := meth_ok (c.d.fact 115)
  m_Maker_go := meth_ok (c.d.fact 116)
  a_Book_rooms := noat_ok (c.d.fact 117)
  a_Book_numbers := noat_ok (c.d.fact 118)
  a_Book_rows := noat_ok (c.d.fact 119)
  a_Longer_left := noat_ok (c.d.fact 120)
  a_Maker_row := noat_ok (c.d.fact 121)
  a_Maker_kind := noat_ok (c.d.fact 122)
  a_Maker_starts := noat_ok (c.d.fact 123)
  a_Maker_rooms := noat_ok (c.d.fact 124)
  a_Maker_lines := noat_ok (c.d.fact 125)
  a_Maker_making := noat_ok (c.d.fact 126)
  a_Maker_done := noat_ok (c.d.fact 127)
  x_TooLong := exc_ok (c.d.fact 128)
  o_NoMaking := oexB_ok e.o_NoMaking
  k_KindError := kErrB_ok e.k_KindError
  i_NoMaking := iNoB_ok e.i_NoMaking
  f_NoMaking := ⟨xfB_ok e.f_NoMaking, (xfB_ok e.f_NoMaking).hdC⟩
  a_NoMaking_at := noat_ok (c.d.fact 129)
  e_TooLong := exm_ok (c.d.fact 130)
  e_NoMaking := exm_ok (c.d.fact 131)
theorem lr_of {A : Around} (r : L2.Room 140 A) : LR 342 A where
  hd := r.hd
  dp := by have := r.dp; omega
  un := by have := r.un; omega
theorem facts {P : Program} {w : World} {K : PySem.W.Frag} {h : Heap} {mg : Str → Option Value} {f : Addr} (X : K.In h) (G : h.Ns mainGlobals mg) (hfa : mg ("law" : Str) = some (.ref f)) (c : SaysT faL fnL tabL w K) (e : Ex K) :
    ∃ fd : FuncData, (∀ (s : Shared) (v : Value), BindsTo s fd ⟨[v], []⟩ [("_law_script", v)]) ∧ ∀ base : Heap, K.In base → base.Ns mainGlobals mg → FnOk P w K mg base CX0 140 f fd ["_law_script"] (spLaw K) := by
  have T := tx_of X G c e
  obtain ⟨fd, F⟩ := T.d_law
  have e2 := hfa.symm.trans T.g_law
  cases e2
  have b := FunD.bindsA (ps := ["_law_script"]) F fun _ _ _ _ _ _ us hl => match us, hl with | [_], _ => rfl
  exact ⟨fd, fun s v => b s [v] rfl, fun base _ _ => (ok_law (P := P) (base := base) T F).ok fun A r => lr_of r⟩
end KF
open PySem PySem.W PySem.Calls PyProof.Rows
theorem PySem.Challenge.cw_kindfill_k31_whole_every_program_made_holds : PySem.Challenge.rw_kindfill_k31_whole_every_program_made.Holds := by
  w_on; o_law
  refine HandSHeadRun.head_any (r := OpenLaw.row PySem.Challenge.rw_kindfill_k31_whole_every_program_made) (q := view (OpenLaw.row PySem.Challenge.rw_kindfill_k31_whole_every_program_made).prog [KF.lawAt]) (H := KF.hk) (ob := KF.ob) (M := 6000) (loose := KF.loose) (d := HandSHeadRun.topDef (OpenLaw.row PySem.Challenge.rw_kindfill_k31_whole_every_program_made).prog KF.lawAt) (kwd := []) KF.ob_eq
    (by kernel_rfl) (fun s => by kernel_rfl) KF.run_ok (by kernel_rfl) (by kernel_rfl) (by kernel_rfl) (by rfl) (by first | assumption | decide +kernel) (by decide +kernel) ⟨rfl, rfl, rfl, rfl, rfl, by decide +kernel⟩ ?hw ?hc
  case hw => w_witness2
  case hc =>
    refine L2.walk_ofE (l := PySem.Challenge.rw_kindfill_k31_whole_every_program_made) (n := 63) (k := 140) (x := "_law_script") (CX := L2.CX0) rfl (by decide) (by kernel_rfl) ⟨rfl, by decide, by decide⟩ ?F (fun _ _ _ _ z => z)
    intro w mg fa h Y G hmg0
    obtain ⟨K, KX, c, ce⟩ := Y
    have hmg : mg ("law" : PySem.Str) = some (.ref fa) := by
      have e : (HandSHeadRun.topDef (OpenLaw.row PySem.Challenge.rw_kindfill_k31_whole_every_program_made).prog KF.lawAt).name = ("law" : PySem.Str) := by kernel_rfl
      rw [← e]
      exact hmg0
    obtain ⟨fd, hb, hF⟩ := KF.facts (P := (PySem.Challenge.rw_kindfill_k31_whole_every_program_made).prog) (w := w) KX G hmg c (KF.exB_ok ce)
    exact ⟨K, fd, KF.spLaw K, KX, hb, fun H a ns hl _ hS => ⟨a, ns, rfl, hS, Nat.le_trans hl (by decide), fun _ => rfl⟩, hF⟩

