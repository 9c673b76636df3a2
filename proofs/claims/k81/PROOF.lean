import PyProof.Rows.All
import Wide.All
import OpenK.AllK
import Wide.FinOn
import HandS.ForMost
import HandS.Exc
import HandS.ExcOwn
import HandS.WordsExc
import HandS.Defaults
import HandS.MakeKwOnly
import HandS.Flow
import HandS.Style
import HandS.Wide
import HandS.WideBits
import HandS.IsInst
import HandS.TupAny
import HandS.TupMul
import HandS.Deep
import HandS.Head0
import HandS.Head1
import HandS.Head2
import HandS.HeadEnd
import HandS.HeadHook1
import HandS.HeadHook2
import HandS.EndBits
import PySem.Challenge.RW_sampleweave_k81_polynomials
set_option Elab.async false
set_option linter.all false
set_option maxRecDepth 100000
set_option maxHeartbeats 4000000

/-! Z, part one: promises of defs where it is known that no repr goes on around (g), calls by them. -/
namespace Z
open PySem PySem.Spec PyProof.Rows L2

/-- the guards are known to be none, where g asks for it -/
def Gd (g : Prop) (A : Around) : Prop := g → A.guards = some []
theorem Gd.deeper {g : Prop} {A : Around} (h : Gd g A) (env : Env) : Gd g (A.deeper env) := fun x => h x
theorem Gd.make {g : Prop} {A : Around} (h : Gd g A) (C : Addr) (us : List Value) (kw : List (Str × Value)) :
    Gd g (A.under (.builtin "type.__call__" ⟨.ref C :: us, kw⟩)) := fun x => by
  have e := h x
  simp [Around.under, Code.guards, Code.isGuard, guardIds, pushGuards, e]

/-- a def's promise, with the guards -/
structure FnG (g : Prop) (P : Program) (w : World) (K : PySem.W.Frag) (mg : Str → Option Value) (base : Heap) (k : Nat) (f : Addr) (fd : FuncData) (ps : List Str) (sp : Sp) : Prop where
  len : ∀ vs H Q E, sp vs H Q E → vs.length = ps.length
  run : ∀ (A : Around) (outer : List Env) (s : Shared) (H : Hp) (args : Args) (us : List Value) (vs : List V) (Q : VK) (E : XK),
    Room k A → Gd g A → Env0 P w K mg base A outer s H → BindsTo s fd args (ps.zip us) → Vals vs us → sp vs H Q E →
    codeAny (model P w) A (.call (.ref f) args) (CR (L2.CX P w) outer P w H s Q E) s

section
variable {g : Prop} {P : Program} {w : World} {K : PySem.W.Frag} {mg : Str → Option Value} {base : Heap}
theorem FnG.mono {j k : Nat} {f : Addr} {fd : FuncData} {ps : List Str} {sp : Sp} (F : FnG g P w K mg base j f fd ps sp) (h : j ≤ k) :
    FnG g P w K mg base k f fd ps sp where
  len := F.len
  run := fun A outer s H args us vs Q E r gd => F.run A outer s H args us vs Q E (r.mono h) gd
theorem FnG.ofOk {k : Nat} {f : Addr} {fd : FuncData} {ps : List Str} {sp : Sp} (F : FnOk P w K mg base (L2.CX P w) k f fd ps sp) :
    FnG g P w K mg base k f fd ps sp := ⟨F.len, fun A outer s H args us vs Q E r _ => F.run A outer s H args us vs Q E r⟩
theorem FnG.ok {k : Nat} {f : Addr} {fd : FuncData} {ps : List Str} {sp : Sp} (F : FnG False P w K mg base k f fd ps sp) :
    FnOk P w K mg base (L2.CX P w) k f fd ps sp :=
  ⟨F.len, fun A outer s H args us vs Q E r e0 => F.run A outer s H args us vs Q E r (fun z => z.elim) e0⟩
theorem FnG.imp {k : Nat} {f : Addr} {fd : FuncData} {ps : List Str} {sp sp' : Sp} (F : FnG g P w K mg base k f fd ps sp)
    (h : ∀ vs H Q E, sp' vs H Q E → sp vs H Q E) : FnG g P w K mg base k f fd ps sp' where
  len := fun vs H Q E q => F.len vs H Q E (h _ _ _ _ q)
  run := fun A outer s H args us vs Q E r gd e0 hb hv q => F.run A outer s H args us vs Q E r gd e0 hb hv (h _ _ _ _ q)

/-- a def by its body -/
theorem FunD.okG {x qual : Str} {params : Arguments} {body : List Stmt} {scope : Scope} {dvs : List V} {kws : List (Str × V)} {f : Addr} {fd : FuncData} {N ps : List Str} {k : Nat} {sp : Sp}
    (F : FunD K x qual params body scope dvs kws f fd) (S : FnScope N ps scope) (len : ∀ vs H Q E, sp vs H Q E → vs.length = ps.length)
    (hb : ∀ (cdv : Value) (A : Around) (outer : List Env) (s : Shared) (H : Hp) (vs : List V) (Q : VK) (E : XK),
      Room k (A.deeper (envOfC qual scope s.heap.objs.size f cdv)) → Gd g (A.deeper (envOfC qual scope s.heap.objs.size f cdv)) → sp vs H Q E →
      ∃ t, PSs (cxOf (L2.CX P w) P w K mg base N qual scope f cdv A outer s H E) body t ∧ t { nx := fun _ H' => Q .non H', rt := Q } (start N vs) H) :
    FnG g P w K mg base (k + 1) f fd ps sp := by
  obtain ⟨oc, od, dV, kV, doc, pm, an, cdv, ct, osl, rfl, lk, hcd, _, _⟩ := F.ex
  refine ⟨len, fun A outer s H args us vs Q E r gd e0 bnd rel q0 => ?_⟩
  have vl := len _ _ _ _ q0
  have KX : K.In s.heap := e0.mod.kin.keeps fun b o z => (e0.bs b o z).1
  have nl : s.heap.NoLimit := e0.mod.nolimit.keeps fun b o z => (e0.bs b o z).1
  have kd : ∀ y ∈ ps.zip us, scope.names.lookup y.1 = some .local ∨ (scope.names.lookup y.1 = some .cell ∧ ((cellsFrom (s.heap.objs.size + 1) scope.names []).lookup y.1).isSome = true) := by
    intro y hy
    rcases S.par y.1 (List.of_mem_zip (show (y.1, y.2) ∈ ps.zip us from hy)).1 with z | z
    · exact Or.inl z
    · exact Or.inr ⟨z, PySem.W.cellsFrom_some _ _ _ (Or.inl z)⟩
  refine codeAny_call_function r.depth (KX _ _ lk) rfl S.co S.gen rfl (PySem.W.codeRec_of KX hcd) (bnd _ _ _ _ ?_)
  refine wpAny_newFunctionEnv_cells S.kind kd fun env ev s1 ic => ?_
  subst ev
  refine ⟨nl.keeps ic.toInCall.keep, codeAny_func ?_⟩
  obtain ⟨t, ht, q1⟩ := hb cdv A outer s H vs Q E (r.deeper _) (gd.deeper _) q0
  have I0 := inv_start (CX := L2.CX P w) (P := P) (w := w) (qual := qual) (f := f) (cd := cdv) (E := E) S r.hd e0 vl rel ic
  refine wpAny_mono (ht.run [] s1 (start N vs) H _ I0 q1) (fun fl s' z => ?_) fun e s' z => z
  match fl, z with
  | .ret u, ⟨v, σ', H', J, rv, q⟩ => exact ⟨v, H', J.os, J.bare, J.base, J.hok, rv, q⟩
  | .next, ⟨σ', H', J, q⟩ => exact ⟨.non, H', J.os, J.bare, J.base, J.hok, rfl, q⟩
  | .brk, ⟨_, _, _, q⟩ => exact q.elim
  | .cont, ⟨_, _, _, q⟩ => exact q.elim
end

/-- a def (a datum of the head) that stands at f and keeps its promise -/
structure Pr (g : Prop) (P : Program) (w : World) (K : PySem.W.Frag) (mg : Str → Option Value) (base : Heap) (k : Nat) (f : Addr) (d : He.DefD) (ps : List Str) (sp : Sp) : Prop where
  ex : ∃ fd, FunD K d.name d.qual d.params d.body d.scope (d.dvs K) (d.kws K) f fd ∧ FnG g P w K mg base k f fd ps sp
/-- how a call with n values and the keywords ks binds: gV puts them (and defaults) in the parameters' order -/
def Bd (d : He.DefD) (ps : List Str) (n : Nat) (ks : List Str) (gV : PySem.W.Frag → List V → List V → List V) : Prop :=
  ∀ (K : PySem.W.Frag) (f : Addr) (fd : FuncData), FunD K d.name d.qual d.params d.body d.scope (d.dvs K) (d.kws K) f fd → ∃ gg, KBn K fd ps n ks gg (gV K)
theorem Bd.plain {d : He.DefD} {ps : List Str} {n : Nat} (hn : n = ps.length) (hd : d.dfl = []) (hk : d.kwd = [])
    (h : ∀ (kV doc pm : Value) (an : Option Addr) (cdv ct : Value) (us : List Value), us.length = ps.length →
      bindArgs (PySem.W.fnOf d.name d.qual d.params d.body d.scope .none kV doc pm an cdv ct) ⟨us, []⟩ = pure (ps.zip us)) : Bd d ps n [] (fun _ vs _ => vs) := by
  subst hn
  intro K f fd F
  have e1 : d.dvs K = [] := by unfold He.DefD.dvs; rw [hd]; rfl
  have e2 : d.kws K = [] := by unfold He.DefD.kws; rw [hk]; rfl
  rw [e1, e2] at F
  have B := F.bindsN h
  refine ⟨fun us _ => us, ⟨fun s us ws X l1 l2 => ?_, fun r _ => r⟩⟩
  cases ws with
  | nil =>
    have z := B s us X (by rw [List.append_nil]; exact l1)
    rw [List.append_nil] at z
    exact z
  | cons a b => cases l2

section
variable {X : Cx} {g : Prop} {k n : Nat} {f C : Addr} {d : He.DefD} {ps ks : List Str} {gV : PySem.W.Frag → List V → List V → List V} {sp : Sp} {E : XK} {x m : Str} {p pos apos : Pos} {e o : Expr} {es : List Expr} {kws : List Keyword} {ta : TE} {t tk : TA}
/-- the callee runs -/
theorem run_g {fd : FuncData} {gg : List Value → List Value → List Value} {gW : List V → List V → List V} {pins : List (Addr × Obj)} {σ : L2.St} {H : Hp} {s : Shared} {Q : VK} {us ws : List Value} {vs zs : List V}
    (F : FnG g X.prog X.w X.K X.mg X.base k f fd ps sp) (hr : Room k X.A) (hgd : Gd g X.A) (hb : KBn X.K fd ps n ks gg gW) (hx : Passes (L2.CX X.prog X.w) X E)
    (I : Inv X pins σ H s) (r : Vals vs us) (rz : Vals zs ws) (l1 : vs.length = n) (l2 : zs.length = ks.length) (h : sp (gW vs zs) H Q E) :
    wpAny (model X.prog X.w) X.A (call (.ref f) us (ks.zip ws)) (EP X pins σ Q) X.xe s := by
  refine wpAny_call (codeAny_mono (F.run X.A X.stack s H ⟨us, ks.zip ws⟩ (gg us ws) (gW vs zs) Q E hr hgd I.env0 (hb.to s us ws I.kIn (r.length.symm.trans l1) (rz.length.symm.trans l2)) (hb.rel r rz) h) fun z s' hq => ?_)
  match z, hq with
  | .error e, hq => exact hx pins σ H s e s' I hq
  | .ok (.ret u), hq => exact I.after hq
  | .ok .next, hq => exact False.elim hq
  | .ok .brk, hq => exact False.elim hq
  | .ok .cont, hq => exact False.elim hq

/-- a call's reading: the values, the keywords' values, the promise -/
def zCall (K : PySem.W.Frag) (n m : Nat) (gV : PySem.W.Frag → List V → List V → List V) (sp : Sp) (E : XK) (t tk : TA) : TE := fun σ H Q =>
  t σ H fun vs H1 => tk σ H1 fun zs H2 => vs.length = n ∧ zs.length = m ∧ sp (gV K vs zs) H2 Q E

theorem pe_fk (F : Pr g X.prog X.w X.K X.mg X.base k f d ps sp) (hr : Room k X.A) (hgd : Gd g X.A) (hg : Gl X x) (hm : X.mg x = some (.ref f)) (hb : Bd d ps n ks gV) (hx : Passes (L2.CX X.prog X.w) X E)
    (ha : PA X (e :: es) t) (hkw : PK X kws tk) (hall : (backToKw pos (keywordEach kws X.env)).all (·.1.isSome) = true := by rfl)
    (hks : (backToKw pos (keywordEach kws X.env)).filterMap (·.1) = ks := by rfl) (hdb : (x == ("__debug__" : Str)) = false := by decide)
    (he : starEach (e :: es) X.env = (false, eval e X.env) :: starEach es X.env := by rfl)
    (hpl : ((backTo pos (starEach (e :: es) X.env)).any (·.1) || (backToKw pos (keywordEach kws X.env)).any (·.1.isNone)) = false := by rfl) :
    PE X (.Call (.Name x p) (e :: es) kws pos) (zCall X.K n ks.length gV sp E t tk) := by
  obtain ⟨fd, FD, OK⟩ := F.ex
  obtain ⟨gg, B⟩ := hb _ _ _ FD
  refine ⟨fun pins s σ H Q I h => ?_⟩
  refine wpAny_Call_Name_kw (ld_glob I hg hm ?_ hdb)
  refine PySem.W.callWith_KW (h₀ := X.base) I.ok.mod.kin FD.kp hall ?_ hpl he
  refine thn (ha.run pos pins s σ H _ I h) fun us s1 ⟨vs, H1, I1, r, q⟩ => ?_
  refine thn (hkw.run pos pins s1 σ H1 _ I1 q) fun ws s2 ⟨zs, H2, I2, rz, l1, l2, q2⟩ => ⟨I2.kIn, ?_⟩
  rw [hks]
  exact run_g OK hr hgd B hx I2 r rz l1 l2 q2
theorem pe_fk0 (F : Pr g X.prog X.w X.K X.mg X.base k f d ps sp) (hr : Room k X.A) (hgd : Gd g X.A) (hg : Gl X x) (hm : X.mg x = some (.ref f)) (hb : Bd d ps n ks gV) (hx : Passes (L2.CX X.prog X.w) X E)
    (hkw : PK X kws tk) (hall : (backToKw pos (keywordEach kws X.env)).all (·.1.isSome) = true := by rfl)
    (hks : (backToKw pos (keywordEach kws X.env)).filterMap (·.1) = ks := by rfl) (hdb : (x == ("__debug__" : Str)) = false := by decide)
    (hpl : ((backTo pos (starEach [] X.env)).any (·.1) || (backToKw pos (keywordEach kws X.env)).any (·.1.isNone)) = false := by rfl) :
    PE X (.Call (.Name x p) [] kws pos) (zCall X.K n ks.length gV sp E tNil tk) := by
  obtain ⟨fd, FD, OK⟩ := F.ex
  obtain ⟨gg, B⟩ := hb _ _ _ FD
  refine ⟨fun pins s σ H Q I h => ?_⟩
  refine wpAny_Call_Name_kw (ld_glob I hg hm ?_ hdb)
  refine PySem.W.callWith_KW0 (h₀ := X.base) I.ok.mod.kin FD.kp hall ?_ hpl
  refine thn (hkw.run pos pins s σ H _ I h) fun ws s2 ⟨zs, H2, I2, rz, l1, l2, q2⟩ => ⟨I2.kIn, ?_⟩
  rw [hks]
  exact run_g (us := []) (vs := []) OK hr hgd B hx I2 .nil rz l1 l2 q2
theorem pe_f (F : Pr g X.prog X.w X.K X.mg X.base k f d ps sp) (hr : Room k X.A) (hgd : Gd g X.A) (hg : Gl X x) (hm : X.mg x = some (.ref f)) (hb : Bd d ps n [] gV) (hx : Passes (L2.CX X.prog X.w) X E)
    (ha : PA X (e :: es) t) (hdb : (x == ("__debug__" : Str)) = false := by decide) (he : starEach (e :: es) X.env = (false, eval e X.env) :: starEach es X.env := by rfl)
    (hpl : (backTo pos (starEach es X.env)).any (·.1) = false := by rfl) : PE X (.Call (.Name x p) (e :: es) [] pos) (zCall X.K n 0 gV sp E t tNil) := by
  obtain ⟨fd, FD, OK⟩ := F.ex
  obtain ⟨gg, B⟩ := hb _ _ _ FD
  refine ⟨fun pins s σ H Q I h => ?_⟩
  refine wpAny_Call_Name_kw (ld_glob I hg hm ?_ hdb)
  refine PySem.W.callWith_K (h₀ := X.base) I.ok.mod.kin FD.kp ?_ he hpl
  refine thn (ha.run pos pins s σ H _ I h) fun us s1 ⟨vs, H1, I1, r, l1, l2, q⟩ => ⟨I1.kIn, ?_⟩
  exact run_g (ws := []) (zs := []) (ks := []) OK hr hgd B hx I1 r .nil l1 l2 q
theorem pe_f0 (F : Pr g X.prog X.w X.K X.mg X.base k f d ps sp) (hr : Room k X.A) (hgd : Gd g X.A) (hg : Gl X x) (hm : X.mg x = some (.ref f)) (hb : Bd d ps n [] gV) (hx : Passes (L2.CX X.prog X.w) X E)
    (hdb : (x == ("__debug__" : Str)) = false := by decide) : PE X (.Call (.Name x p) [] [] pos) (zCall X.K n 0 gV sp E tNil tNil) := by
  obtain ⟨fd, FD, OK⟩ := F.ex
  obtain ⟨gg, B⟩ := hb _ _ _ FD
  refine ⟨fun pins s σ H Q I ⟨l1, l2, q⟩ => ?_⟩
  refine wpAny_Call_Name_kw (ld_glob I hg hm ?_ hdb)
  exact PySem.W.callWith_K0 I.kIn FD.kp (run_g (us := []) (vs := []) (ws := []) (zs := []) (ks := []) OK hr hgd B hx I .nil .nil l1 l2 q)

/-- a method of the class at C: the promise of the def behind the name m -/
structure Mt (g : Prop) (X : Cx) (C : Addr) (m : Str) (n : Nat) (ks : List Str) (gV : PySem.W.Frag → List V → List V → List V) (sp : Sp) : Prop where
  cl : Cls X.K C
  ex : ∃ (k : Nat) (f : Addr) (d : He.DefD) (ps : List Str), Meth X.K C m f ∧ Pr g X.prog X.w X.K X.mg X.base k f d ps sp ∧ Bd d ps n ks gV ∧ Room k X.A ∧ Gd g X.A
/-- o.m(..): the object's class is looked up in the heap, and its method's promise is asked -/
def zMeth (X : Cx) (m : Str) (ks : List Str) (E : XK) (ta : TE) (t tk : TA) : TE := fun σ H Q => ta σ H fun x H1 =>
  ∃ (g : Prop) (a C dx : Addr) (fs : List (Str × V)) (n : Nat) (gV : PySem.W.Frag → List V → List V → List V) (sp : Sp), x = .ref a ∧ H1 a = some (.ins C dx fs) ∧ fs.lookup m = none ∧ Mt g X C m n ks gV sp ∧
    t σ H1 fun vs H2 => tk σ H2 fun zs H3 => (V.ref a :: vs).length = n ∧ zs.length = ks.length ∧ sp (gV X.K (.ref a :: vs) zs) H3 Q E
theorem pe_m {pl : Sem Bool} (hx : Passes (L2.CX X.prog X.w) X E) (he : PE X o ta) (ha : PA X (e :: es) t)
    (hst : starEach (e :: es) X.env = (false, eval e X.env) :: starEach es X.env := by rfl) (hpl : (backTo pos (starEach es X.env)).any (·.1) = false := by rfl)
    (ht : eval (.Call (.Attribute o m apos) (e :: es) [] pos) X.env = (do
      let ov ← eval o X.env; standAt apos.atName
      let (f, first) ← holding [ov] (getMethod ov m pl); callWith pos f first (backTo pos (starEach (e :: es) X.env)) (backToKw pos (keywordEach [] X.env))) := by rfl) :
    PE X (.Call (.Attribute o m apos) (e :: es) [] pos) (zMeth X m [] E ta t tNil) := by
  refine ⟨fun pins s σ H Q I h => ?_⟩
  refine PySem.W.methodCall_KW (pl := pl) (thn (he.run pins s σ H _ I h) fun u s1 ⟨x, H1, I1, rx, g, a, C, dx, fs, n, gV, sp, ex, ea, l, M, q⟩ => ?_) ht
  subst ex
  obtain rfl : u = Value.ref a := rx
  obtain ⟨k, f, d, ps, hm, F, hb, hr, hgd⟩ := M.ex
  obtain ⟨fd, FD, OK⟩ := F.ex
  obtain ⟨gg, B⟩ := hb _ _ _ FD
  refine getmeth_ok I1 ea M.cl hm l ?_
  refine PySem.W.callWith_K (first := [.ref a]) (h₀ := X.base) I.ok.mod.kin hm.kp ?_ hst hpl
  refine thn (ha.run pos pins s1 σ H1 _ I1 q) fun us s2 ⟨vs, H2, I2, r, l1, l2, q2⟩ => ⟨I2.kIn, ?_⟩
  exact run_g (us := .ref a :: us) (vs := .ref a :: vs) (ws := []) (zs := []) (ks := []) OK hr hgd B hx I2 (.cons rfl r) .nil l1 l2 q2
theorem pe_m0 {pl : Sem Bool} (hx : Passes (L2.CX X.prog X.w) X E) (he : PE X o ta)
    (ht : eval (.Call (.Attribute o m apos) [] [] pos) X.env = (do
      let ov ← eval o X.env; standAt apos.atName
      let (f, first) ← holding [ov] (getMethod ov m pl); callWith pos f first (backTo pos (starEach [] X.env)) (backToKw pos (keywordEach [] X.env))) := by rfl) :
    PE X (.Call (.Attribute o m apos) [] [] pos) (zMeth X m [] E ta tNil tNil) := by
  refine ⟨fun pins s σ H Q I h => ?_⟩
  refine PySem.W.methodCall_KW (pl := pl) (thn (he.run pins s σ H _ I h) fun u s1 ⟨x, H1, I1, rx, g, a, C, dx, fs, n, gV, sp, ex, ea, l, M, l1, l2, q⟩ => ?_) ht
  subst ex
  obtain rfl : u = Value.ref a := rx
  obtain ⟨k, f, d, ps, hm, F, hb, hr, hgd⟩ := M.ex
  obtain ⟨fd, FD, OK⟩ := F.ex
  obtain ⟨gg, B⟩ := hb _ _ _ FD
  refine getmeth_ok I1 ea M.cl hm l ?_
  exact PySem.W.callWith_K0 (first := [.ref a]) I1.kIn hm.kp (run_g (us := [.ref a]) (vs := [.ref a]) (ws := []) (zs := []) (ks := []) OK hr hgd B hx I1 (.cons rfl .nil) .nil l1 l2 q)
theorem pe_mk {pl : Sem Bool} (hx : Passes (L2.CX X.prog X.w) X E) (he : PE X o ta) (ha : PA X (e :: es) t) (hkw : PK X kws tk)
    (hall : (backToKw pos (keywordEach kws X.env)).all (·.1.isSome) = true := by rfl) (hks : (backToKw pos (keywordEach kws X.env)).filterMap (·.1) = ks := by rfl)
    (hst : starEach (e :: es) X.env = (false, eval e X.env) :: starEach es X.env := by rfl)
    (hpl : ((backTo pos (starEach (e :: es) X.env)).any (·.1) || (backToKw pos (keywordEach kws X.env)).any (·.1.isNone)) = false := by rfl)
    (ht : eval (.Call (.Attribute o m apos) (e :: es) kws pos) X.env = (do
      let ov ← eval o X.env; standAt apos.atName
      let (f, first) ← holding [ov] (getMethod ov m pl); callWith pos f first (backTo pos (starEach (e :: es) X.env)) (backToKw pos (keywordEach kws X.env))) := by rfl) :
    PE X (.Call (.Attribute o m apos) (e :: es) kws pos) (zMeth X m ks E ta t tk) := by
  refine ⟨fun pins s σ H Q I h => ?_⟩
  refine PySem.W.methodCall_KW (pl := pl) (thn (he.run pins s σ H _ I h) fun u s1 ⟨x, H1, I1, rx, g, a, C, dx, fs, n, gV, sp, ex, ea, l, M, q⟩ => ?_) ht
  subst ex
  obtain rfl : u = Value.ref a := rx
  obtain ⟨k, f, d, ps, hm, F, hb, hr, hgd⟩ := M.ex
  obtain ⟨fd, FD, OK⟩ := F.ex
  obtain ⟨gg, B⟩ := hb _ _ _ FD
  refine getmeth_ok I1 ea M.cl hm l ?_
  refine PySem.W.callWith_KW (first := [.ref a]) (h₀ := X.base) I.ok.mod.kin hm.kp hall ?_ hpl hst
  refine thn (ha.run pos pins s1 σ H1 _ I1 q) fun us s2 ⟨vs, H2, I2, r, q2⟩ => ?_
  refine thn (hkw.run pos pins s2 σ H2 _ I2 q2) fun ws s3 ⟨zs, H3, I3, rz, l1, l2, q3⟩ => ⟨I3.kIn, ?_⟩
  rw [hks]
  exact run_g (us := .ref a :: us) (vs := .ref a :: vs) OK hr hgd B hx I3 (.cons rfl r) rz l1 l2 q3
theorem pe_mk0 {pl : Sem Bool} (hx : Passes (L2.CX X.prog X.w) X E) (he : PE X o ta) (hkw : PK X kws tk)
    (hall : (backToKw pos (keywordEach kws X.env)).all (·.1.isSome) = true := by rfl) (hks : (backToKw pos (keywordEach kws X.env)).filterMap (·.1) = ks := by rfl)
    (hpl : ((backTo pos (starEach [] X.env)).any (·.1) || (backToKw pos (keywordEach kws X.env)).any (·.1.isNone)) = false := by rfl)
    (ht : eval (.Call (.Attribute o m apos) [] kws pos) X.env = (do
      let ov ← eval o X.env; standAt apos.atName
      let (f, first) ← holding [ov] (getMethod ov m pl); callWith pos f first (backTo pos (starEach [] X.env)) (backToKw pos (keywordEach kws X.env))) := by rfl) :
    PE X (.Call (.Attribute o m apos) [] kws pos) (zMeth X m ks E ta tNil tk) := by
  refine ⟨fun pins s σ H Q I h => ?_⟩
  refine PySem.W.methodCall_KW (pl := pl) (thn (he.run pins s σ H _ I h) fun u s1 ⟨x, H1, I1, rx, g, a, C, dx, fs, n, gV, sp, ex, ea, l, M, q⟩ => ?_) ht
  subst ex
  obtain rfl : u = Value.ref a := rx
  obtain ⟨k, f, d, ps, hm, F, hb, hr, hgd⟩ := M.ex
  obtain ⟨fd, FD, OK⟩ := F.ex
  obtain ⟨gg, B⟩ := hb _ _ _ FD
  refine getmeth_ok I1 ea M.cl hm l ?_
  refine PySem.W.callWith_KW0 (first := [.ref a]) (h₀ := X.base) I.ok.mod.kin hm.kp hall ?_ hpl
  refine thn (hkw.run pos pins s1 σ H1 _ I1 q) fun ws s3 ⟨zs, H3, I3, rz, l1, l2, q3⟩ => ⟨I3.kIn, ?_⟩
  rw [hks]
  exact run_g (us := [.ref a]) (vs := [.ref a]) OK hr hgd B hx I3 (.cons rfl .nil) rz l1 l2 q3

/-- C(..): a new instance and its dict, then __init__ (n counts the instance) -/
def zMake (K : PySem.W.Frag) (C : Addr) (n m : Nat) (gV : PySem.W.Frag → List V → List V → List V) (sp : Sp) (E : XK) (t tk : TA) : TE := fun σ H Q =>
  t σ H fun vs H1 => tk σ H1 fun zs H2 => vs.length + 1 = n ∧ zs.length = m ∧ ∀ x dx, H2 x = none → H2 dx = none → dx ≠ x →
    sp (gV K (.ref x :: vs) zs) (upd (upd H2 dx (.own x)) x (.ins C dx [])) (fun v H3 => v = .non ∧ Q (.ref x) H3) E
theorem run_mk {fd : FuncData} {gg : List Value → List Value → List Value} {gW : List V → List V → List V} {pins : List (Addr × Obj)} {σ : L2.St} {H : Hp} {s : Shared} {Q : VK} {us ws : List Value} {vs zs : List V}
    (M : L2.Mk X.K C f) (F : FnG g X.prog X.w X.K X.mg X.base k f fd ps sp) (hr : Room (k + 1) X.A) (hgd : Gd g X.A) (hb : KBn X.K fd ps n ks gg gW) (hx : Passes (L2.CX X.prog X.w) X E)
    (I : Inv X pins σ H s) (r : Vals vs us) (rz : Vals zs ws) (l1 : vs.length + 1 = n) (l2 : zs.length = ks.length)
    (h : ∀ x dx, H x = none → H dx = none → dx ≠ x → sp (gW (.ref x :: vs) zs) (upd (upd H dx (.own x)) x (.ins C dx [])) (fun v H2 => v = .non ∧ Q (.ref x) H2) E) :
    wpAny (model X.prog X.w) X.A (call (.ref C) us (ks.zip ws)) (EP X pins σ Q) X.xe s := by
  have q0 := h (s.heap.objs.size + 1) s.heap.objs.size (I.hok.fresh (Nat.le_succ _)) (I.hok.fresh (Nat.le_refl _)) (Nat.ne_of_lt (Nat.lt_succ_self _))
  have J := Inv.made (C := C) I
  have rs : Vals (V.ref (s.heap.objs.size + 1) :: vs) (Value.ref (s.heap.objs.size + 1) :: us) := .cons rfl r
  have ln : (Value.ref (s.heap.objs.size + 1) :: us).length = n := by rw [List.length_cons, ← r.length]; exact l1
  refine wpAny_call (make_map (f := f) I.kIn M.makes M.init (beq_iff_eq.mp M.fn) (codeAny_mono (F.run _ X.stack _ _ ⟨Value.ref (s.heap.objs.size + 1) :: us, ks.zip ws⟩ (gg (Value.ref (s.heap.objs.size + 1) :: us) ws) _ _ E
    (hr.make C us (ks.zip ws)) (hgd.make C us (ks.zip ws)) (J.env0.make C us (ks.zip ws)) (hb.to _ (Value.ref (s.heap.objs.size + 1) :: us) ws J.kIn ln (rz.length.symm.trans l2)) (hb.rel rs rz) q0) fun z s' hq => ?_))
  match z, hq with
  | .error e, hq => exact hx pins σ _ _ e s' J hq
  | .ok (.ret u), hq =>
    obtain ⟨v, H', I3, rv, ev, q3⟩ := J.after hq
    subst ev
    exact ⟨rv, ⟨V.ref (s.heap.objs.size + 1), H', I3, rfl, q3⟩⟩
  | .ok .next, hq => exact False.elim hq
  | .ok .brk, hq => exact False.elim hq
  | .ok .cont, hq => exact False.elim hq
section
variable (M : L2.Mk X.K C f) (F : Pr g X.prog X.w X.K X.mg X.base k f d ps sp) (hr : Room (k + 1) X.A) (hgd : Gd g X.A) (hg : Gl X x) (hm : X.mg x = some (.ref C)) (hx : Passes (L2.CX X.prog X.w) X E)
include M F hr hgd hg hm hx
theorem pe_new (hb : Bd d ps n [] gV) (ha : PA X (e :: es) t) (hdb : (x == ("__debug__" : Str)) = false := by decide) (he : starEach (e :: es) X.env = (false, eval e X.env) :: starEach es X.env := by rfl)
    (hpl : (backTo pos (starEach es X.env)).any (·.1) = false := by rfl) : PE X (.Call (.Name x p) (e :: es) [] pos) (zMake X.K C n 0 gV sp E t tNil) := by
  obtain ⟨fd, FD, OK⟩ := F.ex
  obtain ⟨gg, B⟩ := hb _ _ _ FD
  refine ⟨fun pins s σ H Q I h => ?_⟩
  refine wpAny_Call_Name_kw (ld_glob I hg hm ?_ hdb)
  refine PySem.W.callWith_K (h₀ := X.base) I.ok.mod.kin M.kp ?_ he hpl
  refine thn (ha.run pos pins s σ H _ I h) fun us s1 ⟨vs, H1, I1, r, l1, l2, q⟩ => ⟨I1.kIn, ?_⟩
  exact run_mk (ws := []) (zs := []) (ks := []) M OK hr hgd B hx I1 r .nil l1 l2 q
theorem pe_new0 (hb : Bd d ps n [] gV) (hdb : (x == ("__debug__" : Str)) = false := by decide) : PE X (.Call (.Name x p) [] [] pos) (zMake X.K C n 0 gV sp E tNil tNil) := by
  obtain ⟨fd, FD, OK⟩ := F.ex
  obtain ⟨gg, B⟩ := hb _ _ _ FD
  refine ⟨fun pins s σ H Q I ⟨l1, l2, q⟩ => ?_⟩
  refine wpAny_Call_Name_kw (ld_glob I hg hm ?_ hdb)
  exact PySem.W.callWith_K0 I.kIn M.kp (run_mk (us := []) (vs := []) (ws := []) (zs := []) (ks := []) M OK hr hgd B hx I .nil .nil l1 l2 q)
theorem pe_newk (hb : Bd d ps n ks gV) (ha : PA X (e :: es) t) (hkw : PK X kws tk)
    (hall : (backToKw pos (keywordEach kws X.env)).all (·.1.isSome) = true := by rfl) (hks : (backToKw pos (keywordEach kws X.env)).filterMap (·.1) = ks := by rfl) (hdb : (x == ("__debug__" : Str)) = false := by decide)
    (he : starEach (e :: es) X.env = (false, eval e X.env) :: starEach es X.env := by rfl)
    (hpl : ((backTo pos (starEach (e :: es) X.env)).any (·.1) || (backToKw pos (keywordEach kws X.env)).any (·.1.isNone)) = false := by rfl) :
    PE X (.Call (.Name x p) (e :: es) kws pos) (zMake X.K C n ks.length gV sp E t tk) := by
  obtain ⟨fd, FD, OK⟩ := F.ex
  obtain ⟨gg, B⟩ := hb _ _ _ FD
  refine ⟨fun pins s σ H Q I h => ?_⟩
  refine wpAny_Call_Name_kw (ld_glob I hg hm ?_ hdb)
  refine PySem.W.callWith_KW (h₀ := X.base) I.ok.mod.kin M.kp hall ?_ hpl he
  refine thn (ha.run pos pins s σ H _ I h) fun us s1 ⟨vs, H1, I1, r, q⟩ => ?_
  refine thn (hkw.run pos pins s1 σ H1 _ I1 q) fun ws s2 ⟨zs, H2, I2, rz, l1, l2, q2⟩ => ⟨I2.kIn, ?_⟩
  rw [hks]
  exact run_mk M OK hr hgd B hx I2 r rz l1 l2 q2
theorem pe_newk0 (hb : Bd d ps n ks gV) (hkw : PK X kws tk)
    (hall : (backToKw pos (keywordEach kws X.env)).all (·.1.isSome) = true := by rfl) (hks : (backToKw pos (keywordEach kws X.env)).filterMap (·.1) = ks := by rfl) (hdb : (x == ("__debug__" : Str)) = false := by decide)
    (hpl : ((backTo pos (starEach [] X.env)).any (·.1) || (backToKw pos (keywordEach kws X.env)).any (·.1.isNone)) = false := by rfl) :
    PE X (.Call (.Name x p) [] kws pos) (zMake X.K C n ks.length gV sp E tNil tk) := by
  obtain ⟨fd, FD, OK⟩ := F.ex
  obtain ⟨gg, B⟩ := hb _ _ _ FD
  refine ⟨fun pins s σ H Q I h => ?_⟩
  refine wpAny_Call_Name_kw (ld_glob I hg hm ?_ hdb)
  refine PySem.W.callWith_KW0 (h₀ := X.base) I.ok.mod.kin M.kp hall ?_ hpl
  refine thn (hkw.run pos pins s σ H _ I h) fun ws s2 ⟨zs, H2, I2, rz, l1, l2, q2⟩ => ⟨I2.kIn, ?_⟩
  rw [hks]
  exact run_mk (us := []) (vs := []) M OK hr hgd B hx I2 .nil rz l1 l2 q2
end
end
end Z

/-! Z, part two: statements with their ways out as arguments; operations by values; heaps by names. -/
namespace Z
open PySem PySem.Spec PyProof.Rows L2

/-! ### heaps -/
structure New (H : Hp) (p : Addr) (o : HO) (H' : Hp) : Prop where
  fr : H p = none
  eq : H' = upd H p o
structure Up (H : Hp) (p : Addr) (o : HO) (H' : Hp) : Prop where
  was : ∃ u, H p = some u
  eq : H' = upd H p o
/-- all but a stands -/
structure But (a : Addr) (H H' : Hp) : Prop where
  all : ∀ b u, b ≠ a → H b = some u → H' b = some u
section
variable {H H' H1 H2 : Hp} {a b p : Addr} {o u : HO}
theorem New.at (n : New H p o H') : H' p = some o := by rw [n.eq]; exact upd_same
theorem New.get (n : New H p o H') (h : H a = some u) : H' a = some u := by rw [n.eq, upd_ne (ne_of_none h n.fr)]; exact h
theorem New.same (n : New H p o H') : Same H H' := fun _ _ h => n.get h
theorem New.ne (n : New H p o H') (h : H a = some u) : a ≠ p := ne_of_none h n.fr
theorem New.ne' (n : New H p o H') (h : H a = some u) : p ≠ a := (ne_of_none h n.fr).symm
theorem Up.at (n : Up H p o H') : H' p = some o := by rw [n.eq]; exact upd_same
theorem Up.get (n : Up H p o H') (ne : a ≠ p) (h : H a = some u) : H' a = some u := by rw [n.eq, upd_ne ne]; exact h
theorem Up.but (n : Up H p o H') : But p H H' := ⟨fun _ _ ne h => n.get ne h⟩
theorem same_get (s : Same H H') (h : H a = some u) : H' a = some u := s a u h
theorem But.get (n : But p H H') (ne : a ≠ p) (h : H a = some u) : H' a = some u := n.all a u ne h
theorem But.refl : But p H H := ⟨fun _ _ _ h => h⟩
theorem But.trans (x : But p H H1) (y : But p H1 H2) : But p H H2 := ⟨fun b u ne h => y.get ne (x.get ne h)⟩
theorem But.ofSame (x : Same H H1) : But p H H1 := ⟨fun b u _ h => x b u h⟩
/-- p is new: what is done to it doesn't matter to what stood -/
theorem But.back (x : But p H H1) (f : H p = none) : Same H H1 := fun b u h => x.get (ne_of_none h f) h
theorem Same.thenBut (x : Same H H1) (y : But p H1 H2) (f : H p = none) : Same H H2 := fun b u h => y.get (ne_of_none h f) (x b u h)
theorem Same.up (x : Same H H1) (y : Up H1 p o H2) (f : H p = none) : Same H H2 := Same.thenBut x y.but f
theorem Same.new (x : Same H H1) (y : New H1 p o H2) : Same H H2 := fun b u h => y.get (x b u h)
theorem But.new (x : But a H H1) (y : New H1 p o H2) : But a H H2 := ⟨fun b u ne h => y.get (x.get ne h)⟩
theorem But.up (x : But a H H1) (y : Up H1 a o H2) : But a H H2 := x.trans y.but
theorem But.upNew (x : But a H H1) (y : Up H1 p o H2) (f : H p = none) : But a H H2 := ⟨fun b u ne h => y.get (ne_of_none h f) (x.get ne h)⟩
theorem But.same (x : But a H H1) (y : Same H1 H2) : But a H H2 := x.trans (.ofSame y)
theorem free_back (s : Same H H') (h : H' p = none) : H p = none := Same.free s h
theorem But.free (s : But a H H') (h : H' p = none) (ne : p ≠ a) : H p = none := by
  cases e : H p with
  | none => rfl
  | some u => rw [s.get ne e] at h; cases h
end
section
variable {H H1 H2 : Hp} {a p : Addr} {o : HO}
theorem fr_new (y : New H1 p o H2) (x : Same H H1) : Same H H2 := Same.new x y
theorem fr_same (y : Same H1 H2) (x : Same H H1) : Same H H2 := x.trans y
theorem fr_up (y : Up H1 p o H2) (x : Same H H1) (f : H p = none) : Same H H2 := Same.up x y f
theorem fr_but (y : But p H1 H2) (x : Same H H1) (f : H p = none) : Same H H2 := Same.thenBut x y f
theorem fb_new (y : New H1 p o H2) (x : But a H H1) : But a H H2 := x.new y
theorem fb_same (y : Same H1 H2) (x : But a H H1) : But a H H2 := x.same y
theorem fb_but (y : But a H1 H2) (x : But a H H1) : But a H H2 := x.trans y
theorem fb_up (y : Up H1 a o H2) (x : But a H H1) : But a H H2 := x.up y
theorem fb_upn (y : Up H1 p o H2) (x : But a H H1) (f : H p = none) : But a H H2 := x.upNew y f
theorem fb_butn (y : But p H1 H2) (x : But a H H1) (f : H p = none) : But a H H2 := ⟨fun b u ne h => y.get (ne_of_none h f) (x.get ne h)⟩
theorem fresh_by (n : New H1 p o H2) (s : Same H H1) : H p = none := free_back s n.fr
theorem fresh_at (n : H1 p = none) (s : Same H H1) : H p = none := free_back s n
theorem fresh_but (n : New H1 p o H2) (s : But a H H1) (ne : p ≠ a) : H p = none := s.free n.fr ne
end
theorem ne_fr {H : Hp} {a b : Addr} {u : HO} (f : H b = none) (h : H a = some u) : a ≠ b := ne_of_none h f
theorem ne_fr' {H : Hp} {a b : Addr} {u : HO} (f : H b = none) (h : H a = some u) : b ≠ a := (ne_of_none h f).symm
theorem sq_same {K : PySem.W.Frag} {H H' : Hp} {a : Addr} {xs : List V} (s : Same H H') (h : SqL K H a xs) : SqL K H' a xs := s.seq h
theorem sq_new {K : PySem.W.Frag} {H H' : Hp} {a p : Addr} {o : HO} {xs : List V} (n : New H p o H') (h : SqL K H a xs) : SqL K H' a xs := Same.seq n.same h
theorem i_wipe {σ σ2 : L2.St} {vs : List Nat} {G : Prop} (e : wipe σ2 vs = wipe σ vs) (h : G) : wipe σ2 vs = wipe σ vs ∧ G := ⟨e, h⟩
theorem in_new {G : V → Hp → Prop} {H : Hp} {o : HO} (h : ∀ p H', New H p o H' → G (.ref p) H') : ∀ p, H p = none → G (.ref p) (upd H p o) := fun p f => h p _ ⟨f, rfl⟩
theorem in_newA {G : Addr → Hp → Prop} {H : Hp} {o : HO} (h : ∀ p H', New H p o H' → G p H') : ∀ p, H p = none → G p (upd H p o) := fun p f => h p _ ⟨f, rfl⟩
theorem in_up {G : Hp → Prop} {H : Hp} {p : Addr} {o u : HO} (w : H p = some u) (h : ∀ H', Up H p o H' → G H') : G (upd H p o) := h _ ⟨⟨u, w⟩, rfl⟩

/-! ### statements: nx, what a return wants, break, continue, slots, heap -/
abbrev TZ := (L2.St → Hp → Prop) → VK → (L2.St → Hp → Prop) → (L2.St → Hp → Prop) → L2.St → Hp → Prop
def zS (t : TZ) : TS := fun D => t D.nx D.rt D.bk D.ct
section
variable {X : Cx} {st : Stmt} {rest : List Stmt} {t u : TZ} {pos : Pos} {e : Expr} {te : TE}
def zNext : TZ := fun nx _ _ _ σ H => nx σ H
def zSeq (t u : TZ) : TZ := fun nx rt bk ct σ H => t (fun σ H => u nx rt bk ct σ H) rt bk ct σ H
def zDrop (te : TE) : TZ := fun nx _ _ _ σ H => te σ H fun _ H1 => nx σ H1
def zRet (te : TE) : TZ := fun _ rt _ _ σ H => te σ H rt
def zRetN : TZ := fun _ rt _ _ _ H => rt .non H
def zBreak : TZ := fun _ _ bk _ σ H => bk σ H
def zCont : TZ := fun _ _ _ ct σ H => ct σ H
def zIf (c : TT) (t u : TZ) : TZ := fun nx rt bk ct σ H => c σ H fun b H1 => if b = true then t nx rt bk ct σ H1 else u nx rt bk ct σ H1
def zAsg (te : TE) (g : TG) : TZ := fun nx _ _ _ σ H => te σ H fun x H1 => g x σ H1 nx
def zAug (i : Nat) (te : TE) (ti : TIp) : TZ := fun nx _ _ _ σ H => ∃ x, σ[i]? = some (some x) ∧ te σ H fun y H1 => ti x y H1 fun z H2 => nx (σ.set i (some z)) H2
def zPar (i j : Nat) (ta : TA) : TZ := fun nx _ _ _ σ H => ta σ H fun vs H1 => ∃ v w, vs = [v, w] ∧ nx ((σ.set i (some v)).set j (some w)) H1
def zPar3 (i j l : Nat) (ta : TA) : TZ := fun nx _ _ _ σ H => ta σ H fun vs H1 => ∃ u v w, vs = [u, v, w] ∧ nx (((σ.set i (some u)).set j (some v)).set l (some w)) H1
def zFld (K : PySem.W.Frag) (ta tv : TE) (f : Str) : TZ := fun nx rt bk ct σ H => sFld K ta tv f ⟨nx, rt, bk, ct⟩ σ H
def zAugS (to ti te : TE) (tget : V → V → Hp → VK → Prop) (tip : TIp) (tset : TSet) : TZ := fun nx _ _ _ σ H =>
  to σ H fun o H1 => ti σ H1 fun i H2 => tget o i H2 fun x H3 => te σ H3 fun y H4 => tip x y H4 fun z H5 => tset o i z H5 fun H6 => nx σ H6
def zFldAug (K : PySem.W.Frag) (ta tv : TE) (rd : V → V → Hp → VK → Prop) (f : Str) : TZ := fun nx rt bk ct σ H => sFldAug K ta tv rd f ⟨nx, rt, bk, ct⟩ σ H
def zNever : TZ := fun _ _ _ _ _ _ => False
/-- a loop behind its iterator -/
def zLoop (J : It) (g : TG) (tb : TZ) (nx : L2.St → Hp → Prop) (rt : VK) (σ : L2.St) (H1 : Hp) : Prop :=
  ∃ W : Nat → Nat → L2.St → Hp → Prop, (∃ m, W 0 m σ H1) ∧ ∀ i m σ H, W i m σ H → (J.stop i H ∧ nx σ H) ∨ (J.go i H ∧ ∃ N : L2.St → Hp → Prop, (∀ σ' H', N σ' H' → ∃ m', m' < m ∧ W (i + 1) m' σ' H') ∧
    ∀ x H', J.yld i H x H' → g x σ H' fun σ2 H2 => tb N rt nx N σ2 H2)
def zFor (wi : TI) (g : TG) (tb : TZ) : TZ := fun nx rt _ _ σ H => wi σ H fun J H1 => zLoop J g tb nx rt σ H1
/-- a while's body, from a state with so great a measure -/
def zBody (W : Nat → L2.St → Hp → Prop) (m : Nat) (tb : TZ) (nx : L2.St → Hp → Prop) (rt : VK) (σ : L2.St) (H : Hp) : Prop :=
  ∃ N : L2.St → Hp → Prop, (∀ σ' H', N σ' H' → ∃ m', m' < m ∧ W m' σ' H') ∧ tb N rt nx N σ H
def zWhile (c : TT) (tb : TZ) : TZ := fun nx rt _ _ σ H => ∃ W : Nat → L2.St → Hp → Prop, (∃ m, W m σ H) ∧ ∀ m σ H, W m σ H →
  c σ H fun b H1 => if b = true then zBody W m tb nx rt σ H1 else nx σ H1

theorem zs_nil : PSs X [] (zS zNext) := pss_nil
theorem zs_cons (h1 : PS X st (zS t)) (h2 : PSs X rest (zS u)) : PSs X (st :: rest) (zS (zSeq t u)) := pss_cons h1 h2
theorem zs_one (h : PS X st (zS t)) : PSs X [st] (zS t) := pss_one h
theorem z_expr (he : PE X e te) (hs : swapsWith e none pos.line X.env = pure false := by rfl) : PS X (.Expr e pos) (zS (zDrop te)) := ps_expr he hs
theorem z_ret (he : PE X e te) : PS X (.Return (some e) pos) (zS (zRet te)) := ps_ret he
theorem z_retN : PS X (.Return none pos) (zS zRetN) := ps_retN
theorem z_pass : PS X (.Pass pos) (zS zNext) := ps_pass
theorem z_break : PS X (.Break pos) (zS zBreak) := ps_break
theorem z_continue : PS X (.Continue pos) (zS zCont) := ps_continue
theorem z_never : PS X st (zS zNever) := ps_never
theorem z_if {c : Expr} {a b : List Stmt} {tc : TT} (hc : PT X c tc) (ha : PSs X a (zS t)) (hb : PSs X b (zS u)) : PS X (.If c a b pos) (zS (zIf tc t u)) := ps_if hc ha hb
theorem z_asg {tg : Expr} {g : TG} (he : PE X e te) (hg : PG X tg g) (hs : swapsWithSole [tg] e pos.line X.env = pure false := by rfl) (hw : swappedStores [tg] e X.env = pure none := by rfl)
    (h1 : (assignEach [tg] X.env).map (·.2) = [assign tg X.env] := by rfl) : PS X (.Assign [tg] e pos) (zS (zAsg te g)) := ps_asg he hg hs hw h1
theorem z_set {i : Nat} {x : Str} {pos' : Pos} (hN : X.N.Nodup) (hi : X.N[i]? = some x) (hx : Loc X.env.scope x) (he : PE X e te) (hs : swapsWith e (some (.Name x pos')) pos.line X.env = pure false := by rfl)
    (hf : X.fn x = true ∨ X.env.scope.names.lookup x = some .local := by first | exact .inl rfl | exact .inr rfl | assumption) : PS X (.Assign [.Name x pos'] e pos) (zS (zAsg te (gName i))) := ps_set hN hi hx he hs hf
theorem z_aug {i : Nat} {x : Str} {op : Operator} {ti : TIp} {pos' : Pos} (hN : X.N.Nodup) (hi : X.N[i]? = some x) (hx : Loc X.env.scope x) (he : PE X e te) (ho : PIp X op ti)
    (hf : X.fn x = true ∨ X.env.scope.names.lookup x = some .local := by first | exact .inl rfl | exact .inr rfl | assumption) : PS X (.AugAssign (.Name x pos') op e pos) (zS (zAug i te ti)) := ps_aug hN hi hx he ho hf
theorem z_augS {o i : Expr} {to ti : TE} {tget : V → V → Hp → VK → Prop} {tip : TIp} {tset : TSet} {op : Operator} {tpos : Pos} (ho : PE X o to) (hi : PE X i ti) (hg : PGet X tget) (he : PE X e te) (hp : PIp X op tip) (hs : PSet X tset)
    (ha : ∀ ov iv new, augStore i ov iv new = (do holding [new, ov, iv] (setItem ov iv new); release [new, ov, iv] []; pure .next) := by intros; rfl) : PS X (.AugAssign (.Subscript o i tpos) op e pos) (zS (zAugS to ti te tget tip tset)) := ps_augS ho hi hg he hp hs ha
theorem z_fld {o : Expr} {ta : TE} {f : Str} {pos' : Pos} (ha : PE X o ta) (hv : PE X e te) (hs : swapsWith e (some (.Attribute o f pos')) pos.line X.env = pure false := by rfl) :
    PS X (.Assign [.Attribute o f pos'] e pos) (zS (zFld X.K ta te f)) := ps_fld ha hv hs
theorem z_fldaug {o : Expr} {ta : TE} {f : Str} {op : Operator} {rd : V → V → Hp → VK → Prop} {tpos : Pos} (ha : PE X o ta) (hv : PE X e te) (hop : InOp X op rd) : PS X (.AugAssign (.Attribute o f tpos) op e pos) (zS (zFldAug X.K ta te rd f)) := ps_fldaug ha hv hop
theorem z_par {i j : Nat} {x y : Str} {a b : Expr} {ta : TA} {px py pt : Pos} {kt k2 pt2} (hc : X.calm = true) (hN : X.N.Nodup) (hi : X.N[i]? = some x) (hj : X.N[j]? = some y) (hij : i ≠ j)
    (hx : X.env.scope.names.lookup x = some .local) (hy : X.env.scope.names.lookup y = some .local) (ha : PA X [a, b] ta)
    (hp : swappedStores [.Tuple [.Name x px, .Name y py] kt pt] (.Tuple [a, b] k2 pt2) X.env = pure (some [x, y])) :
    PS X (.Assign [.Tuple [.Name x px, .Name y py] kt pt] (.Tuple [a, b] k2 pt2) pos) (zS (zPar i j ta)) := ps_par hc hN hi hj hij hx hy ha hp
theorem z_par3 {i j l : Nat} {x y z : Str} {a b c : Expr} {ta : TA} {px py pz pt : Pos} {kt k2 pt2} (hc : X.calm = true) (hN : X.N.Nodup) (hi : X.N[i]? = some x) (hj : X.N[j]? = some y) (hl : X.N[l]? = some z)
    (h1 : i ≠ j) (h2 : i ≠ l) (h3 : j ≠ l) (hx : X.env.scope.names.lookup x = some .local) (hy : X.env.scope.names.lookup y = some .local) (hz : X.env.scope.names.lookup z = some .local) (ha : PA X [a, b, c] ta)
    (hp : swappedStores [.Tuple [.Name x px, .Name y py, .Name z pz] kt pt] (.Tuple [a, b, c] k2 pt2) X.env = pure (some [x, y, z])) :
    PS X (.Assign [.Tuple [.Name x px, .Name y py, .Name z pz] kt pt] (.Tuple [a, b, c] k2 pt2) pos) (zS (zPar3 i j l ta)) := ps_par3 hc hN hi hj hl h1 h2 h3 hx hy hz ha hp
theorem z_setLc {i : Nat} {y : Str} {py : Pos} {elt tg iter : Expr} {ifs : List Expr} {scope : Scope} {own : List (Str × Nat)} {spos : Pos} {wi : TI} {g : TG} {tt : TT} (hc : X.calm = true) (hN : X.N.Nodup) (hy : X.N[i]? = some y) (hyl : X.env.scope.names.lookup y = some .local)
    (hsw : swapsWith (.ListComp elt [⟨tg, iter, ifs, 0⟩] scope pos) (some (.Name y py)) spos.line X.env = pure true) (hi : PI X tg iter wi) (ok : BlkOk X.N X.env.scope scope own)
    (hg : ∀ (s : Shared) (H : Hp) (C : Addr) (cl : List (Str × Addr)) (fp : List Addr), PG (X.blk s H scope (compEnvC scope cl C X.env) fp) tg g)
    (ht : ∀ (s : Shared) (H : Hp) (C : Addr) (cl : List (Str × Addr)) (fp : List Addr), PTs (X.blk s H scope (compEnvC scope cl C X.env) fp) ifs tt)
    (he : ∀ (s : Shared) (H : Hp) (C : Addr) (cl : List (Str × Addr)) (fp : List Addr), PE (X.blk s H scope (compEnvC scope cl C X.env) fp) elt te) (hs : ∀ x, foldedSetIterable iter X.env x = pure x := by intro _; rfl) :
    PS X (.Assign [.Name y py] (.ListComp elt [⟨tg, iter, ifs, 0⟩] scope pos) spos) (zS (zAsg (tLc wi g tt te (own.map (·.2))) (gName i))) := ps_setLc hc hN hy hyl hsw hi ok hg ht he hs
theorem z_for {tg iter : Expr} {body : List Stmt} {wi : TI} {g : TG} {tb : TZ} (hp : PassesOwn (model X.prog X.w) X.A X.env X.xe) (hc : X.calm = true) (hi : PI X tg iter wi) (hg : PG X tg g) (hb : PSs X body (zS tb))
    (hs : ∀ x, foldedSetIterable iter X.env x = pure x := by intro _; rfl) : PS X (.For tg iter body [] pos) (zS (zFor wi g tb)) := ps_for hp hc hi hg hb hs
theorem z_while {c : Expr} {body : List Stmt} {tc : TT} {tb : TZ} (hp : PassesOwn (model X.prog X.w) X.A X.env X.xe) (hc : PT X c tc) (hb : PSs X body (zS tb)) : PS X (.While c body [] pos) (zS (zWhile tc tb)) := ps_while hp hc hb
end

/-! ### their readings, from the front -/
section
variable {nx bk ct : L2.St → Hp → Prop} {rt : VK} {σ : L2.St} {H : Hp} {t u : TZ} {te ta tb : TE} {g : TG} {Q : VK} {QA : List V → Hp → Prop} {QB : Bool → Hp → Prop} {x y v : V} {vs : List V} {r : R2} {i j l : Nat} {c d : TT} {tr tk : TA} {K : PySem.W.Frag}
theorem i_next (h : nx σ H) : zNext nx rt bk ct σ H := h
theorem i_seq (h : t (fun σ H => u nx rt bk ct σ H) rt bk ct σ H) : zSeq t u nx rt bk ct σ H := h
theorem i_drop (h : te σ H fun _ H1 => nx σ H1) : zDrop te nx rt bk ct σ H := h
theorem i_ret (h : te σ H rt) : zRet te nx rt bk ct σ H := h
theorem i_retN (h : rt .non H) : zRetN nx rt bk ct σ H := h
theorem i_break (h : bk σ H) : zBreak nx rt bk ct σ H := h
theorem i_cont (h : ct σ H) : zCont nx rt bk ct σ H := h
theorem i_if (h : c σ H fun b H1 => if b = true then t nx rt bk ct σ H1 else u nx rt bk ct σ H1) : zIf c t u nx rt bk ct σ H := h
theorem i_asg (h : te σ H fun x H1 => g x σ H1 nx) : zAsg te g nx rt bk ct σ H := h
theorem i_aug {ti : TIp} (e : σ[i]? = some (some x)) (h : te σ H fun y H1 => ti x y H1 fun z H2 => nx (σ.set i (some z)) H2) : zAug i te ti nx rt bk ct σ H := ⟨x, e, h⟩
theorem i_par (h : tr σ H fun vs H1 => ∃ v w, vs = [v, w] ∧ nx ((σ.set i (some v)).set j (some w)) H1) : zPar i j tr nx rt bk ct σ H := h
theorem i_par3 (h : tr σ H fun vs H1 => ∃ u v w, vs = [u, v, w] ∧ nx (((σ.set i (some u)).set j (some v)).set l (some w)) H1) : zPar3 i j l tr nx rt bk ct σ H := h
theorem i_two {v w : V} {G : V → V → Prop} (h : G v w) : ∃ v' w', [v, w] = [v', w'] ∧ G v' w' := ⟨v, w, rfl, h⟩
theorem i_three {z v w : V} {G : V → V → V → Prop} (h : G z v w) : ∃ z' v' w', [z, v, w] = [z', v', w'] ∧ G z' v' w' := ⟨z, v, w, rfl, h⟩
theorem i_name {Q : L2.St → Hp → Prop} (h : Q (σ.set i (some v)) H) : gName i v σ H Q := h
theorem i_tupT {n : Nat} {a : Addr} {gs : TGs} {Q : L2.St → Hp → Prop} (h : H a = some (.tup vs)) (hn : vs.length = n) (q : gs vs σ H Q) : gTup K n gs (.ref a) σ H Q := ⟨a, vs, rfl, SqT.of h, hn, q⟩
theorem i_gcons {t : TG} {u : TGs} {Q : L2.St → Hp → Prop} (h : t v σ H fun σ' H' => u vs σ' H' Q) : gCons t u (v :: vs) σ H Q := ⟨v, vs, rfl, h⟩
theorem i_gnil {Q : L2.St → Hp → Prop} (h : Q σ H) : gNil [] σ H Q := ⟨rfl, h⟩
theorem i_gsub {to ti : TE} {t : TSet} {Q : L2.St → Hp → Prop} (h : to σ H fun o H1 => ti σ H1 fun i H2 => t o i v H2 fun H3 => Q σ H3) : gSub to ti t v σ H Q := h
theorem i_augS {to ti te : TE} {tget : V → V → Hp → VK → Prop} {tip : TIp} {tset : TSet} (h : to σ H fun o H1 => ti σ H1 fun i H2 => tget o i H2 fun x H3 => te σ H3 fun y H4 => tip x y H4 fun z H5 => tset o i z H5 fun H6 => nx σ H6) :
    zAugS to ti te tget tip tset nx rt bk ct σ H := h
theorem i_for {wi : TI} {tb : TZ} (h : wi σ H fun J H1 => zLoop J g tb nx rt σ H1) : zFor wi g tb nx rt bk ct σ H := h
-- expressions
theorem i_var (e : σ[i]? = some (some v)) (q : Q v H) : tVar i σ H Q := ⟨v, e, q⟩
theorem i_c (q : Q v H) : tC v σ H Q := q
theorem i_op (h : ta σ H fun x H1 => tb σ H1 fun y H2 => r x y H2 Q) : tOp r ta tb σ H Q := h
theorem i_un {r : V → Hp → VK → Prop} (h : ta σ H fun x H1 => r x H1 Q) : tUn r ta σ H Q := h
theorem i_nil (q : QA [] H) : tNil σ H QA := q
theorem i_cons (h : ta σ H fun x H1 => tr σ H1 fun xs H2 => QA (x :: xs) H2) : tCons ta tr σ H QA := h
theorem i_cb {r : List V → Hp → VK → Prop} (h : tr σ H fun vs H1 => r vs H1 Q) : tCB r tr σ H Q := h
theorem i_ifE (h : c σ H fun b H1 => if b = true then ta σ H1 Q else tb σ H1 Q) : tIf c ta tb σ H Q := h
theorem i_ifEJ (k : ∀ z : Int, Q (.int z) H) (h : ∀ Q' : VK, (∀ z : Int, Q' (.int z) H) → c σ H fun b H1 => if b = true then ta σ H1 Q' else tb σ H1 Q') : tIf c ta tb σ H Q := h Q k
theorem i_test (h : te σ H fun x H1 => ∃ k, x = .bl k ∧ QB k H1) : tTest te σ H QB := h
theorem i_b (h : te σ H fun x H1 => ∃ k, x = .bl k ∧ QB k H1) : tB te σ H QB := h
theorem i_and (h : c σ H fun b H1 => if b = true then d σ H1 QB else QB false H1) : tAnd c d σ H QB := h
theorem i_or (h : c σ H fun b H1 => if b = true then QB true H1 else d σ H1 QB) : tOr c d σ H QB := h
theorem i_not (h : c σ H fun b H1 => QB (!b) H1) : tNot c σ H QB := h
theorem i_andV (h : ta σ H fun x H1 => ∃ k, x = .bl k ∧ if k = true then tb σ H1 Q else Q (.bl false) H1) : tAndV ta tb σ H Q := h
theorem i_orV (h : ta σ H fun x H1 => ∃ k, x = .bl k ∧ if k = true then Q (.bl true) H1 else tb σ H1 Q) : tOrV ta tb σ H Q := h
theorem i_blV {b : Bool} {G : Bool → Prop} (q : G b) : ∃ k, V.bl b = .bl k ∧ G k := ⟨b, rfl, q⟩
theorem i_tup (h : tr σ H fun xs H1 => xs.length ≤ sizeLine ∧ ∀ p H', New H1 p (.tup xs) H' → Q (.ref p) H') : tTup tr σ H Q := by
  show tr σ H _
  exact cast (by congr 1; funext xs H1; exact propext ⟨fun h => ⟨h.1, fun p f => h.2 p _ ⟨f, rfl⟩⟩, fun h => ⟨h.1, fun p H' n => n.eq ▸ h.2 p n.fr⟩⟩) h
theorem i_lst (h : tr σ H fun xs H1 => xs.length ≤ sizeLine ∧ ∀ p H', New H1 p (.lst xs) H' → Q (.ref p) H') : tLst tr σ H Q := by
  show tr σ H _
  exact cast (by congr 1; funext xs H1; exact propext ⟨fun h => ⟨h.1, fun p f => h.2 p _ ⟨f, rfl⟩⟩, fun h => ⟨h.1, fun p H' n => n.eq ▸ h.2 p n.fr⟩⟩) h
theorem i_sz {n : Nat} {G : Prop} (hn : n ≤ 1000) (h : G) : n ≤ sizeLine ∧ G := ⟨Nat.le_trans hn (by rw [sizeLine_eq]; decide), h⟩
theorem i_call {n m : Nat} {gV : PySem.W.Frag → List V → List V → List V} {sp : Sp} {E : XK} (h : tr σ H fun vs H1 => tk σ H1 fun zs H2 => vs.length = n ∧ zs.length = m ∧ sp (gV K vs zs) H2 Q E) : zCall K n m gV sp E tr tk σ H Q := h
theorem i_len2 {n m : Nat} {zs : List V} {G : Prop} (e1 : vs.length = n) (e2 : zs.length = m) (h : G) : vs.length = n ∧ zs.length = m ∧ G := ⟨e1, e2, h⟩
end
end Z

/-! Z, part three: operations by values, loops, comprehensions. -/
namespace Z
open PySem PySem.Spec PyProof.Rows L2

/-! ### + -/
def rAdd (K : PySem.W.Frag) : R2 := fun x y H Q => (∃ i j, x = .int i ∧ y = .int j ∧ Q (.int (i + j)) H) ∨ (∃ i j, x = .str i ∧ y = .str j ∧ i.length + j.length ≤ sizeLine ∧ Q (.str (i ++ j)) H) ∨ rCat x y H Q ∨ rCatA K x y H Q
theorem opAdd {X : Cx} : OpR X (binaryOp .Add) (rAdd X.K) := op_add.or (op_add_str.or (op_cat.or op_catA))
section
variable {K : PySem.W.Frag} {H : Hp} {Q : VK} {i j : Int} {a b : Str} {p q : Addr} {xs ys : List V} {v : V}
theorem i_addI (h : Q (.int (i + j)) H) : rAdd K (.int i) (.int j) H Q := .inl ⟨i, j, rfl, rfl, h⟩
theorem i_addS (z : a.length + b.length ≤ sizeLine) (h : Q (.str (a ++ b)) H) : rAdd K (.str a) (.str b) H Q := .inr (.inl ⟨a, b, rfl, rfl, z, h⟩)
theorem i_addL (h1 : H p = some (.lst xs)) (h2 : H q = some (.lst ys)) (z : xs.length + ys.length ≤ sizeLine) (h : ∀ r H', New H r (.lst (xs ++ ys)) H' → Q (.ref r) H') : rAdd K (.ref p) (.ref q) H Q :=
  .inr (.inr (.inl ⟨p, q, xs, ys, rfl, rfl, h1, h2, z, fun r f => h r _ ⟨f, rfl⟩⟩))
/-! ### * -/
def rMul : R2 := fun x y H Q => (∃ i j, x = .int i ∧ y = .int j ∧ CMulX i j ∧ Q (.int (i * j)) H) ∨ (∃ i j, x = .int i ∧ y = .int j ∧ CMul i j ∧ Q (.int (i * j)) H) ∨ rRep x y H Q
theorem opMul {X : Cx} : OpR X (binaryOp .Mult) rMul := op_mulX.or (op_mul.or op_rep)
theorem i_mulI (c : CMulX i j) (h : Q (.int (i * j)) H) : rMul (.int i) (.int j) H Q := .inl ⟨i, j, rfl, rfl, c, h⟩
theorem i_mulR (c : -(2 ^ 64) < j ∧ j < 2 ^ 64) (h : Q (.int (i * j)) H) : rMul (.int i) (.int j) H Q := .inr (.inl ⟨i, j, rfl, rfl, .inr c, h⟩)
theorem i_mulJ (c : -(2 ^ 64) < i ∧ i < 2 ^ 64) (h : Q (.int (i * j)) H) : rMul (.int i) (.int j) H Q := .inr (.inl ⟨i, j, rfl, rfl, .inl c, h⟩)
theorem i_mulL (h1 : H p = some (.lst xs)) (z1 : -(2 ^ 63) ≤ j) (z2 : j < 2 ^ 63) (z : xs.length * j.toNat ≤ sizeLine) (h : ∀ r H', New H r (.lst (List.replicate j.toNat xs).flatten) H' → Q (.ref r) H') : rMul (.ref p) (.int j) H Q :=
  .inr <| .inr ⟨p, j, xs, rfl, rfl, h1, z1, z2, z, fun r f => h r _ ⟨f, rfl⟩⟩
/-! ### other operations on ints -/
theorem i_I {C : Int → Int → Prop} {f : Int → Int → V} (c : C i j) (h : Q (f i j) H) : rI C f (.int i) (.int j) H Q := ⟨i, j, rfl, rfl, c, h⟩
theorem i_I0 {f : Int → Int → V} (h : Q (f i j) H) : rI0 f (.int i) (.int j) H Q := ⟨i, j, rfl, rfl, h⟩
theorem i_U {f : Int → V} (h : Q (f i) H) : rU f (.int i) H Q := ⟨i, rfl, h⟩
theorem i_ipI {f : Int → Int → Int} (h : Q (.int (f i j)) H) : ipI f (.int i) (.int j) H Q := ⟨i, j, rfl, rfl, h⟩
/-! ### == and != -/
def rEqU (K : PySem.W.Frag) : R2 := fun x y H Q => rEq x y H Q ∨ rEqD K x y H Q
def rNeU (K : PySem.W.Frag) : R2 := fun x y H Q => rNe x y H Q ∨ rNeD K x y H Q
theorem opEq {X : Cx} (hu : X.A.units + 64 < cLine) : OpR X (compareOp .Eq) (rEqU X.K) := op_eq.or (op_eqD hu)
theorem opNe {X : Cx} (hu : X.A.units + 64 < cLine) : OpR X (compareOp .NotEq) (rNeU X.K) := op_ne.or (op_neD hu)
theorem i_eqI (h : Q (.bl (decide (i = j))) H) : rEqU K (.int i) (.int j) H Q := .inl ⟨rfl, by rw [show decide (V.int i = V.int j) = decide (i = j) from decide_eq_decide.mpr ⟨fun e => V.int.inj e, fun e => e ▸ rfl⟩]; exact h⟩
theorem i_neI (h : Q (.bl (!decide (i = j))) H) : rNeU K (.int i) (.int j) H Q := .inl ⟨rfl, by rw [show decide (V.int i = V.int j) = decide (i = j) from decide_eq_decide.mpr ⟨fun e => V.int.inj e, fun e => e ▸ rfl⟩]; exact h⟩
theorem i_eqS (h : Q (.bl (decide (a = b))) H) : rEqU K (.str a) (.str b) H Q := .inl ⟨rfl, by rw [show decide (V.str a = V.str b) = decide (a = b) from decide_eq_decide.mpr ⟨fun e => V.str.inj e, fun e => e ▸ rfl⟩]; exact h⟩
theorem i_neS (h : Q (.bl (!decide (a = b))) H) : rNeU K (.str a) (.str b) H Q := .inl ⟨rfl, by rw [show decide (V.str a = V.str b) = decide (a = b) from decide_eq_decide.mpr ⟨fun e => V.str.inj e, fun e => e ▸ rfl⟩]; exact h⟩
/-! deep data -/
/-- ints, texts, truths, none, lists and tuples of such; the model's own == is that of D here -/
inductive D where
  | non | bl (b : Bool) | int (i : Int) | str (x : Str) | lst (l : List D) | tup (l : List D)
mutual
def D.py : D → PyData
  | .non => .none
  | .bl b => .bool b
  | .int i => .int i
  | .str x => .str x
  | .lst l => .list (D.pys l)
  | .tup l => .tuple (D.pys l)
def D.pys : List D → List PyData
  | [] => []
  | d :: l => d.py :: D.pys l
end
end
/-- v is the data d, in the heap H -/
abbrev Is (K : PySem.W.Frag) (H : Hp) (v : V) (d : D) : Prop := Dp K H v d.py
abbrev Iss (K : PySem.W.Frag) (H : Hp) (vs : List V) (ds : List D) : Prop := DpAll K H vs (D.pys ds)
mutual
theorem dp_same {K : PySem.W.Frag} {H H' : Hp} (s : Same H H') : ∀ {v : V} {d : PyData}, Dp K H v d → Dp K H' v d
  | _, _, .non => .non
  | _, _, .bl b => .bl b
  | _, _, .int i => .int i
  | _, _, .str x => .str x
  | _, _, .lst h a => .lst (s.seq h) (dpa_same s a)
  | _, _, .tup h a => .tup (by
      rcases h with (h | ⟨o, h⟩) | h
      · exact .inl (.inl (s _ _ h))
      · exact .inl (.inr ⟨o, s _ _ h⟩)
      · exact .inr h) (dpa_same s a)
theorem dpa_same {K : PySem.W.Frag} {H H' : Hp} (s : Same H H') : ∀ {v : List V} {d : List PyData}, DpAll K H v d → DpAll K H' v d
  | _, _, .nil => .nil
  | _, _, .cons h a => .cons (dp_same s h) (dpa_same s a)
end
section
variable {K : PySem.W.Frag} {H H' : Hp} {Q : VK} {i j : Int} {a b : Str} {p q : Addr} {xs ys : List V} {v x y : V} {d e : PyData} {ds : List PyData}
theorem dp_ints (ns : List Int) : DpAll K H (ns.map V.int) (ns.map PyData.int) := by
  induction ns with
  | nil => exact .nil
  | cons n r ih => exact .cons (.int n) ih
theorem dp_lints {ns : List Int} (h : H p = some (.lst (ns.map V.int))) : Dp K H (.ref p) (.list (ns.map PyData.int)) := .lst (SqL.of h) (dp_ints ns)
theorem dp_lst (h : H p = some (.lst xs)) (hd : DpAll K H xs ds) : Dp K H (.ref p) (.list ds) := .lst (SqL.of h) hd
theorem dp_tup (h : H p = some (.tup xs)) (hd : DpAll K H xs ds) : Dp K H (.ref p) (.tuple ds) := .tup (SqT.of h) hd
theorem i_eqD (h1 : Dp K H x d) (h2 : Dp K H y e) (s1 : SeqAt.shaped d = true) (s2 : SeqAt.shaped e = true) (h : Q (.bl (PyData.eqv d e)) H) : rEqU K x y H Q := .inr ⟨d, e, h1, h2, s1, s2, h⟩
theorem i_neD (h1 : Dp K H x d) (h2 : Dp K H y e) (s1 : SeqAt.shaped d = true) (s2 : SeqAt.shaped e = true) (h : Q (.bl (!PyData.eqv d e)) H) : rNeU K x y H Q := .inr ⟨d, e, h1, h2, s1, s2, h⟩

/-! ### subscripts, slices -/
theorem ixU {X : Cx} : IxR X (rIx X.K) := ix_seq
theorem i_ixL (h : H p = some (.lst xs)) (e : atI xs i = some v) (q : Q v H) : rIx K (.ref p) (.int i) H Q := .inl ⟨p, xs, i, v, rfl, rfl, SqL.of h, e, q⟩
theorem i_ixQ (h : SqL K H p xs) (e : atI xs i = some v) (q : Q v H) : rIx K (.ref p) (.int i) H Q := .inl ⟨p, xs, i, v, rfl, rfl, h, e, q⟩
theorem i_ixT (h : H p = some (.tup xs)) (e : atI xs i = some v) (q : Q v H) : rIx K (.ref p) (.int i) H Q := .inr (.inl ⟨p, xs, i, v, rfl, rfl, SqT.of h, e, q⟩)
theorem i_ixS {c : Nat} (h : a.length ≤ sizeLine) (e : atI a.cps.toList i = some c) (q : Q (.str ⟨#[c]⟩) H) : rIx K (.str a) (.int i) H Q := .inr (.inr ⟨a, i, c, rfl, rfl, h, e, q⟩)
def rGetL (K : PySem.W.Frag) : V → V → Hp → VK → Prop := fun x y H Q => ∃ p xs i v, x = .ref p ∧ y = .int i ∧ SqL K H p xs ∧ 0 ≤ i ∧ i < 2 ^ 62 ∧ xs[i.toNat]? = some v ∧ Q v H
theorem getL {X : Cx} : PGet X (rGetL X.K) := by
  intro pins s σ H o i ov iv Q I r1 r2 h
  obtain ⟨p, xs, k, v, rfl, rfl, hq, h0, h1, e, q⟩ := h
  cases r1
  obtain ⟨t, rfl⟩ := r2
  obtain ⟨its, r, pl, hz⟩ := I.list hq
  obtain ⟨u, eu, ru⟩ := r.get e
  exact wpAny_getItem_list pl.isList h0 (by omega) (by simpa using eu) ⟨v, H, I, ru, q⟩
theorem i_getL (h : H p = some (.lst xs)) (h0 : 0 ≤ i) (h1 : i < 2 ^ 62) (e : xs[i.toNat]? = some v) (q : Q v H) : rGetL K (.ref p) (.int i) H Q := ⟨p, xs, i, v, rfl, rfl, SqL.of h, h0, h1, e, q⟩
def rSlU (K : PySem.W.Frag) : V → Option Int → Option Int → Hp → VK → Prop := fun x lo hi H Q => rSlL K x lo hi H Q ∨ rSlA K x lo hi H Q
theorem slU {X : Cx} : SlR X (rSlU X.K) := sl_list.or sl_tupA
theorem i_slL {lo hi : Option Int} (h : H p = some (.lst xs)) (k : ∀ r H', New H r (.lst (cutV xs lo hi)) H' → Q (.ref r) H') : rSlU K (.ref p) lo hi H Q := .inl ⟨p, xs, rfl, SqL.of h, fun r f => k r _ ⟨f, rfl⟩⟩
theorem i_slQ {lo hi : Option Int} (h : SqL K H p xs) (k : ∀ r H', New H r (.lst (cutV xs lo hi)) H' → Q (.ref r) H') : rSlU K (.ref p) lo hi H Q := .inl ⟨p, xs, rfl, h, fun r f => k r _ ⟨f, rfl⟩⟩
theorem i_sl {r : V → Option Int → Option Int → Hp → VK → Prop} {te : TE} {tl th : TO} {σ : L2.St} (h : te σ H fun x H1 => tl σ H1 fun l H2 => th σ H2 fun u H3 => r x l u H3 Q) : tSl r te tl th σ H Q := h
theorem i_nopart {σ : L2.St} {QO : Option Int → Hp → Prop} (h : QO none H) : tNoPart σ H QO := h
theorem i_part {te : TE} {σ : L2.St} {QO : Option Int → Hp → Prop} (h : te σ H fun x H1 => ∃ i, x = .int i ∧ QO (some i) H1) : tPart te σ H QO := h
theorem i_partI {G : Int → Prop} (h : G i) : ∃ k, V.int i = .int k ∧ G k := ⟨i, rfl, h⟩
theorem i_setL {j : Nat} {QH : Hp → Prop} (h : H p = some (.lst xs)) (e : ixN xs.length i = some j) (k : ∀ H', Up H p (.lst (xs.set j v)) H' → QH H') : rSetL (.ref p) (.int i) v H QH :=
  ⟨p, xs, i, j, rfl, rfl, h, e, k _ ⟨⟨_, h⟩, rfl⟩⟩

/-! ### built-in functions -/
def rLenU (K : PySem.W.Frag) : List V → Hp → VK → Prop := fun xs H Q => ∃ x n, xs = [x] ∧ LenV K x H n ∧ Q (.int n) H
theorem clen {X : Cx} : CallR X (.builtin "len") (rLenU X.K) := call_len
theorem i_lenL (h : H p = some (.lst xs)) (q : Q (.int (xs.length : Nat)) H) : rLenU K [V.ref p] H Q := ⟨_, _, rfl, .inl ⟨xs, SqL.of h, rfl⟩, q⟩
theorem i_lenQ (h : SqL K H p xs) (q : Q (.int (xs.length : Nat)) H) : rLenU K [V.ref p] H Q := ⟨_, _, rfl, .inl ⟨xs, h, rfl⟩, q⟩
theorem i_lenT (h : H p = some (.tup xs)) (q : Q (.int (xs.length : Nat)) H) : rLenU K [V.ref p] H Q := ⟨_, _, rfl, .inr ⟨xs, SqT.of h, rfl⟩, q⟩
def rMax2 : List V → Hp → VK → Prop := fun xs H Q => ∃ i j, xs = [.int i, .int j] ∧ Q (.int (if j > i then j else i)) H
def rMin2 : List V → Hp → VK → Prop := fun xs H Q => ∃ i j, xs = [.int i, .int j] ∧ Q (.int (if j < i then j else i)) H
theorem cmax2 {X : Cx} (hc : X.calm = true) : CallR X (.builtin "max") rMax2 := call_max2 hc
theorem cmin2 {X : Cx} (hc : X.calm = true) : CallR X (.builtin "min") rMin2 := call_min2 hc
theorem i_max2 (q : Q (.int (max i j)) H) : rMax2 [V.int i, V.int j] H Q := ⟨i, j, rfl, by rw [show (if j > i then j else i) = max i j by omega]; exact q⟩
theorem i_min2 (q : Q (.int (min i j)) H) : rMin2 [V.int i, V.int j] H Q := ⟨i, j, rfl, by rw [show (if j < i then j else i) = min i j by omega]; exact q⟩
def rDivmod : List V → Hp → VK → Prop := fun xs H Q => ∃ i j, xs = [.int i, .int j] ∧ CDivP i j ∧ ∀ p, H p = none → Q (.ref p) (upd H p (.tup [.int (i / j), .int (i % j)]))
theorem cdivmod {X : Cx} : CallR X (.builtin "divmod") rDivmod := call_divmodW
theorem divP {i j : Int} {b : Nat} (h : 0 < j) (hb : j.natAbs < 2 ^ b) (h0 : 0 < b) (h9 : b ≤ 9000) : CDivP i j := ⟨h, PyProof.noPylong_of_log2 (Nat.lt_of_lt_of_le (PySem.Flt.log2_lt_of h0 hb) h9)⟩
theorem i_divmod (c : CDivP i j) (k : ∀ r H', New H r (.tup [.int (i / j), .int (i % j)]) H' → Q (.ref r) H') : rDivmod [V.int i, V.int j] H Q := ⟨i, j, rfl, c, fun r f => k r _ ⟨f, rfl⟩⟩
def rListU (K : PySem.W.Frag) : List V → Hp → VK → Prop := fun xs H Q => ∃ p ys, xs = [.ref p] ∧ (SqL K H p ys ∨ SqT K H p ys) ∧ ∀ l, H l = none → Q (.ref l) (upd H l (.lst ys))
theorem clist {X : Cx} : CallR X (.type "list") (rListU X.K) := call_list_of
theorem i_listL (h : H p = some (.lst xs)) (k : ∀ r H', New H r (.lst xs) H' → Q (.ref r) H') : rListU K [V.ref p] H Q := ⟨p, xs, rfl, .inl (SqL.of h), fun r f => k r _ ⟨f, rfl⟩⟩
theorem i_listT (h : H p = some (.tup xs)) (k : ∀ r H', New H r (.lst xs) H' → Q (.ref r) H') : rListU K [V.ref p] H Q := ⟨p, xs, rfl, .inr (SqT.of h), fun r f => k r _ ⟨f, rfl⟩⟩
def rTupU (K : PySem.W.Frag) : List V → Hp → VK → Prop := fun xs H Q => ∃ p ys, xs = [.ref p] ∧ ((SqL K H p ys ∧ ∀ l, H l = none → Q (.ref l) (upd H l (.tup ys))) ∨ (SqT K H p ys ∧ Q (.ref p) H))
theorem ctuple {X : Cx} : CallR X (.type "tuple") (rTupU X.K) := call_tuple_of
theorem i_tupleL (h : H p = some (.lst xs)) (k : ∀ r H', New H r (.tup xs) H' → Q (.ref r) H') : rTupU K [V.ref p] H Q := ⟨p, xs, rfl, .inl ⟨SqL.of h, fun r f => k r _ ⟨f, rfl⟩⟩⟩
def rInt1 : List V → Hp → VK → Prop := fun xs H Q => (∃ i, xs = [.int i] ∧ Q (.int i) H) ∨ ∃ k, xs = [.bl k] ∧ Q (.int (if k then 1 else 0)) H
theorem cint {X : Cx} : CallR X (.type "int") rInt1 := call_int1
theorem i_intI (q : Q (.int i) H) : rInt1 [V.int i] H Q := .inl ⟨i, rfl, q⟩
theorem i_intB {k : Bool} (q : Q (.int (if k then 1 else 0)) H) : rInt1 [V.bl k] H Q := .inr ⟨k, rfl, q⟩
def rAbs : List V → Hp → VK → Prop := fun xs H Q => ∃ i, xs = [.int i] ∧ Q (.int (if i < 0 then -i else i)) H
theorem cabs {X : Cx} : CallR X (.builtin "abs") rAbs := call_abs
theorem i_abs (q : Q (.int (if i < 0 then -i else i)) H) : rAbs [V.int i] H Q := ⟨i, rfl, q⟩
theorem i_sum {ns : List Int} (h : H p = some (.lst (ns.map V.int))) (q : Q (.int ns.sum) H) : rSum K [.ref p] H Q := ⟨p, ns, rfl, SqL.of h, q⟩
theorem i_all {bs : List Bool} (h : H p = some (.lst (bs.map V.bl))) (q : Q (.bl (bs.all id)) H) : rAll K [.ref p] H Q := ⟨p, bs, rfl, SqL.of h, q⟩
theorem i_any {bs : List Bool} (h : H p = some (.lst (bs.map V.bl))) (q : Q (.bl (bs.any id)) H) : rAny K [.ref p] H Q := ⟨p, bs, rfl, SqL.of h, q⟩
/-! ### list methods -/
theorem i_bm {T : String} {r : V → List V → Hp → VK → Prop} {to : TE} {t : TA} {σ : L2.St} (h : to σ H fun x H1 => tyV K T x H1 ∧ t σ H1 fun xs H2 => r x xs H2 Q) : tBM K T r to t σ H Q := h
theorem i_bm0 {T : String} {r : V → List V → Hp → VK → Prop} {to : TE} {σ : L2.St} (h : to σ H fun x H1 => tyV K T x H1 ∧ r x [] H1 Q) : tBM0 K T r to σ H Q := h
theorem i_tyL {G : Prop} (h : H p = some (.lst xs)) (g : G) : tyV K "list" (.ref p) H ∧ G := ⟨.inl ⟨rfl, _, SqL.of h⟩, g⟩
theorem i_append (h : H p = some (.lst xs)) (z : xs.length < sizeLine) (k : ∀ H', Up H p (.lst (xs ++ [v])) H' → Q .non H') : rAppend (.ref p) [v] H Q := ⟨p, xs, v, rfl, rfl, h, z, k _ ⟨⟨_, h⟩, rfl⟩⟩
theorem i_extend (h : H p = some (.lst xs)) (h2 : H q = some (.lst ys)) (z : xs.length + ys.length ≤ sizeLine) (k : ∀ H', Up H p (.lst (xs ++ ys)) H' → Q .non H') : rExtend (.ref p) [.ref q] H Q := ⟨p, q, xs, ys, rfl, rfl, h, h2, z, k _ ⟨⟨_, h⟩, rfl⟩⟩
theorem i_reverse (h : H p = some (.lst xs)) (k : ∀ H', Up H p (.lst xs.reverse) H' → Q .non H') : rReverse (.ref p) [] H Q := ⟨p, xs, rfl, rfl, h, k _ ⟨⟨_, h⟩, rfl⟩⟩
theorem i_clear (h : H p = some (.lst xs)) (k : ∀ H', Up H p (.lst []) H' → Q .non H') : rClear (.ref p) [] H Q := ⟨p, xs, rfl, rfl, h, k _ ⟨⟨_, h⟩, rfl⟩⟩
end

/-! ### branches -/
theorem ite2' {p A B : Prop} [Decidable p] (h1 : p → A) (h2 : ¬ p → B) : if decide p = true then A else B := by
  by_cases h : p
  · rw [if_pos (decide_eq_true h)]; exact h1 h
  · rw [if_neg (by rw [decide_eq_false h]; exact Bool.false_ne_true)]; exact h2 h
theorem iten' {p A B : Prop} [Decidable p] (h1 : ¬ p → A) (h2 : p → B) : if (!decide p) = true then A else B := by
  by_cases h : p
  · rw [decide_eq_true h]; rw [if_neg (by decide)]; exact h2 h
  · rw [decide_eq_false h]; rw [if_pos (by decide)]; exact h1 h
theorem itT {p A B : Prop} [Decidable p] (h : p) (a : A) : if decide p = true then A else B := ite2' (fun _ => a) fun z => absurd h z
theorem itF {p A B : Prop} [Decidable p] (h : ¬ p) (b : B) : if decide p = true then A else B := ite2' (fun z => absurd z h) fun _ => b
theorem itnT {p A B : Prop} [Decidable p] (h : ¬ p) (a : A) : if (!decide p) = true then A else B := iten' (fun _ => a) fun z => absurd z h
theorem itnF {p A B : Prop} [Decidable p] (h : p) (b : B) : if (!decide p) = true then A else B := iten' (fun z => absurd h z) fun _ => b

/-! ### loops -/
section
variable {K : PySem.W.Frag} {H : Hp} {a : Addr} {xs : List V} {g : TG} {tb : TZ} {nx bk ct : L2.St → Hp → Prop} {rt : VK} {σ : L2.St} {R : It → Hp → Prop} {n : Nat} {lo : Int}
/-- a loop of n turns by its invariant -/
theorem loop_by {J : It} (n : Nat) (Pv : Nat → L2.St → Hp → Prop) (h0 : Pv 0 σ H) (hgo : ∀ i σ H, i < n → Pv i σ H → J.go i H) (hst : ∀ σ H, Pv n σ H → J.stop n H)
    (hs : ∀ i x σ H H', i < n → Pv i σ H → J.yld i H x H' → g x σ H' fun σ2 H2 => tb (Pv (i + 1)) rt nx (Pv (i + 1)) σ2 H2) (hd : ∀ σ H, Pv n σ H → nx σ H) : zLoop J g tb nx rt σ H := by
  refine ⟨fun i m σ H => m = n - i ∧ i ≤ n ∧ Pv i σ H, ⟨n, rfl, Nat.zero_le _, h0⟩, ?_⟩
  rintro i m σ H ⟨rfl, hi, p⟩
  by_cases hlt : i < n
  · exact .inr ⟨hgo i σ H hlt p, Pv (i + 1), fun σ' H' p' => ⟨n - (i + 1), by omega, rfl, hlt, p'⟩, fun x H' y => hs i x σ H H' hlt p y⟩
  · have e : i = n := by omega
    subst e
    exact .inl ⟨hst σ H p, hd σ H p⟩
theorem loop_list (Pv : Nat → L2.St → Hp → Prop) (h0 : Pv 0 σ H) (hl : ∀ i σ H, i ≤ xs.length → Pv i σ H → SqL K H a xs)
    (hs : ∀ i x σ H, xs[i]? = some x → Pv i σ H → g x σ H fun σ2 H2 => tb (Pv (i + 1)) rt nx (Pv (i + 1)) σ2 H2) (hd : ∀ σ H, Pv xs.length σ H → nx σ H) : zLoop (Itl K a) g tb nx rt σ H := by
  refine loop_by xs.length Pv h0 (fun i σ H hi p => ⟨xs, xs[i], hl i σ H (Nat.le_of_lt hi) p, by simp [hi]⟩) (fun σ H p => ⟨xs, hl _ σ H (Nat.le_refl _) p, Nat.le_refl _⟩) (fun i x σ H H' hi p y => ?_) hd
  obtain ⟨e, y⟩ := y
  subst e
  exact hs i x σ _ (y xs (hl i σ _ (Nat.le_of_lt hi) p)) p
theorem loop_tup (Pv : Nat → L2.St → Hp → Prop) (h0 : Pv 0 σ H) (hl : ∀ i σ H, i ≤ xs.length → Pv i σ H → SqT K H a xs)
    (hs : ∀ i x σ H, xs[i]? = some x → Pv i σ H → g x σ H fun σ2 H2 => tb (Pv (i + 1)) rt nx (Pv (i + 1)) σ2 H2) (hd : ∀ σ H, Pv xs.length σ H → nx σ H) : zLoop (Itt K a) g tb nx rt σ H := by
  refine loop_by xs.length Pv h0 (fun i σ H hi p => ⟨xs, xs[i], hl i σ H (Nat.le_of_lt hi) p, by simp [hi]⟩) (fun σ H p => ⟨xs, hl _ σ H (Nat.le_refl _) p, Nat.le_refl _⟩) (fun i x σ H H' hi p y => ?_) hd
  obtain ⟨e, y⟩ := y
  subst e
  exact hs i x σ _ (y xs (hl i σ _ (Nat.le_of_lt hi) p)) p
theorem loop_range (Pv : Nat → L2.St → Hp → Prop) (h0 : Pv 0 σ H) (hs : ∀ i σ H, i < n → Pv i σ H → g (.int (lo + (i : Nat))) σ H fun σ2 H2 => tb (Pv (i + 1)) rt nx (Pv (i + 1)) σ2 H2) (hd : ∀ σ H, Pv n σ H → nx σ H) :
    zLoop (Itr lo n) g tb nx rt σ H := by
  refine loop_by n Pv h0 (fun i σ H hi p => hi) (fun σ H p => Nat.le_refl _) (fun i x σ H H' hi p y => ?_) hd
  obtain ⟨e, y⟩ := y
  subst e y
  exact hs i σ _ hi p
def zItL (K : PySem.W.Frag) (x : V) (H1 : Hp) (R : It → Hp → Prop) : Prop := ∃ a, x = .ref a ∧ (∃ xs, SqL K H1 a xs) ∧ R (Itl K a) H1
def zItT (K : PySem.W.Frag) (x : V) (H1 : Hp) (R : It → Hp → Prop) : Prop := ∃ a, x = .ref a ∧ (∃ xs, SqT K H1 a xs) ∧ R (Itt K a) H1
theorem i_iList {tl : TE} (h : tl σ H fun x H1 => zItL K x H1 R) : iList K tl σ H R := h
theorem i_iTup {tl : TE} (h : tl σ H fun x H1 => zItT K x H1 R) : iTup K tl σ H R := h
theorem i_itL (h : H a = some (.lst xs)) (q : R (Itl K a) H) : zItL K (.ref a) H R := ⟨a, rfl, ⟨xs, SqL.of h⟩, q⟩
theorem i_itQ (h : SqL K H a xs) (q : R (Itl K a) H) : zItL K (.ref a) H R := ⟨a, rfl, ⟨xs, h⟩, q⟩
theorem i_itT (h : H a = some (.tup xs)) (q : R (Itt K a) H) : zItT K (.ref a) H R := ⟨a, rfl, ⟨xs, SqT.of h⟩, q⟩
def zR1 (vs : List V) (H1 : Hp) (R : It → Hp → Prop) : Prop := ∃ j : Int, vs = [.int j] ∧ -(2 ^ 62) ≤ j ∧ j < 2 ^ 62 ∧ R (Itr 0 j.toNat) H1
def zR2 (vs : List V) (H1 : Hp) (R : It → Hp → Prop) : Prop := ∃ i j : Int, vs = [.int i, .int j] ∧ (-(2 ^ 62) ≤ i ∧ i < 2 ^ 62 ∧ -(2 ^ 62) ≤ j ∧ j < 2 ^ 62) ∧ R (Itr i (j - i).toNat) H1
theorem i_rng1 {ta : TA} (h : ta σ H fun vs H1 => zR1 vs H1 R) : iRng1 ta σ H R := h
theorem i_rng1I {j : Int} (h1 : -(2 ^ 62) ≤ j) (h2 : j < 2 ^ 62) (q : R (Itr 0 j.toNat) H) : zR1 [V.int j] H R := ⟨j, rfl, h1, h2, q⟩
theorem i_rng1N {n : Nat} (h : n ≤ 1000000) (q : R (Itr 0 n) H) : zR1 [V.int (n : Nat)] H R := ⟨n, rfl, by omega, by omega, q⟩
theorem i_rng2 {ta : TA} (h : ta σ H fun vs H1 => zR2 vs H1 R) : iRng2 ta σ H R := h
theorem i_rng2I {i j : Int} (h : -(2 ^ 62) ≤ i ∧ i < 2 ^ 62 ∧ -(2 ^ 62) ≤ j ∧ j < 2 ^ 62) (q : R (Itr i (j - i).toNat) H) : zR2 [V.int i, V.int j] H R := ⟨i, j, rfl, h, q⟩
def zEn (K : PySem.W.Frag) (vs : List V) (H1 : Hp) (R : It → Hp → Prop) : Prop := ∃ a xs, vs = [.ref a] ∧ SqL K H1 a xs ∧ R (Ite K a) H1
theorem i_enum {ta : TA} (h : ta σ H fun vs H1 => zEn K vs H1 R) : iEnum K ta σ H R := h
theorem i_enumL (h : SqL K H a xs) (q : R (Ite K a) H) : zEn K [V.ref a] H R := ⟨a, xs, rfl, h, q⟩
def zZi (K : PySem.W.Frag) (vs : List V) (H1 : Hp) (R : It → Hp → Prop) : Prop := ∃ a b xs ys, vs = [.ref a, .ref b] ∧ SqL K H1 a xs ∧ SqL K H1 b ys ∧ R (Itz K a b) H1
theorem i_zip {ta : TA} (h : ta σ H fun vs H1 => zZi K vs H1 R) : iZip K ta σ H R := h
theorem i_zipL {b : Addr} {ys : List V} (h : SqL K H a xs) (h2 : SqL K H b ys) (q : R (Itz K a b) H) : zZi K [V.ref a, V.ref b] H R := ⟨a, b, xs, ys, rfl, h, h2, q⟩
/-- while, by an invariant and a measure -/
theorem i_while {c : TT} (Pv : L2.St → Hp → Prop) (μ : L2.St → Hp → Nat) (h0 : Pv σ H)
    (hs : ∀ σ H, Pv σ H → c σ H fun b H1 => if b = true then zBody (fun m σ H => m = μ σ H ∧ Pv σ H) (μ σ H) tb nx rt σ H1 else nx σ H1) : zWhile c tb nx rt bk ct σ H := by
  refine ⟨fun m σ H => m = μ σ H ∧ Pv σ H, ⟨_, rfl, h0⟩, ?_⟩
  rintro m σ H ⟨rfl, p⟩
  exact hs σ H p
theorem i_body {Pv : L2.St → Hp → Prop} {μ : L2.St → Hp → Nat} {m : Nat} (h : tb (fun σ' H' => Pv σ' H' ∧ μ σ' H' < m) rt nx (fun σ' H' => Pv σ' H' ∧ μ σ' H' < m) σ H) : zBody (fun m σ H => m = μ σ H ∧ Pv σ H) m tb nx rt σ H :=
  ⟨_, fun σ' H' z => ⟨_, z.2, rfl, z.1⟩, h⟩
end

/-! ### comprehensions -/
section
variable {K : PySem.W.Frag} {H : Hp} {a : Addr} {xs : List V} {g : TG} {tt : TT} {te : TE} {vs : List Nat} {σ : L2.St} {Q : VK} {n : Nat} {lo : Int} {wi : TI}
/-- behind the iterator -/
def zComp (J : It) (g : TG) (tt : TT) (te : TE) (vs : List Nat) (σ : L2.St) (H1 : Hp) (Q : VK) : Prop := ∀ D, H1 D = none → ∃ W : Nat → Nat → Hp → Prop, (∃ m, W 0 m (upd H1 D (.lst []))) ∧ ∀ i m H, W i m H →
  (J.stop i H ∧ Q (.ref D) H) ∨ (J.go i H ∧ ∃ Nx : Hp → Prop, (∀ H', Nx H' → ∃ m', m' < m ∧ W (i + 1) m' H') ∧ ∀ x H', J.yld i H x H' → g x (wipe σ vs) H' fun σ2 H2 => wipe σ2 vs = wipe σ vs ∧ tt σ2 H2 fun b H3 =>
    if b = true then te σ2 H3 fun y H4 => ∃ acc, H4 D = some (.lst acc) ∧ acc.length < sizeLine ∧ Nx (upd H4 D (.lst (acc ++ [y]))) else Nx H3)
theorem i_lc (h : wi σ H fun J H1 => zComp J g tt te vs σ H1 Q) : tLc wi g tt te vs σ H Q := h
/-- what an element's end asks; what a left out one's does -/
def zEnd (D : Addr) (G : List V → Hp → Prop) (y : V) (H4 : Hp) : Prop := ∃ ac, H4 D = some (.lst ac) ∧ ac.length < sizeLine ∧ ∃ a2, upd H4 D (.lst (ac ++ [y])) D = some (.lst a2) ∧ G a2 (upd H4 D (.lst (ac ++ [y])))
def zSkip (D : Addr) (G : List V → Hp → Prop) (H4 : Hp) : Prop := ∃ a2, H4 D = some (.lst a2) ∧ G a2 H4
theorem i_end {D : Addr} {G : List V → Hp → Prop} {acc : List V} {y : V} {H4 : Hp} (h : H4 D = some (.lst acc)) (z : acc.length < sizeLine) (k : ∀ H6, Up H4 D (.lst (acc ++ [y])) H6 → G (acc ++ [y]) H6) : zEnd D G y H4 :=
  ⟨acc, h, z, acc ++ [y], upd_same, k _ ⟨⟨_, h⟩, rfl⟩⟩
theorem i_skip {D : Addr} {G : List V → Hp → Prop} {acc : List V} {H4 : Hp} (h : H4 D = some (.lst acc)) (k : G acc H4) : zSkip D G H4 := ⟨acc, h, k⟩
/-- a comprehension of n turns: G i acc H speaks of the list so far; the list's own place D is new for H -/
theorem comp_by {J : It} (n : Nat) (G : Nat → List V → Hp → Prop) (h0 : ∀ D H', New H D (.lst []) H' → G 0 [] H')
    (hgo : ∀ i acc H, i < n → G i acc H → J.go i H) (hst : ∀ acc H, G n acc H → J.stop n H)
    (hs : ∀ D i acc x H2 H', H D = none → i < n → H2 D = some (.lst acc) → G i acc H2 → J.yld i H2 x H' → g x (wipe σ vs) H' fun σ2 H3 => wipe σ2 vs = wipe σ vs ∧ tt σ2 H3 fun b H4 =>
      if b = true then te σ2 H4 fun y H5 => zEnd D (G (i + 1)) y H5 else zSkip D (G (i + 1)) H4)
    (hd : ∀ D acc H2, H D = none → H2 D = some (.lst acc) → G n acc H2 → Q (.ref D) H2) : zComp J g tt te vs σ H Q := by
  intro D fD
  refine ⟨fun i m H2 => m = n - i ∧ i ≤ n ∧ ∃ acc, H2 D = some (.lst acc) ∧ G i acc H2, ⟨n, rfl, Nat.zero_le _, [], upd_same, h0 D _ ⟨fD, rfl⟩⟩, ?_⟩
  rintro i m H2 ⟨rfl, hi, acc, hD, p⟩
  by_cases hlt : i < n
  · exact .inr ⟨hgo i acc H2 hlt p, fun H6 => ∃ acc, H6 D = some (.lst acc) ∧ G (i + 1) acc H6, fun H' p' => ⟨n - (i + 1), by omega, rfl, hlt, p'⟩, fun x H' y => hs D i acc x H2 H' fD hlt hD p y⟩
  · have e : i = n := by omega
    subst e
    exact .inl ⟨hst acc H2 p, hd D acc H2 fD hD p⟩
/-- over a list -/
theorem comp_list (G : Nat → List V → Hp → Prop) (h0 : ∀ D H', New H D (.lst []) H' → G 0 [] H') (hl : ∀ i acc H, i ≤ xs.length → G i acc H → SqL K H a xs)
    (hs : ∀ D i acc x H2, H D = none → xs[i]? = some x → H2 D = some (.lst acc) → G i acc H2 → g x (wipe σ vs) H2 fun σ2 H3 => wipe σ2 vs = wipe σ vs ∧ tt σ2 H3 fun b H4 =>
      if b = true then te σ2 H4 fun y H5 => zEnd D (G (i + 1)) y H5 else zSkip D (G (i + 1)) H4)
    (hd : ∀ D acc H2, H D = none → H2 D = some (.lst acc) → G xs.length acc H2 → Q (.ref D) H2) : zComp (Itl K a) g tt te vs σ H Q := by
  refine comp_by xs.length G h0 (fun i acc H hi p => ⟨xs, xs[i], hl i acc H (Nat.le_of_lt hi) p, by simp [hi]⟩) (fun acc H p => ⟨xs, hl _ acc H (Nat.le_refl _) p, Nat.le_refl _⟩) (fun D i acc x H2 H' fD hi hD p y => ?_) hd
  obtain ⟨e, y⟩ := y
  subst e
  exact hs D i acc x _ fD (y xs (hl i acc _ (Nat.le_of_lt hi) p)) hD p
theorem comp_tup (G : Nat → List V → Hp → Prop) (h0 : ∀ D H', New H D (.lst []) H' → G 0 [] H') (hl : ∀ i acc H, i ≤ xs.length → G i acc H → SqT K H a xs)
    (hs : ∀ D i acc x H2, H D = none → xs[i]? = some x → H2 D = some (.lst acc) → G i acc H2 → g x (wipe σ vs) H2 fun σ2 H3 => wipe σ2 vs = wipe σ vs ∧ tt σ2 H3 fun b H4 =>
      if b = true then te σ2 H4 fun y H5 => zEnd D (G (i + 1)) y H5 else zSkip D (G (i + 1)) H4)
    (hd : ∀ D acc H2, H D = none → H2 D = some (.lst acc) → G xs.length acc H2 → Q (.ref D) H2) : zComp (Itt K a) g tt te vs σ H Q := by
  refine comp_by xs.length G h0 (fun i acc H hi p => ⟨xs, xs[i], hl i acc H (Nat.le_of_lt hi) p, by simp [hi]⟩) (fun acc H p => ⟨xs, hl _ acc H (Nat.le_refl _) p, Nat.le_refl _⟩) (fun D i acc x H2 H' fD hi hD p y => ?_) hd
  obtain ⟨e, y⟩ := y
  subst e
  exact hs D i acc x _ fD (y xs (hl i acc _ (Nat.le_of_lt hi) p)) hD p
theorem comp_range (G : Nat → List V → Hp → Prop) (h0 : ∀ D H', New H D (.lst []) H' → G 0 [] H')
    (hs : ∀ D i acc H2, H D = none → i < n → H2 D = some (.lst acc) → G i acc H2 → g (.int (lo + (i : Nat))) (wipe σ vs) H2 fun σ2 H3 => wipe σ2 vs = wipe σ vs ∧ tt σ2 H3 fun b H4 =>
      if b = true then te σ2 H4 fun y H5 => zEnd D (G (i + 1)) y H5 else zSkip D (G (i + 1)) H4)
    (hd : ∀ D acc H2, H D = none → H2 D = some (.lst acc) → G n acc H2 → Q (.ref D) H2) : zComp (Itr lo n) g tt te vs σ H Q := by
  refine comp_by n G h0 (fun i acc H hi p => hi) (fun acc H p => Nat.le_refl _) (fun D i acc x H2 H' fD hi hD p y => ?_) hd
  obtain ⟨e, y⟩ := y
  subst e y
  exact hs D i acc _ fD hi hD p
/-- over enumerate(list): each pair is a new tuple -/
theorem comp_enum (G : Nat → List V → Hp → Prop) (h0 : ∀ D H', New H D (.lst []) H' → G 0 [] H') (hl : ∀ i acc H, i ≤ xs.length → G i acc H → SqL K H a xs)
    (hs : ∀ D i acc x T H2 H2', H D = none → xs[i]? = some x → H2 D = some (.lst acc) → G i acc H2 → New H2 T (.tup [.int (i : Nat), x]) H2' → g (.ref T) (wipe σ vs) H2' fun σ2 H3 => wipe σ2 vs = wipe σ vs ∧ tt σ2 H3 fun b H4 =>
      if b = true then te σ2 H4 fun y H5 => zEnd D (G (i + 1)) y H5 else zSkip D (G (i + 1)) H4)
    (hd : ∀ D acc H2, H D = none → H2 D = some (.lst acc) → G xs.length acc H2 → Q (.ref D) H2) : zComp (Ite K a) g tt te vs σ H Q := by
  refine comp_by xs.length G h0 (fun i acc H hi p => ⟨xs, xs[i], hl i acc H (Nat.le_of_lt hi) p, by simp [hi]⟩) (fun acc H p => ⟨xs, hl _ acc H (Nat.le_refl _) p, Nat.le_refl _⟩) (fun D i acc x H2 H' fD hi hD p y => ?_) hd
  obtain ⟨T, v, rfl, fT, rfl, y⟩ := y
  exact hs D i acc v T H2 _ fD (y xs (hl i acc H2 (Nat.le_of_lt hi) p)) hD p ⟨fT, rfl⟩
/-- over zip(list, list) of one length -/
theorem comp_zip {b : Addr} {ys : List V} (he : xs.length = ys.length) (G : Nat → List V → Hp → Prop) (h0 : ∀ D H', New H D (.lst []) H' → G 0 [] H') (hl : ∀ i acc H, i ≤ xs.length → G i acc H → SqL K H a xs ∧ SqL K H b ys)
    (hs : ∀ D i acc x y T H2 H2', H D = none → xs[i]? = some x → ys[i]? = some y → H2 D = some (.lst acc) → G i acc H2 → New H2 T (.tup [x, y]) H2' → g (.ref T) (wipe σ vs) H2' fun σ2 H3 => wipe σ2 vs = wipe σ vs ∧ tt σ2 H3 fun b H4 =>
      if b = true then te σ2 H4 fun y H5 => zEnd D (G (i + 1)) y H5 else zSkip D (G (i + 1)) H4)
    (hd : ∀ D acc H2, H D = none → H2 D = some (.lst acc) → G xs.length acc H2 → Q (.ref D) H2) : zComp (Itz K a b) g tt te vs σ H Q := by
  refine comp_by xs.length G h0 (fun i acc H hi p => ⟨xs, ys, xs[i], ys[i]'(he ▸ hi), (hl i acc H (Nat.le_of_lt hi) p).1, (hl i acc H (Nat.le_of_lt hi) p).2, by simp [hi], by simp [he ▸ hi]⟩)
    (fun acc H p => ⟨xs, ys, (hl _ acc H (Nat.le_refl _) p).1, (hl _ acc H (Nat.le_refl _) p).2, .inl (Nat.le_refl _)⟩) (fun D i acc x H2 H' fD hi hD p y => ?_) hd
  obtain ⟨T, v, u, rfl, fT, rfl, y1, y2⟩ := y
  have q := hl i acc H2 (Nat.le_of_lt hi) p
  exact hs D i acc v u T H2 _ fD (y1 xs q.1) (y2 ys q.2) hD p ⟨fT, rfl⟩
theorem i_yes {Q2 : Bool → Hp → Prop} (h : Q2 true H) : tYes σ H Q2 := h
end
/-! ### the same with the fragment written (in blocks the context's own is not at hand) -/
theorem opAddK {X : Cx} (K : PySem.W.Frag) (h : X.K = K) : OpR X (binaryOp .Add) (rAdd K) := h ▸ opAdd
theorem opEqK {X : Cx} (K : PySem.W.Frag) (h : X.K = K) (hu : X.A.units + 64 < cLine) : OpR X (compareOp .Eq) (rEqU K) := h ▸ opEq hu
theorem opNeK {X : Cx} (K : PySem.W.Frag) (h : X.K = K) (hu : X.A.units + 64 < cLine) : OpR X (compareOp .NotEq) (rNeU K) := h ▸ opNe hu
theorem ixUK {X : Cx} (K : PySem.W.Frag) (h : X.K = K) : IxR X (rIx K) := h ▸ ixU
theorem getLK {X : Cx} (K : PySem.W.Frag) (h : X.K = K) : PGet X (rGetL K) := h ▸ getL
theorem slUK {X : Cx} (K : PySem.W.Frag) (h : X.K = K) : SlR X (rSlU K) := h ▸ slU
theorem clenK {X : Cx} (K : PySem.W.Frag) (h : X.K = K) : CallR X (.builtin "len") (rLenU K) := h ▸ clen
theorem clistK {X : Cx} (K : PySem.W.Frag) (h : X.K = K) : CallR X (.type "list") (rListU K) := h ▸ clist
theorem ctupleK {X : Cx} (K : PySem.W.Frag) (h : X.K = K) : CallR X (.type "tuple") (rTupU K) := h ▸ ctuple
theorem csumK {X : Cx} (K : PySem.W.Frag) (h : X.K = K) (hc : X.calm = true) : CallR X (.builtin "sum") (rSum K) := h ▸ cr_sum hc
theorem callK {X : Cx} (K : PySem.W.Frag) (h : X.K = K) (hc : X.calm = true) : CallR X (.builtin "all") (rAll K) := h ▸ cr_all hc
theorem canyK {X : Cx} (K : PySem.W.Frag) (h : X.K = K) (hc : X.calm = true) : CallR X (.builtin "any") (rAny K) := h ▸ cr_any hc
end Z

/-! Z, part four: what the head tells; the law's end. -/
namespace Z
open PySem PySem.Spec PyProof.Rows L2

/-- what the head tells of the written part -/
structure Ev (fa : List He.Fa) (fn : List He.DefD) (K : PySem.W.Frag) (mg : Str → Option Value) : Prop where
  c : He.SaysD fa fn K
  x : ∃ h : Heap, K.In h ∧ h.Ns mainGlobals mg
section
variable {fa : List He.Fa} {dl : List He.DefD} {K : PySem.W.Frag} {mg : Str → Option Value} (E : Ev fa dl K mg)
include E
theorem Ev.glo (i : Nat) {x : Str} (h : fa[i]? = some (.glo x) := by rfl) : mg x = some (.ref (He.ga K x)) := by
  obtain ⟨hp, a, b⟩ := E.x
  exact He.glo_ok a b (E.c.fact i h)
theorem Ev.free (i : Nat) {x : Str} (h : fa[i]? = some (.free x) := by rfl) : mg x = none := by
  obtain ⟨hp, a, b⟩ := E.x
  exact He.free_ok a b (E.c.fact i h)
theorem Ev.int (i : Nat) {x : Str} {z : Int} (h : fa[i]? = some (.int x z) := by rfl) : ∃ t, mg x = some (.int z t) := by
  obtain ⟨hp, a, b⟩ := E.x
  exact He.int_ok a b (E.c.fact i h)
theorem Ev.str (i : Nat) {x z : Str} (h : fa[i]? = some (.str x z) := by rfl) : ∃ t, mg x = some (.str z t) := by
  obtain ⟨hp, a, b⟩ := E.x
  exact He.str_ok a b (E.c.fact i h)
theorem Ev.cls (i : Nat) {x : Str} (h : fa[i]? = some (.cls x) := by rfl) : Cls K (He.ga K x) := He.cls_ok (E.c.fact i h)
theorem Ev.noat (i : Nat) {x f : Str} (h : fa[i]? = some (.noat x f) := by rfl) : NoAttr K (He.ga K x) f := He.noat_ok (E.c.fact i h)
theorem Ev.meth (i : Nat) {x m : Str} (h : fa[i]? = some (.meth x m) := by rfl) : Meth K (He.ga K x) m (He.ma K (He.ga K x) m) := He.meth_ok (E.c.fact i h)
theorem Ev.mkr (i : Nat) {x : Str} (h : fa[i]? = some (.mkr x) := by rfl) : L2.Mk K (He.ga K x) (He.ma K (He.ga K x) "__init__") := He.mkr_ok (E.c.fact i h)
theorem Ev.fn (i : Nat) {d : He.DefD} (h : dl[i]? = some d := by rfl) : ∃ fd, FunD K d.name d.qual d.params d.body d.scope (d.dvs K) (d.kws K) (He.fAd K d.at_) fd := E.c.def_ i h
end
theorem i_start {t : TZ} {Q : VK} {N : List Str} {vs : List V} {H : Hp} {σ : L2.St} (e : L2.start N vs = σ) (h : t (fun _ H' => Q .non H') Q (fun _ _ => False) (fun _ _ => False) σ H) :
    zS t { nx := fun _ H' => Q .non H', rt := Q } (L2.start N vs) H := e ▸ h
theorem cxK {CX : CXT} {P : Program} {w : World} {K : PySem.W.Frag} {mg : Str → Option Value} {base : Heap} {N : List Str} {qual : Str} {scope : Scope} {f : Addr} {cd : Value} {A : Around} {outer : List Env} {s : Shared} {H : Hp} {E : XK} :
    (cxOf CX P w K mg base N qual scope f cd A outer s H E).K = K := rfl
theorem pe_gint {X : Cx} {x : Str} {i : Int} {pos : Pos} (hg : Gl X x) (h : ∃ t, X.mg x = some (.int i t)) (hd : (x == ("__debug__" : Str)) = false := by decide) : PE X (.Name x pos) (tC (.int i)) := by
  obtain ⟨t, e⟩ := h
  exact pe_glob hg e ⟨t, rfl⟩ hd
theorem pe_gstr {X : Cx} {x z : Str} {pos : Pos} (hg : Gl X x) (h : ∃ t, X.mg x = some (.str z t)) (hd : (x == ("__debug__" : Str)) = false := by decide) : PE X (.Name x pos) (tC (.str z)) := by
  obtain ⟨t, e⟩ := h
  exact pe_glob hg e ⟨t, rfl⟩ hd

theorem FunD.uniq {K : PySem.W.Frag} {x qual : Str} {params : Arguments} {body : List Stmt} {scope : Scope} {dvs : List V} {kws : List (Str × V)} {f : Addr} {fd fd' : FuncData}
    (F : FunD K x qual params body scope dvs kws f fd) (F' : FunD K x qual params body scope dvs kws f fd') : fd = fd' := by
  obtain ⟨_, _, _, _, _, _, _, _, _, _, _, lk, _⟩ := F.ex
  obtain ⟨_, _, _, _, _, _, _, _, _, _, _, lk', _⟩ := F'.ex
  rw [lk] at lk'
  cases lk'
  rfl
/-! ### the law's end -/
section
variable {P : Program} {w : World} {K : PySem.W.Frag} {mg mb : Str → Option Value} {k : Nat} {fa a : Addr} {fd : FuncData} {x : Str} {sp : Sp} {s₁ : Shared} {vs : List Value} {ns : List Int}
/-- the law's call, from an abstract heap that tracks the script at most -/
theorem law_core (KX : K.In s₁.heap) (hns : s₁.heap.Ns mainGlobals mg) (hb : s₁.heap.Ns builtinsNs mb) (hbb : ∀ x : Str, x ≠ "__name__" → mb x = bootBuiltins x) (hlim : s₁.heap.NoLimit)
    (hgen : s₁.gens = #[]) (ha : s₁.heap.get? a = some { cls := .type "list", data := .seq vs.toArray }) (hr : Room k callerA)
    (F : ∀ base : Heap, K.In base → base.Ns mainGlobals mg → FnG True P w K mg base k fa fd [x] sp) (bnd : ∀ (s : Shared) (u : Value), BindsTo s fd ⟨[u], []⟩ [(x, u)])
    (H : Hp) (only : Only H) (hq : sp [.ref a] H (fun v _ => v = .bl true) fun _ _ _ => False) (hok : HOk P w H s₁.heap) (at_ : ∀ b, H b ≠ none → b = a) (nk : H a ≠ none → K.lookup a = none) :
    codeAny (model P w) callerA (.call (.ref fa) ⟨[.ref a], []⟩) (fun r s' => r = .ok (.ret (.bool true)) ∧ OldK s₁.heap s'.heap ∧ s'.os = s₁.os ∧ AllBare s'.gens) s₁ := by
  have isA : ∀ {b : Addr} {u : HO}, H b = some u → b = a := fun {b u} e => at_ b (by rw [e]; exact fun z => nomatch z)
  have hid : ∀ {b : Addr} {o : Obj}, s₁.heap.get? b = some o → H b = none → (hidT s₁.heap H).get? b = some o := fun e n => hidT_get e n
  have noDict : ∀ {b : Addr} {o : Obj} {es : Array DictEntry} {ep : Nat}, s₁.heap.get? b = some o → o.data = .dict es ep → H b = none := by
    intro b o es ep e d
    cases q : H b with
    | none => rfl
    | some u =>
      rw [isA q, ha] at e
      cases e
      exact absurd (show Data.seq vs.toArray _ = Data.dict es ep from d) (fun z => nomatch z)
  have nsK : ∀ {b : Addr} {m : Str → Option Value}, s₁.heap.Ns b m → (hidT s₁.heap H).Ns b m := fun {b m} z => by
    obtain ⟨o, es, ep, e, d, r⟩ := z
    exact ⟨o, es, ep, hid e (noDict e d), d, r⟩
  have kb : K.In (hidT s₁.heap H) := fun b o e => hid (KX b o e) (by
    cases q : H b with
    | none => rfl
    | some u =>
      have z := isA q
      subst z
      rw [nk (by rw [q]; exact fun z => nomatch z)] at e
      cases e)
  have lim : (hidT s₁.heap H).NoLimit := by
    obtain ⟨mc, h1, h2⟩ := hlim
    exact ⟨mc, nsK h1, h2⟩
  have none_in : ∀ b : Addr, b ∉ frs ([] : List Env) := fun b z => by cases (show b ∈ ([] : List Addr) from z)
  have e0 : Env0 P w K mg (hidT s₁.heap H) callerA [] s₁ H :=
    ⟨rfl, ⟨kb, nsK hns, ⟨mb, nsK hb, hbb⟩, lim⟩, fun b o e => of_hidT e, Nat.le_of_eq (hidT_size _ _), trivial, fun b z => absurd z (none_in b), hok, .of_eq hgen⟩
  refine codeAny_mono ((F _ kb (nsK hns)).run callerA [] s₁ H ⟨[.ref a], []⟩ [.ref a] [.ref a] _ _ hr (fun _ => rfl) e0 (bnd s₁ (.ref a)) (.cons rfl .nil) hq) fun r s' h => ?_
  match r, h with
  | .error e, h =>
    obtain ⟨_, _, _, _, _, _, _, _, _, _, _, _, z⟩ := (show L2.CX P w [] H s₁ (fun _ _ _ => False) e s' from h)
    exact z.elim
  | .ok .next, h => exact False.elim h
  | .ok .brk, h => exact False.elim h
  | .ok .cont, h => exact False.elim h
  | .ok (.ret u), h =>
    obtain ⟨v, H', os, bare, un, hok', r', q⟩ := h
    subst q
    obtain rfl : u = Value.bool true := r'
    refine ⟨rfl, OldK.of_keep fun b o e => ?_, os, bare⟩
    cases q : H b with
    | none => exact un.keep b o e q (none_in b) (by simp)
    | some u =>
      rcases only b with z | ⟨ob, xs, z⟩
      · rw [q] at z
        cases z
      · obtain ⟨e1, _⟩ := hok b _ z
        obtain ⟨e2, _⟩ := hok' b _ (un.frzs b ob _ z)
        rw [e] at e1
        cases e1
        exact e2
theorem law_callG (KX : K.In s₁.heap) (hns : s₁.heap.Ns mainGlobals mg) (hb : s₁.heap.Ns builtinsNs mb) (hbb : ∀ x : Str, x ≠ "__name__" → mb x = bootBuiltins x) (hlim : s₁.heap.NoLimit)
    (hgen : s₁.gens = #[]) (ha : s₁.heap.get? a = some { cls := .type "list", data := .seq vs.toArray }) (hi : IntsAre vs ns) (hl : ns.length ≤ sizeLine) (hr : Room k callerA)
    (F : ∀ base : Heap, K.In base → base.Ns mainGlobals mg → FnG True P w K mg base k fa fd [x] sp) (bnd : ∀ (s : Shared) (u : Value), BindsTo s fd ⟨[u], []⟩ [(x, u)])
    (hsp : ∀ H : Hp, Only H → SqL K H a (ns.map V.int) → sp [.ref a] H (fun v _ => v = .bl true) fun _ _ _ => False) :
    codeAny (model P w) callerA (.call (.ref fa) ⟨[.ref a], []⟩) (fun r s' => r = .ok (.ret (.bool true)) ∧ OldK s₁.heap s'.heap ∧ s'.os = s₁.os ∧ AllBare s'.gens) s₁ := by
  have rv := vals_ints hi
  have ln := hi.length
  cases hk : K.lookup a with
  | some o =>
    have e := KX a o hk
    rw [ha] at e
    cases e
    have S : SqL K (fun _ => none) a (ns.map V.int) := .inr ⟨_, vs.toArray, _, hk, rfl, rfl, rfl, by rw [List.size_toArray, ln]; exact hl, by simpa using rv⟩
    exact law_core KX hns hb hbb hlim hgen ha hr F bnd _ (fun _ => .inl rfl) (hsp _ (fun _ => .inl rfl) S) (fun b u z => nomatch (show (none : Option HO) = some u from z)) (fun b z => absurd rfl z) fun z => absurd rfl z
  | none =>
    let H : Hp := fun b => if b = a then some (.frz { cls := .type "list", data := .seq vs.toArray } (.lst (ns.map V.int))) else none
    have Ha : H a = some (.frz { cls := .type "list", data := .seq vs.toArray } (.lst (ns.map V.int))) := if_pos rfl
    have Hn : ∀ b, b ≠ a → H b = none := fun b z => if_neg z
    have only : Only H := fun b => by
      by_cases z : b = a
      · subst z
        exact .inr ⟨_, _, Ha⟩
      · exact .inl (Hn b z)
    refine law_core KX hns hb hbb hlim hgen ha hr F bnd H only (hsp H only (.inl (.inr ⟨_, Ha⟩))) (fun b u z => ?_) (fun b z => ?_) fun _ => hk
    · by_cases e : b = a
      · subst e
        rw [Ha] at z
        cases z
        exact ⟨ha, by rw [List.length_map]; exact hl, vs, _, rv, ha⟩
      · rw [Hn b e] at z
        cases z
    · by_cases e : b = a
      · exact e
      · exact absurd (Hn b e) z
end
/-- a law's row: the promise of its def for every script, with the script's bits -/
theorem walk_ofG {l : PySem.W.OpenLaw} {n k : Nat} {q : Program} {loose : List Str} {XP : (Str → Option Value) → Heap → Prop} {YP : World → Heap → Prop} {d : DefRec} {x : Str}
    (hn : l.most = some n) (hn2 : n ≤ sizeLine) (hdf : d.params.defaults = []) (hr : Room k callerA)
    (F : ∀ (w : World) (mg : Str → Option Value) (fa : Addr) (h : Heap), YP w h → h.Ns mainGlobals mg → mg d.name = some (.ref fa) →
      ∃ (K : PySem.W.Frag) (fd : FuncData) (sp : Sp), K.In h ∧ (∀ (s : Shared) (u : Value), BindsTo s fd ⟨[u], []⟩ [(x, u)]) ∧
        (∀ (H : Hp) (a : Addr) (ns : List Int), ns.length ≤ n → (∀ z ∈ ns, Builtin.Int.intBits z ≤ 1048576) → Only H → SqL K H a (ns.map V.int) → sp [.ref a] H (fun v _ => v = .bl true) fun _ _ _ => False) ∧
        ∀ base : Heap, K.In base → base.Ns mainGlobals mg → FnG True l.prog w K mg base k fa fd [x] sp) :
    PySem.W.WalkO q loose XP YP l.row.toRowW d [] (fun f vs => PySem.call f vs) := by
  refine Att.attach_callB hn hdf fun w s₀ s₁ mg mb fa o pm cd doc a vs ns G Y ho hd hcd hmg hobj hints hlen hbits hgn => ?_
  obtain ⟨K, fd, sp, KX, bnd, hsp, hF⟩ := F w mg fa _ Y G.T.g hmg
  exact law_callG KX G.T.g G.T.b G.T.builtins G.T.nolimit hgn hobj hints (Nat.le_trans hlen hn2) hr hF bnd fun H hO hS => hsp H a ns hlen hbits hO hS
end Z

/-! Z, part five: data: equality and repr. -/
namespace Z
open PySem PySem.Spec PyProof.Rows L2

/-- greater than what the laws draw -/
def big : Nat := 2 ^ 1200
/-! ### data that is fine: ints that aren't too great, texts, no dicts -/
mutual
def fine : PyData → Bool
  | .none | .bool _ => true
  | .int i => decide (i.natAbs < big)
  | .str x => PyData.canLay0 (.str x) && x.cps.toList.all fun c => decide (c < 16 ^ 8)
  | .list l | .tuple l => fines l
  | .dict _ => false
def fines : List PyData → Bool
  | [] => true
  | d :: l => fine d && fines l
end
theorem fines_iff : ∀ {l : List PyData}, fines l = true ↔ ∀ d ∈ l, fine d = true
  | [] => by simp [fines]
  | d :: l => by
    rw [fines, Bool.and_eq_true, fines_iff (l := l)]
    simp
theorem fines_ints {ns : List Int} (h : ∀ n ∈ ns, n.natAbs < big) : fines (ns.map PyData.int) = true := by
  rw [fines_iff]
  intro d hd
  obtain ⟨n, hn, rfl⟩ := List.mem_map.mp hd
  exact decide_eq_true (h n hn)
mutual
theorem fine_lay : ∀ d : PyData, fine d = true → d.canLay0 = true
  | .none, _ | .bool _, _ | .int _, _ => rfl
  | .str x, h => by
    simp only [fine, Bool.and_eq_true] at h
    exact h.1
  | .list l, h | .tuple l, h => by
    simp only [fine] at h
    simpa only [PyData.canLay0] using fines_lay l h
  | .dict _, h => by simp only [fine] at h; cases h
theorem fines_lay : ∀ l : List PyData, fines l = true → PyData.canLayAll0 l = true
  | [], _ => rfl
  | d :: l, h => by
    simp only [fines, Bool.and_eq_true] at h
    simp only [PyData.canLayAll0, Bool.and_eq_true]
    exact ⟨fine_lay d h.1, fines_lay l h.2⟩
end
theorem two_ten : big < 10 ^ 398 := by decide +kernel
mutual
theorem fine_show : ∀ d : PyData, fine d = true → d.showable = true
  | .none, _ | .bool _, _ | .str _, _ => by simp only [PyData.showable]
  | .int i, h => by
    simp only [fine, decide_eq_true_eq] at h
    simp only [PyData.showable, decide_eq_true_eq]
    exact Nat.lt_trans (PySem.Flt.log2_lt_of (k := 1200) (by decide) h) (by decide)
  | .list l, h | .tuple l, h => by
    simp only [fine] at h
    simpa only [PyData.showable] using fines_show l h
  | .dict _, h => by simp only [fine] at h; cases h
theorem fines_show : ∀ l : List PyData, fines l = true → PyData.showableAll l = true
  | [], _ => rfl
  | d :: l, h => by
    simp only [fines, Bool.and_eq_true] at h
    simp only [PyData.showableAll, Bool.and_eq_true]
    exact ⟨fine_show d h.1, fines_show l h.2⟩
end
mutual
theorem fine_dict : ∀ d : PyData, fine d = true → d.hasDict = false
  | .none, _ | .bool _, _ | .str _, _ | .int _, _ => by simp only [PyData.hasDict]
  | .list l, h | .tuple l, h => by
    simp only [fine] at h
    simpa only [PyData.hasDict] using fines_dict l h
  | .dict _, h => by simp only [fine] at h; cases h
theorem fines_dict : ∀ l : List PyData, fines l = true → PyData.hasDictAll l = false
  | [], _ => rfl
  | d :: l, h => by
    simp only [fines, Bool.and_eq_true] at h
    simp only [PyData.hasDictAll, fine_dict d h.1, fines_dict l h.2, Bool.or_false]
end
theorem int_len {i : Int} (h : i.natAbs < big) : (PyData.shown (.int i)).length ≤ 400 := by
  have e := int_text_length_le10 (k := 398) (by decide) (Nat.lt_trans h two_ten)
  show (Str.ofString (toString i)).length ≤ 400
  rw [PySem.ofString_length]
  omega
mutual
theorem fine_short : ∀ d : PyData, fine d = true → d.leavesShort 400 = true
  | .none, _ | .bool _, _ => by simp only [PyData.leavesShort]
  | .int i, h => by
    simp only [fine, decide_eq_true_eq] at h
    simp only [PyData.leavesShort, decide_eq_true_eq]
    exact int_len h
  | .str x, h => by
    simp only [fine, Bool.and_eq_true] at h
    simpa only [PyData.leavesShort] using h.2
  | .list l, h | .tuple l, h => by
    simp only [fine] at h
    simpa only [PyData.leavesShort] using fines_short l h
  | .dict _, h => by simp only [fine] at h; cases h
theorem fines_short : ∀ l : List PyData, fines l = true → PyData.leavesShortAll 400 l = true
  | [], _ => by simp only [PyData.leavesShortAll]
  | d :: l, h => by
    simp only [fines, Bool.and_eq_true] at h
    simp only [PyData.leavesShortAll, Bool.and_eq_true]
    exact ⟨fine_short d h.1, fines_short l h.2⟩
end
/-- fine, not too deep, not too much -/
structure Neat (d : PyData) : Prop where
  f : fine d = true
  dp : d.depth ≤ 40
  bk : d.bulk ≤ 40000
theorem Neat.shaped {d : PyData} (h : Neat d) : SeqAt.shaped d = true := by
  unfold SeqAt.shaped
  rw [Bool.and_eq_true, decide_eq_true_eq]
  exact ⟨fine_lay d h.f, Nat.le_trans h.dp (by decide)⟩
theorem Neat.fits {d : PyData} (h : Neat d) : d.shown.length ≤ sizeLine := by
  have z := PyData.shown_le_bulk 400 (by decide) d (fine_short d h.f)
  have k := h.bk
  rw [sizeLine_eq]
  omega
theorem Neat.refl {d : PyData} (h : Neat d) : PyData.eqv d d = true := SeqAt.eqv_refl d (fine_lay d h.f)
theorem depth_ints (ns : List Int) : PyData.depthAll (ns.map PyData.int) = 0 := by
  induction ns with
  | nil => simp [PyData.depthAll]
  | cons n r ih => simp [PyData.depthAll, PyData.depth, ih]
theorem bulk_ints (ns : List Int) : PyData.bulkAll (ns.map PyData.int) = ns.length := by
  induction ns with
  | nil => simp [PyData.bulkAll]
  | cons n r ih => simp [PyData.bulkAll, PyData.bulk, ih]; omega
theorem neat_ints {ns : List Int} (h : ∀ n ∈ ns, n.natAbs < big) (l : ns.length ≤ 40000) : Neat (.list (ns.map PyData.int)) :=
  ⟨by simp only [fine]; exact fines_ints h, by simp only [PyData.depth, depth_ints]; omega, by simp only [PyData.bulk, bulk_ints]; exact l⟩
theorem shaped_ints (ns : List Int) : SeqAt.shaped (.list (ns.map PyData.int)) = true := by
  unfold SeqAt.shaped
  rw [Bool.and_eq_true, decide_eq_true_eq]
  refine ⟨?_, by simp only [PyData.depth, depth_ints]; omega⟩
  simp only [PyData.canLay0]
  induction ns with
  | nil => rfl
  | cons n r ih => simp only [List.map_cons, PyData.canLayAll0, PyData.canLay0, Bool.true_and]; exact ih
theorem eqv_ints : ∀ ns ms : List Int, PyData.eqv (.list (ns.map PyData.int)) (.list (ms.map PyData.int)) = decide (ns = ms) := by
  have key : ∀ ns ms : List Int, PyData.eqvAll (ns.map PyData.int) (ms.map PyData.int) = decide (ns = ms) := by
    intro ns
    induction ns with
    | nil => intro ms; cases ms <;> simp [PyData.eqvAll]
    | cons n r ih =>
      intro ms
      cases ms with
      | nil => simp [PyData.eqvAll]
      | cons m q =>
        simp only [List.map_cons, PyData.eqvAll, PyData.eqv, ih q, List.cons.injEq, Bool.decide_and]
        rfl
  intro ns ms
  simp only [PyData.eqv]
  exact key ns ms
section
variable {K : PySem.W.Frag} {H : Hp} {Q : VK} {p q : Addr} {ns ms : List Int} {d e : PyData} {x y : V}
theorem i_neLI (h1 : H p = some (.lst (ns.map V.int))) (h2 : H q = some (.lst (ms.map V.int))) (k : Q (.bl (!decide (ns = ms))) H) : rNeU K (.ref p) (.ref q) H Q :=
  i_neD (dp_lints h1) (dp_lints h2) (shaped_ints ns) (shaped_ints ms) (by rw [eqv_ints]; exact k)
theorem i_eqLI (h1 : H p = some (.lst (ns.map V.int))) (h2 : H q = some (.lst (ms.map V.int))) (k : Q (.bl (decide (ns = ms))) H) : rEqU K (.ref p) (.ref q) H Q :=
  i_eqD (dp_lints h1) (dp_lints h2) (shaped_ints ns) (shaped_ints ms) (by rw [eqv_ints]; exact k)
/-- the same data on both sides -/
theorem i_neDD (h1 : Dp K H x d) (h2 : Dp K H y d) (n : Neat d) (k : Q (.bl false) H) : rNeU K x y H Q := i_neD h1 h2 n.shaped n.shaped (by rw [n.refl]; exact k)
theorem i_eqDD (h1 : Dp K H x d) (h2 : Dp K H y d) (n : Neat d) (k : Q (.bl true) H) : rEqU K x y H Q := i_eqD h1 h2 n.shaped n.shaped (by rw [n.refl]; exact k)
end

/-! ### repr -/
def rRepr (K : PySem.W.Frag) : List V → Hp → VK → Prop := fun vs H Q => ∃ x d, vs = [x] ∧ Dp K H x d ∧ Neat d ∧ Q (.str d.shown) H
theorem crepr {X : Cx} {k : Nat} {g : Prop} (hr : Room k X.A) (gd : Gd g X.A) (hg : g) : CallR X (.builtin "repr") (rRepr X.K) := by
  intro pins s σ H vs us Q I r h
  obtain ⟨x, d, rfl, hd, n, q⟩ := h
  obtain ⟨u, rfl, rx⟩ := Vals.one r
  obtain ⟨as, hr'⟩ := Dp.reads I d x u hd rx
  have l1 : d.shown.length ≤ sizeLine := n.fits
  cases hd with
  | non =>
    cases rx
    exact PySem.P.repr_of_none ⟨.str _, H, I.tok _, ⟨_, rfl⟩, q⟩
  | bl b =>
    cases rx
    exact PySem.P.repr_of_bool ⟨.str _, H, I.tok _, ⟨_, rfl⟩, q⟩
  | int i =>
    obtain ⟨t, rfl⟩ := rx
    have f := n.f
    simp only [fine, decide_eq_true_eq] at f
    exact PySem.P.repr_of_int (Nat.lt_trans (PySem.Flt.log2_lt_of (k := 1200) (by decide) f) (by decide)) ⟨.str _, H, I.tok _, ⟨_, rfl⟩, q⟩
  | str z =>
    obtain ⟨t, rfl⟩ := rx
    exact PySem.P.repr_of_str ⟨.str _, H, I.tok _, ⟨_, rfl⟩, q⟩ l1
  | lst hs ha =>
    cases rx
    exact repr_of_reads' hr' (fine_show _ n.f) (fun z => by rw [fine_dict _ n.f] at z; cases z) (gd hg) (by have := n.dp; have := hr.un; omega) (fun _ _ e => e)
      (fun h' u tk hk => ⟨.str _, H, I.kept (t' := tk) hk, ⟨_, rfl⟩, q⟩) n.fits
  | tup hs ha =>
    cases rx
    exact repr_of_reads' hr' (fine_show _ n.f) (fun z => by rw [fine_dict _ n.f] at z; cases z) (gd hg) (by have := n.dp; have := hr.un; omega) (fun _ _ e => e)
      (fun h' u tk hk => ⟨.str _, H, I.kept (t' := tk) hk, ⟨_, rfl⟩, q⟩) n.fits
theorem creprK {X : Cx} {k : Nat} {g : Prop} (K : PySem.W.Frag) (h : X.K = K) (hr : Room k X.A) (gd : Gd g X.A) (hg : g) : CallR X (.builtin "repr") (rRepr K) := h ▸ crepr hr gd hg
end Z

/-! Z, part six: lists of ints; rows of like things. -/
namespace Z
open PySem PySem.Spec PyProof.Rows L2

section
variable {K : PySem.W.Frag} {H : Hp} {Q : VK} {i j a : Int} {p q : Addr} {ns ms : List Int}
theorem i_addLI (h1 : H p = some (.lst (ns.map V.int))) (h2 : H q = some (.lst (ms.map V.int))) (z : ns.length + ms.length ≤ 1000000) (h : ∀ r H', New H r (.lst ((ns ++ ms).map V.int)) H' → Q (.ref r) H') : rAdd K (.ref p) (.ref q) H Q :=
  i_addL h1 h2 (by rw [List.length_map, List.length_map, sizeLine_eq]; omega) (by rw [← List.map_append]; exact h)
theorem i_mulLI (h1 : H p = some (.lst [V.int a])) (z : -1000000 ≤ j ∧ j ≤ 1000000) (h : ∀ r H', New H r (.lst ((List.replicate j.toNat a).map V.int)) H' → Q (.ref r) H') : rMul (.ref p) (.int j) H Q := by
  refine i_mulL h1 (by omega) (by omega) (by rw [sizeLine_eq, List.length_singleton]; omega) ?_
  have e : (List.replicate j.toNat [V.int a]).flatten = (List.replicate j.toNat a).map V.int := by
    induction j.toNat with
    | zero => rfl
    | succ n ih => rw [List.replicate_succ, List.flatten_cons, ih, List.replicate_succ]; rfl
  rw [e]; exact h
end
theorem i_lenLI {K : PySem.W.Frag} {H : Hp} {Q : VK} {p : Addr} {ns : List Int} (h : H p = some (.lst (ns.map V.int))) (q : Q (.int (ns.length : Nat)) H) : rLenU K [V.ref p] H Q := i_lenL h (by rw [List.length_map]; exact q)
theorem i_lenQI {K : PySem.W.Frag} {H : Hp} {Q : VK} {p : Addr} {ns : List Int} (h : SqL K H p (ns.map V.int)) (q : Q (.int (ns.length : Nat)) H) : rLenU K [V.ref p] H Q := i_lenQ h (by rw [List.length_map]; exact q)
/-- item by item -/
def All2 {α β : Type} (R : α → β → Prop) (xs : List α) (ys : List β) : Prop := xs.length = ys.length ∧ ∀ (i : Nat) x y, xs[i]? = some x → ys[i]? = some y → R x y
section
variable {α β : Type} {R S : α → β → Prop} {xs xs' : List α} {ys ys' : List β} {x : α} {y : β} {i : Nat}
theorem All2.nil : All2 R [] [] := ⟨rfl, fun _ _ _ h => by simp at h⟩
theorem All2.len (h : All2 R xs ys) : xs.length = ys.length := h.1
theorem All2.mono (h : All2 R xs ys) (m : ∀ x y, R x y → S x y) : All2 S xs ys := ⟨h.1, fun i x y a b => m x y (h.2 i x y a b)⟩
theorem All2.app (h : All2 R xs ys) (h' : All2 R xs' ys') : All2 R (xs ++ xs') (ys ++ ys') := by
  refine ⟨by rw [List.length_append, List.length_append, h.1, h'.1], fun i x y a b => ?_⟩
  by_cases l : i < xs.length
  · rw [List.getElem?_append_left l] at a
    rw [List.getElem?_append_left (h.1 ▸ l)] at b
    exact h.2 i x y a b
  · rw [List.getElem?_append_right (by omega)] at a
    rw [List.getElem?_append_right (by have := h.1; omega), ← h.1] at b
    exact h'.2 _ x y a b
theorem All2.one (h : R x y) : All2 R [x] [y] := by
  refine ⟨rfl, fun i a b e e' => ?_⟩
  cases i with
  | zero => cases e; cases e'; exact h
  | succ n => simp at e
theorem All2.snoc (h : All2 R xs ys) (h' : R x y) : All2 R (xs ++ [x]) (ys ++ [y]) := h.app (.one h')
theorem All2.cons (h' : R x y) (h : All2 R xs ys) : All2 R (x :: xs) (y :: ys) := (All2.one h').app h
theorem All2.get (h : All2 R xs ys) (e : xs[i]? = some x) : ∃ y, ys[i]? = some y ∧ R x y := by
  have l := (List.getElem?_eq_some_iff.mp e).1
  have e' : ys[i]? = some (ys[i]'(h.1 ▸ l)) := by simp
  exact ⟨_, e', h.2 i _ _ e e'⟩
theorem All2.get' (h : All2 R xs ys) (e : ys[i]? = some y) : ∃ x, xs[i]? = some x ∧ R x y := by
  have l := (List.getElem?_eq_some_iff.mp e).1
  have e' : xs[i]? = some (xs[i]'(h.1 ▸ l)) := by simp
  exact ⟨_, e', h.2 i _ _ e' e⟩
theorem All2.uncons (h : All2 R (x :: xs) (y :: ys)) : R x y ∧ All2 R xs ys :=
  ⟨h.2 0 x y rfl rfl, by have := h.1; simp at this; exact this, fun i a b e e' => h.2 (i + 1) a b (by simpa using e) (by simpa using e')⟩
theorem All2.nil_of (h : All2 R xs ([] : List β)) : xs = [] := List.eq_nil_of_length_eq_zero h.1
theorem All2.cons_of (h : All2 R xs (y :: ys)) : ∃ x xs', xs = x :: xs' ∧ R x y ∧ All2 R xs' ys := by
  cases xs with
  | nil => cases h.1
  | cons x xs' => exact ⟨x, xs', rfl, h.uncons.1, h.uncons.2⟩
theorem All2.mem (h : All2 R xs ys) (e : x ∈ xs) : ∃ y, y ∈ ys ∧ R x y := by
  obtain ⟨i, hi⟩ := List.getElem?_of_mem e
  obtain ⟨y, hy, r⟩ := h.get hi
  exact ⟨y, List.mem_of_getElem? hy, r⟩
end
/-- objects of unlike kinds stand apart -/
theorem ne_tl {H : Hp} {a b : Addr} {xs ys : List V} (h : H a = some (.tup xs)) (h' : H b = some (.lst ys)) : a ≠ b := fun e => by subst e; rw [h] at h'; cases h'
theorem ne_lt {H : Hp} {a b : Addr} {xs ys : List V} (h : H a = some (.lst xs)) (h' : H b = some (.tup ys)) : a ≠ b := fun e => by subst e; rw [h] at h'; cases h'
theorem ne_il {H : Hp} {a b C dx : Addr} {fs : List (Str × V)} {ys : List V} (h : H a = some (.ins C dx fs)) (h' : H b = some (.lst ys)) : a ≠ b := fun e => by subst e; rw [h] at h'; cases h'
theorem ne_it {H : Hp} {a b C dx : Addr} {fs : List (Str × V)} {ys : List V} (h : H a = some (.ins C dx fs)) (h' : H b = some (.tup ys)) : a ≠ b := fun e => by subst e; rw [h] at h'; cases h'
/-- a tuple of a count and a number -/
def IsPair (H : Hp) (v : V) (t : Nat × Int) : Prop := ∃ r, v = .ref r ∧ H r = some (.tup [.int (t.1 : Nat), .int t.2])
section
variable {H H' : Hp} {v : V} {t : Nat × Int} {D : Addr} {o : HO} {xs : List V}
theorem IsPair.same (h : IsPair H v t) (s : Same H H') : IsPair H' v t := by
  obtain ⟨r, e, h⟩ := h
  exact ⟨r, e, s _ _ h⟩
theorem IsPair.up (h : IsPair H v t) (u : Up H D o H') (hD : H D = some (.lst xs)) : IsPair H' v t := by
  obtain ⟨r, e, h⟩ := h
  exact ⟨r, e, u.get (ne_tl h hD) h⟩
end
end Z
namespace Z
open PySem PySem.Spec PyProof.Rows L2
theorem IsPair.but {H H' : Hp} {v : V} {t : Nat × Int} {D : Addr} {xs : List V} (h : IsPair H v t) (b : But D H H') (hD : H D = some (.lst xs)) : IsPair H' v t := by
  obtain ⟨r, e, h⟩ := h
  exact ⟨r, e, b.get (ne_tl h hD) h⟩
/-- the list of f's values -/
def fl (f : Nat → Int) (n : Nat) : List V := ((List.range n).map f).map V.int
theorem fl_len (f : Nat → Int) (n : Nat) : (fl f n).length = n := by unfold fl; rw [List.length_map, List.length_map, List.length_range]
theorem fl_get (f : Nat → Int) {n i : Nat} (h : i < n) : (fl f n)[i]? = some (.int (f i)) := by
  unfold fl
  rw [List.getElem?_map, List.getElem?_map, List.getElem?_range h]; rfl
theorem fl_congr {f g : Nat → Int} {n : Nat} (h : ∀ i, i < n → f i = g i) : fl f n = fl g n := by
  unfold fl
  congr 1
  exact List.map_congr_left fun k hk => h k (List.mem_range.mp hk)
theorem fl_set (f : Nat → Int) (n i : Nat) (c : Int) : (fl f n).set i (.int c) = fl (fun p => if p = i then c else f p) n := by
  refine List.ext_getElem? fun j => ?_
  by_cases l : j < n
  · rw [fl_get _ l, List.getElem?_set]
    by_cases e : i = j
    · subst e
      rw [if_pos rfl, if_pos (by rw [fl_len]; exact l), if_pos rfl]
    · rw [if_neg e, fl_get _ l, if_neg (Ne.symm e)]
  · rw [List.getElem?_eq_none (by rw [List.length_set, fl_len]; omega), List.getElem?_eq_none (by rw [fl_len]; omega)]
theorem fl_zero (n : Nat) : (List.replicate n (0 : Int)).map V.int = fl (fun _ => 0) n := by
  unfold fl
  rw [List.map_const', List.length_range]
end Z
namespace Z
open PySem PySem.Spec PyProof.Rows L2
theorem ixN_nat {n k : Nat} (h : k < n) : ixN n (k : Int) = some k := by
  unfold ixN
  rw [if_pos (by omega)]
  rw [if_pos (by omega)]
  exact congrArg some (by omega)
end Z
namespace Z
open PySem PySem.Spec PyProof.Rows L2
section
variable {K : PySem.W.Frag} {H : Hp} {g : TG} {tb : TZ} {tt : TT} {te : TE} {vs : List Nat} {nx : L2.St → Hp → Prop} {rt : VK} {σ : L2.St} {Q : VK} {n : Nat}
theorem loop_range0 (Pv : Nat → L2.St → Hp → Prop) (h0 : Pv 0 σ H) (hs : ∀ i σ H, i < n → Pv i σ H → g (.int (i : Nat)) σ H fun σ2 H2 => tb (Pv (i + 1)) rt nx (Pv (i + 1)) σ2 H2) (hd : ∀ σ H, Pv n σ H → nx σ H) :
    zLoop (Itr 0 n) g tb nx rt σ H := loop_range Pv h0 (fun i σ H a b => by rw [Int.zero_add]; exact hs i σ H a b) hd
theorem comp_range0 (G : Nat → List V → Hp → Prop) (h0 : ∀ D H', New H D (.lst []) H' → G 0 [] H')
    (hs : ∀ D i acc H2, H D = none → i < n → H2 D = some (.lst acc) → G i acc H2 → g (.int (i : Nat)) (wipe σ vs) H2 fun σ2 H3 => wipe σ2 vs = wipe σ vs ∧ tt σ2 H3 fun b H4 =>
      if b = true then te σ2 H4 fun y H5 => zEnd D (G (i + 1)) y H5 else zSkip D (G (i + 1)) H4)
    (hd : ∀ D acc H2, H D = none → H2 D = some (.lst acc) → G n acc H2 → Q (.ref D) H2) : zComp (Itr 0 n) g tt te vs σ H Q :=
  comp_range G h0 (fun D i acc H2 a b c d => by rw [Int.zero_add]; exact hs D i acc H2 a b c d) hd
end
theorem fl_snoc (f : Nat → Int) (n : Nat) : fl f n ++ [.int (f n)] = fl f (n + 1) := by
  unfold fl
  rw [List.range_succ, List.map_append, List.map_append]; rfl
end Z
namespace Z
open PySem PySem.Spec PyProof.Rows L2
/-! ### isinstance of built-in kinds -/
theorem cisi {X : Cx} : CallR X (.builtin "isinstance") (rIsi X.K) := call_isi
theorem cisiK {X : Cx} (K : PySem.W.Frag) (h : X.K = K) : CallR X (.builtin "isinstance") (rIsi K) := h ▸ cisi
def rIsiG (K : PySem.W.Frag) : List V → Hp → VK → Prop := rIsi K
theorem i_isi0 {K : PySem.W.Frag} {H : Hp} {Q : VK} {xs : List V} (h : rIsiG K xs H Q) : rIsi K xs H Q := h
theorem i_isi {K : PySem.W.Frag} {H : Hp} {Q : VK} {x : V} {a n : String} {b : Bool} (ty : TyX K H x (.type a)) (e : kitB a n = some b) (q : Q (.bl b) H) : rIsi K [x, .ty n] H Q := ⟨x, .ty n, .type a, .type n, b, rfl, .ty n, ty, kit_ty e, q⟩
theorem kb_I_int : kitB "int" "int" = some true := by decide +kernel
theorem isi_I_int {K : PySem.W.Frag} {H : Hp} {Q : VK} {i : Int} (q : Q (.bl true) H) : rIsiG K [V.int i, .ty "int"] H Q := i_isi (TyX.base (TyOf.int i)) kb_I_int q
theorem kb_I_bool : kitB "int" "bool" = some false := by decide +kernel
theorem isi_I_bool {K : PySem.W.Frag} {H : Hp} {Q : VK} {i : Int} (q : Q (.bl false) H) : rIsiG K [V.int i, .ty "bool"] H Q := i_isi (TyX.base (TyOf.int i)) kb_I_bool q
theorem kb_I_str : kitB "int" "str" = some false := by decide +kernel
theorem isi_I_str {K : PySem.W.Frag} {H : Hp} {Q : VK} {i : Int} (q : Q (.bl false) H) : rIsiG K [V.int i, .ty "str"] H Q := i_isi (TyX.base (TyOf.int i)) kb_I_str q
theorem kb_I_list : kitB "int" "list" = some false := by decide +kernel
theorem isi_I_list {K : PySem.W.Frag} {H : Hp} {Q : VK} {i : Int} (q : Q (.bl false) H) : rIsiG K [V.int i, .ty "list"] H Q := i_isi (TyX.base (TyOf.int i)) kb_I_list q
theorem kb_I_tuple : kitB "int" "tuple" = some false := by decide +kernel
theorem isi_I_tuple {K : PySem.W.Frag} {H : Hp} {Q : VK} {i : Int} (q : Q (.bl false) H) : rIsiG K [V.int i, .ty "tuple"] H Q := i_isi (TyX.base (TyOf.int i)) kb_I_tuple q
theorem kb_I_dict : kitB "int" "dict" = some false := by decide +kernel
theorem isi_I_dict {K : PySem.W.Frag} {H : Hp} {Q : VK} {i : Int} (q : Q (.bl false) H) : rIsiG K [V.int i, .ty "dict"] H Q := i_isi (TyX.base (TyOf.int i)) kb_I_dict q
theorem kb_B_int : kitB "bool" "int" = some true := by decide +kernel
theorem isi_B_int {K : PySem.W.Frag} {H : Hp} {Q : VK} {k : Bool} (q : Q (.bl true) H) : rIsiG K [V.bl k, .ty "int"] H Q := i_isi (TyX.base (TyOf.bl k)) kb_B_int q
theorem kb_B_bool : kitB "bool" "bool" = some true := by decide +kernel
theorem isi_B_bool {K : PySem.W.Frag} {H : Hp} {Q : VK} {k : Bool} (q : Q (.bl true) H) : rIsiG K [V.bl k, .ty "bool"] H Q := i_isi (TyX.base (TyOf.bl k)) kb_B_bool q
theorem kb_B_str : kitB "bool" "str" = some false := by decide +kernel
theorem isi_B_str {K : PySem.W.Frag} {H : Hp} {Q : VK} {k : Bool} (q : Q (.bl false) H) : rIsiG K [V.bl k, .ty "str"] H Q := i_isi (TyX.base (TyOf.bl k)) kb_B_str q
theorem kb_B_list : kitB "bool" "list" = some false := by decide +kernel
theorem isi_B_list {K : PySem.W.Frag} {H : Hp} {Q : VK} {k : Bool} (q : Q (.bl false) H) : rIsiG K [V.bl k, .ty "list"] H Q := i_isi (TyX.base (TyOf.bl k)) kb_B_list q
theorem kb_B_tuple : kitB "bool" "tuple" = some false := by decide +kernel
theorem isi_B_tuple {K : PySem.W.Frag} {H : Hp} {Q : VK} {k : Bool} (q : Q (.bl false) H) : rIsiG K [V.bl k, .ty "tuple"] H Q := i_isi (TyX.base (TyOf.bl k)) kb_B_tuple q
theorem kb_B_dict : kitB "bool" "dict" = some false := by decide +kernel
theorem isi_B_dict {K : PySem.W.Frag} {H : Hp} {Q : VK} {k : Bool} (q : Q (.bl false) H) : rIsiG K [V.bl k, .ty "dict"] H Q := i_isi (TyX.base (TyOf.bl k)) kb_B_dict q
theorem kb_S_int : kitB "str" "int" = some false := by decide +kernel
theorem isi_S_int {K : PySem.W.Frag} {H : Hp} {Q : VK} {a : Str} (q : Q (.bl false) H) : rIsiG K [V.str a, .ty "int"] H Q := i_isi (TyX.base (TyOf.str a)) kb_S_int q
theorem kb_S_bool : kitB "str" "bool" = some false := by decide +kernel
theorem isi_S_bool {K : PySem.W.Frag} {H : Hp} {Q : VK} {a : Str} (q : Q (.bl false) H) : rIsiG K [V.str a, .ty "bool"] H Q := i_isi (TyX.base (TyOf.str a)) kb_S_bool q
theorem kb_S_str : kitB "str" "str" = some true := by decide +kernel
theorem isi_S_str {K : PySem.W.Frag} {H : Hp} {Q : VK} {a : Str} (q : Q (.bl true) H) : rIsiG K [V.str a, .ty "str"] H Q := i_isi (TyX.base (TyOf.str a)) kb_S_str q
theorem kb_S_list : kitB "str" "list" = some false := by decide +kernel
theorem isi_S_list {K : PySem.W.Frag} {H : Hp} {Q : VK} {a : Str} (q : Q (.bl false) H) : rIsiG K [V.str a, .ty "list"] H Q := i_isi (TyX.base (TyOf.str a)) kb_S_list q
theorem kb_S_tuple : kitB "str" "tuple" = some false := by decide +kernel
theorem isi_S_tuple {K : PySem.W.Frag} {H : Hp} {Q : VK} {a : Str} (q : Q (.bl false) H) : rIsiG K [V.str a, .ty "tuple"] H Q := i_isi (TyX.base (TyOf.str a)) kb_S_tuple q
theorem kb_S_dict : kitB "str" "dict" = some false := by decide +kernel
theorem isi_S_dict {K : PySem.W.Frag} {H : Hp} {Q : VK} {a : Str} (q : Q (.bl false) H) : rIsiG K [V.str a, .ty "dict"] H Q := i_isi (TyX.base (TyOf.str a)) kb_S_dict q
theorem kb_N_int : kitB "NoneType" "int" = some false := by decide +kernel
theorem isi_N_int {K : PySem.W.Frag} {H : Hp} {Q : VK} (q : Q (.bl false) H) : rIsiG K [V.non, .ty "int"] H Q := i_isi (TyX.base TyOf.non) kb_N_int q
theorem kb_N_bool : kitB "NoneType" "bool" = some false := by decide +kernel
theorem isi_N_bool {K : PySem.W.Frag} {H : Hp} {Q : VK} (q : Q (.bl false) H) : rIsiG K [V.non, .ty "bool"] H Q := i_isi (TyX.base TyOf.non) kb_N_bool q
theorem kb_N_str : kitB "NoneType" "str" = some false := by decide +kernel
theorem isi_N_str {K : PySem.W.Frag} {H : Hp} {Q : VK} (q : Q (.bl false) H) : rIsiG K [V.non, .ty "str"] H Q := i_isi (TyX.base TyOf.non) kb_N_str q
theorem kb_N_list : kitB "NoneType" "list" = some false := by decide +kernel
theorem isi_N_list {K : PySem.W.Frag} {H : Hp} {Q : VK} (q : Q (.bl false) H) : rIsiG K [V.non, .ty "list"] H Q := i_isi (TyX.base TyOf.non) kb_N_list q
theorem kb_N_tuple : kitB "NoneType" "tuple" = some false := by decide +kernel
theorem isi_N_tuple {K : PySem.W.Frag} {H : Hp} {Q : VK} (q : Q (.bl false) H) : rIsiG K [V.non, .ty "tuple"] H Q := i_isi (TyX.base TyOf.non) kb_N_tuple q
theorem kb_N_dict : kitB "NoneType" "dict" = some false := by decide +kernel
theorem isi_N_dict {K : PySem.W.Frag} {H : Hp} {Q : VK} (q : Q (.bl false) H) : rIsiG K [V.non, .ty "dict"] H Q := i_isi (TyX.base TyOf.non) kb_N_dict q
theorem kb_L_int : kitB "list" "int" = some false := by decide +kernel
theorem isi_L_int {K : PySem.W.Frag} {H : Hp} {Q : VK} {p : Addr} {xs : List V} (h : H p = some (.lst xs)) (q : Q (.bl false) H) : rIsiG K [V.ref p, .ty "int"] H Q := i_isi (TyX.base (TyOf.lst h)) kb_L_int q
theorem kb_L_bool : kitB "list" "bool" = some false := by decide +kernel
theorem isi_L_bool {K : PySem.W.Frag} {H : Hp} {Q : VK} {p : Addr} {xs : List V} (h : H p = some (.lst xs)) (q : Q (.bl false) H) : rIsiG K [V.ref p, .ty "bool"] H Q := i_isi (TyX.base (TyOf.lst h)) kb_L_bool q
theorem kb_L_str : kitB "list" "str" = some false := by decide +kernel
theorem isi_L_str {K : PySem.W.Frag} {H : Hp} {Q : VK} {p : Addr} {xs : List V} (h : H p = some (.lst xs)) (q : Q (.bl false) H) : rIsiG K [V.ref p, .ty "str"] H Q := i_isi (TyX.base (TyOf.lst h)) kb_L_str q
theorem kb_L_list : kitB "list" "list" = some true := by decide +kernel
theorem isi_L_list {K : PySem.W.Frag} {H : Hp} {Q : VK} {p : Addr} {xs : List V} (h : H p = some (.lst xs)) (q : Q (.bl true) H) : rIsiG K [V.ref p, .ty "list"] H Q := i_isi (TyX.base (TyOf.lst h)) kb_L_list q
theorem kb_L_tuple : kitB "list" "tuple" = some false := by decide +kernel
theorem isi_L_tuple {K : PySem.W.Frag} {H : Hp} {Q : VK} {p : Addr} {xs : List V} (h : H p = some (.lst xs)) (q : Q (.bl false) H) : rIsiG K [V.ref p, .ty "tuple"] H Q := i_isi (TyX.base (TyOf.lst h)) kb_L_tuple q
theorem kb_L_dict : kitB "list" "dict" = some false := by decide +kernel
theorem isi_L_dict {K : PySem.W.Frag} {H : Hp} {Q : VK} {p : Addr} {xs : List V} (h : H p = some (.lst xs)) (q : Q (.bl false) H) : rIsiG K [V.ref p, .ty "dict"] H Q := i_isi (TyX.base (TyOf.lst h)) kb_L_dict q
theorem kb_T_int : kitB "tuple" "int" = some false := by decide +kernel
theorem isi_T_int {K : PySem.W.Frag} {H : Hp} {Q : VK} {p : Addr} {xs : List V} (h : H p = some (.tup xs)) (q : Q (.bl false) H) : rIsiG K [V.ref p, .ty "int"] H Q := i_isi (TyX.base (TyOf.tup h)) kb_T_int q
theorem kb_T_bool : kitB "tuple" "bool" = some false := by decide +kernel
theorem isi_T_bool {K : PySem.W.Frag} {H : Hp} {Q : VK} {p : Addr} {xs : List V} (h : H p = some (.tup xs)) (q : Q (.bl false) H) : rIsiG K [V.ref p, .ty "bool"] H Q := i_isi (TyX.base (TyOf.tup h)) kb_T_bool q
theorem kb_T_str : kitB "tuple" "str" = some false := by decide +kernel
theorem isi_T_str {K : PySem.W.Frag} {H : Hp} {Q : VK} {p : Addr} {xs : List V} (h : H p = some (.tup xs)) (q : Q (.bl false) H) : rIsiG K [V.ref p, .ty "str"] H Q := i_isi (TyX.base (TyOf.tup h)) kb_T_str q
theorem kb_T_list : kitB "tuple" "list" = some false := by decide +kernel
theorem isi_T_list {K : PySem.W.Frag} {H : Hp} {Q : VK} {p : Addr} {xs : List V} (h : H p = some (.tup xs)) (q : Q (.bl false) H) : rIsiG K [V.ref p, .ty "list"] H Q := i_isi (TyX.base (TyOf.tup h)) kb_T_list q
theorem kb_T_tuple : kitB "tuple" "tuple" = some true := by decide +kernel
theorem isi_T_tuple {K : PySem.W.Frag} {H : Hp} {Q : VK} {p : Addr} {xs : List V} (h : H p = some (.tup xs)) (q : Q (.bl true) H) : rIsiG K [V.ref p, .ty "tuple"] H Q := i_isi (TyX.base (TyOf.tup h)) kb_T_tuple q
theorem kb_T_dict : kitB "tuple" "dict" = some false := by decide +kernel
theorem isi_T_dict {K : PySem.W.Frag} {H : Hp} {Q : VK} {p : Addr} {xs : List V} (h : H p = some (.tup xs)) (q : Q (.bl false) H) : rIsiG K [V.ref p, .ty "dict"] H Q := i_isi (TyX.base (TyOf.tup h)) kb_T_dict q
theorem kb_D_int : kitB "dict" "int" = some false := by decide +kernel
theorem isi_D_int {K : PySem.W.Frag} {H : Hp} {Q : VK} {p : Addr} {xs : List (Key × V)} (h : H p = some (.dK xs)) (q : Q (.bl false) H) : rIsiG K [V.ref p, .ty "int"] H Q := i_isi (TyX.base (TyOf.dK h)) kb_D_int q
theorem kb_D_bool : kitB "dict" "bool" = some false := by decide +kernel
theorem isi_D_bool {K : PySem.W.Frag} {H : Hp} {Q : VK} {p : Addr} {xs : List (Key × V)} (h : H p = some (.dK xs)) (q : Q (.bl false) H) : rIsiG K [V.ref p, .ty "bool"] H Q := i_isi (TyX.base (TyOf.dK h)) kb_D_bool q
theorem kb_D_str : kitB "dict" "str" = some false := by decide +kernel
theorem isi_D_str {K : PySem.W.Frag} {H : Hp} {Q : VK} {p : Addr} {xs : List (Key × V)} (h : H p = some (.dK xs)) (q : Q (.bl false) H) : rIsiG K [V.ref p, .ty "str"] H Q := i_isi (TyX.base (TyOf.dK h)) kb_D_str q
theorem kb_D_list : kitB "dict" "list" = some false := by decide +kernel
theorem isi_D_list {K : PySem.W.Frag} {H : Hp} {Q : VK} {p : Addr} {xs : List (Key × V)} (h : H p = some (.dK xs)) (q : Q (.bl false) H) : rIsiG K [V.ref p, .ty "list"] H Q := i_isi (TyX.base (TyOf.dK h)) kb_D_list q
theorem kb_D_tuple : kitB "dict" "tuple" = some false := by decide +kernel
theorem isi_D_tuple {K : PySem.W.Frag} {H : Hp} {Q : VK} {p : Addr} {xs : List (Key × V)} (h : H p = some (.dK xs)) (q : Q (.bl false) H) : rIsiG K [V.ref p, .ty "tuple"] H Q := i_isi (TyX.base (TyOf.dK h)) kb_D_tuple q
theorem kb_D_dict : kitB "dict" "dict" = some true := by decide +kernel
theorem isi_D_dict {K : PySem.W.Frag} {H : Hp} {Q : VK} {p : Addr} {xs : List (Key × V)} (h : H p = some (.dK xs)) (q : Q (.bl true) H) : rIsiG K [V.ref p, .ty "dict"] H Q := i_isi (TyX.base (TyOf.dK h)) kb_D_dict q
end Z
namespace Z
open PySem PySem.Spec PyProof.Rows L2
theorem i_repr {K : PySem.W.Frag} {H : Hp} {Q : VK} {x : V} {d : PyData} (h : Dp K H x d) (n : Neat d) (q : Q (.str d.shown) H) : rRepr K [x] H Q := ⟨x, d, rfl, h, n, q⟩
theorem lay_ints (ns : List Int) : PyData.canLay0 (.list (ns.map PyData.int)) = true := by
  have h := shaped_ints ns
  unfold SeqAt.shaped at h
  rw [Bool.and_eq_true] at h
  exact h.1
theorem shaped_two (ns ms : List Int) : SeqAt.shaped (.list [.list (ns.map PyData.int), .list (ms.map PyData.int)]) = true := by
  unfold SeqAt.shaped
  rw [Bool.and_eq_true, decide_eq_true_eq]
  refine ⟨?_, by simp only [PyData.depth, PyData.depthAll, depth_ints]; omega⟩
  simp only [PyData.canLay0, PyData.canLayAll0, Bool.and_eq_true, and_true]
  exact ⟨by simpa only [PyData.canLay0] using lay_ints ns, by simpa only [PyData.canLay0] using lay_ints ms⟩
theorem shaped_refl {d : PyData} (h : SeqAt.shaped d = true) : PyData.eqv d d = true := by
  unfold SeqAt.shaped at h
  rw [Bool.and_eq_true] at h
  exact SeqAt.eqv_refl d h.1
theorem i_neDS {K : PySem.W.Frag} {H : Hp} {Q : VK} {x y : V} {d : PyData} (h1 : Dp K H x d) (h2 : Dp K H y d) (s : SeqAt.shaped d = true) (k : Q (.bl false) H) : rNeU K x y H Q := i_neD h1 h2 s s (by rw [shaped_refl s]; exact k)
theorem i_eqDS {K : PySem.W.Frag} {H : Hp} {Q : VK} {x y : V} {d : PyData} (h1 : Dp K H x d) (h2 : Dp K H y d) (s : SeqAt.shaped d = true) (k : Q (.bl true) H) : rEqU K x y H Q := i_eqD h1 h2 s s (by rw [shaped_refl s]; exact k)
theorem dp_two {K : PySem.W.Frag} {H : Hp} {p q r : Addr} {ns ms : List Int} (h : H r = some (.lst [.ref p, .ref q])) (h1 : H p = some (.lst (ns.map V.int))) (h2 : H q = some (.lst (ms.map V.int))) :
    Dp K H (.ref r) (.list [.list (ns.map PyData.int), .list (ms.map PyData.int)]) := dp_lst h (.cons (dp_lints h1) (.cons (dp_lints h2) .nil))
theorem neat_two {ns ms : List Int} (h1 : ∀ n ∈ ns, n.natAbs < big) (h2 : ∀ n ∈ ms, n.natAbs < big) (l1 : ns.length ≤ 10000) (l2 : ms.length ≤ 10000) : Neat (.list [.list (ns.map PyData.int), .list (ms.map PyData.int)]) :=
  ⟨by simp only [fine, fines, Bool.and_eq_true, and_true]; exact ⟨fines_ints h1, fines_ints h2⟩, by simp only [PyData.depth, PyData.depthAll, depth_ints]; omega,
    by simp only [PyData.bulk, PyData.bulkAll, bulk_ints]; omega⟩
end Z
namespace Z
open PySem PySem.Spec PyProof.Rows L2
theorem i_rng1L {H : Hp} {R : It → Hp → Prop} {j : Int} (n : Nat) (e : j = (n : Int)) (h : n ≤ 1000000) (q : R (Itr 0 n) H) : zR1 [V.int j] H R := by
  subst e
  exact i_rng1N h q
end Z
namespace Z
theorem ifT {b : Bool} {A B : Prop} (e : b = true) (a : A) : if b = true then A else B := by rw [if_pos e]; exact a
theorem ifF {b : Bool} {A B : Prop} (e : b = false) (a : B) : if b = true then A else B := by rw [if_neg (by rw [e]; decide)]; exact a
end Z

local macro_rules | `(tactic| k_call_by "ne" 0) => `(tactic| first
  | with_reducible assumption
  | ((with_reducible refine Ne.symm ?z_h); (case z_h => with_reducible assumption))
  | ((with_reducible refine Z.New.ne (H := ?z_H) (o := ?z_o) (u := ?z_u) (H' := ?z_H') ?z_n ?z_h); (case z_n => with_reducible assumption); (case z_h => k_call_by "hf" 0))
  | ((with_reducible refine Z.New.ne' (H := ?z_H) (o := ?z_o) (u := ?z_u) (H' := ?z_H') ?z_n ?z_h); (case z_n => with_reducible assumption); (case z_h => k_call_by "hf" 0))
  | ((with_reducible refine Z.ne_fr (H := ?z_H) (u := ?z_u) ?z_f ?z_h); (case z_f => with_reducible assumption); (case z_h => k_call_by "hf" 0))
  | ((with_reducible refine Z.ne_fr' (H := ?z_H) (u := ?z_u) ?z_f ?z_h); (case z_f => with_reducible assumption); (case z_h => k_call_by "hf" 0))
  | fail)
local macro_rules | `(tactic| k_call_by "hf" 0) => `(tactic| first
  | with_reducible assumption
  | ((with_reducible refine Z.New.at (H := ?z_H) ?z_n); (case z_n => with_reducible assumption))
  | ((with_reducible refine Z.New.get (H := ?z_H) (p := ?z_p) (o := ?z_o) ?z_n ?z_h); (case z_n => with_reducible assumption); (case z_h => k_call_by "hf" 0))
  | ((with_reducible refine Z.Up.at (H := ?z_H) ?z_n); (case z_n => with_reducible assumption))
  | ((with_reducible refine Z.Up.get (H := ?z_H) (p := ?z_p) (o := ?z_o) ?z_n ?z_ne ?z_h); (case z_n => with_reducible assumption); (case z_ne => k_call_by "ne" 0); (case z_h => k_call_by "hf" 0))
  | ((with_reducible refine Z.same_get (H := ?z_H) ?z_s ?z_h); (case z_s => with_reducible assumption); (case z_h => k_call_by "hf" 0))
  | ((with_reducible refine Z.But.get (H := ?z_H) (p := ?z_p) ?z_n ?z_ne ?z_h); (case z_n => with_reducible assumption); (case z_ne => k_call_by "ne" 0); (case z_h => k_call_by "hf" 0))
  | fail)
local macro_rules | `(tactic| k_call_by "hq" 0) => `(tactic| first
  | with_reducible assumption
  | ((with_reducible refine L2.SqL.of ?z_h); (case z_h => k_call_by "hf" 0))
  | ((with_reducible refine Z.sq_same (H := ?z_H) ?z_s ?z_h); (case z_s => with_reducible assumption); (case z_h => k_call_by "hq" 0))
  | ((with_reducible refine Z.sq_new (H := ?z_H) (p := ?z_p) (o := ?z_o) ?z_n ?z_h); (case z_n => with_reducible assumption); (case z_h => k_call_by "hq" 0))
  | fail)
-- what stood stands
local macro_rules | `(tactic| k_call_by "fh" 0) => `(tactic| first
  | with_reducible assumption
  | ((with_reducible refine Z.New.fr (o := ?z_o) (H' := ?z_H') ?z_n); (case z_n => with_reducible assumption))
  | ((with_reducible refine Z.fresh_by (H1 := ?z_H1) (H2 := ?z_H2) (o := ?z_o) ?z_n ?z_s); (case z_n => with_reducible assumption); (case z_s => k_call_by "fr" 0))
  | ((with_reducible refine Z.fresh_at (H1 := ?z_H1) ?z_n ?z_s); (case z_n => with_reducible assumption); (case z_s => k_call_by "fr" 0))
  | ((with_reducible refine Z.fresh_but (H1 := ?z_H1) (H2 := ?z_H2) (o := ?z_o) (a := ?z_a) ?z_n ?z_s ?z_ne); (case z_n => with_reducible assumption); (case z_s => k_call_by "fr" 0); (case z_ne => k_call_by "ne" 0))
  | fail)
local macro_rules | `(tactic| k_call_by "fr" 0) => `(tactic| first
  | with_reducible assumption
  | with_reducible exact L2.Same.refl _
  | with_reducible exact Z.But.refl
  | ((with_reducible refine Z.fr_new (H1 := ?z_H1) (p := ?z_p) (o := ?z_o) ?z_y ?z_x); (case z_y => with_reducible assumption); (case z_x => k_call_by "fr" 0))
  | ((with_reducible refine Z.fr_same (H1 := ?z_H1) ?z_y ?z_x); (case z_y => with_reducible assumption); (case z_x => k_call_by "fr" 0))
  | ((with_reducible refine Z.fr_up (H1 := ?z_H1) (p := ?z_p) (o := ?z_o) ?z_y ?z_x ?z_f); (case z_y => with_reducible assumption); (case z_x => k_call_by "fr" 0); (case z_f => k_call_by "fh" 0))
  | ((with_reducible refine Z.fr_but (H1 := ?z_H1) (p := ?z_p) ?z_y ?z_x ?z_f); (case z_y => with_reducible assumption); (case z_x => k_call_by "fr" 0); (case z_f => k_call_by "fh" 0))
  | ((with_reducible refine Z.fb_new (H1 := ?z_H1) (p := ?z_p) (o := ?z_o) ?z_y ?z_x); (case z_y => with_reducible assumption); (case z_x => k_call_by "fr" 0))
  | ((with_reducible refine Z.fb_same (H1 := ?z_H1) ?z_y ?z_x); (case z_y => with_reducible assumption); (case z_x => k_call_by "fr" 0))
  | ((with_reducible refine Z.fb_but (H1 := ?z_H1) ?z_y ?z_x); (case z_y => with_reducible assumption); (case z_x => k_call_by "fr" 0))
  | ((with_reducible refine Z.fb_up (H1 := ?z_H1) (o := ?z_o) ?z_y ?z_x); (case z_y => with_reducible assumption); (case z_x => k_call_by "fr" 0))
  | ((with_reducible refine Z.fb_upn (H1 := ?z_H1) (p := ?z_p) (o := ?z_o) ?z_y ?z_x ?z_f); (case z_y => with_reducible assumption); (case z_x => k_call_by "fr" 0); (case z_f => k_call_by "fh" 0))
  | ((with_reducible refine Z.fb_butn (H1 := ?z_H1) (p := ?z_p) ?z_y ?z_x ?z_f); (case z_y => with_reducible assumption); (case z_x => k_call_by "fr" 0); (case z_f => k_call_by "fh" 0))
  | fail)
-- sizes that fit
local macro_rules | `(tactic| k_call_by "sz" 0) => `(tactic| first
  | with_reducible assumption
  | omega
  | (simp only [PySem.sizeLine_eq, List.length_append, List.length_cons, List.length_nil, List.length_map, List.length_replicate, List.length_reverse, List.length_take, List.length_drop]; omega)
  | (simp only [PySem.sizeLine_eq, List.length_append, List.length_cons, List.length_nil, List.length_map, List.length_replicate, List.length_reverse] at *; omega)
  | fail)
local macro_rules | `(tactic| k_call_by "zb" 0) => `(tactic| first
  | omega
  | (simp only [PySem.sizeLine_eq, List.length_append, List.length_cons, List.length_nil, List.length_map, List.length_replicate, List.length_reverse, List.length_take, List.length_drop]; omega)
  | (simp only [List.length_append, List.length_cons, List.length_nil, List.length_map, List.length_replicate, List.length_reverse] at *; omega)
  | fail)
-- one step
local macro_rules | `(tactic| k_call_by "z" 0) => `(tactic| first
  | with_reducible refine Z.i_seq ?_
  | with_reducible refine Z.i_asg ?_
  | ((with_reducible refine Z.i_var (v := ?z_v) ?z_e ?_); (case z_e => exact rfl))
  | with_reducible refine Z.i_op ?_
  | with_reducible refine Z.i_c ?_
  | with_reducible refine Z.i_name ?_
  | with_reducible refine Z.i_cons ?_
  | with_reducible refine Z.i_nil ?_
  | with_reducible refine Z.i_ret ?_
  | with_reducible refine Z.i_drop ?_
  | with_reducible refine Z.i_if ?_
  | with_reducible refine Z.i_call ?_
  | ((with_reducible refine Z.i_len2 ?z_e ?z_f ?_); (case z_e => exact rfl); (case z_f => exact rfl))
  | with_reducible refine Z.i_cb ?_
  | with_reducible refine Z.i_test ?_
  | with_reducible refine Z.i_blV ?_
  | with_reducible refine Z.i_b ?_
  | with_reducible refine Z.i_and ?_
  | with_reducible refine Z.i_or ?_
  | with_reducible refine Z.i_not ?_
  | with_reducible refine Z.i_next ?_
  | with_reducible refine Z.i_addI ?_
  | with_reducible refine Z.i_I0 ?_
  | with_reducible refine Z.i_U ?_
  | with_reducible refine Z.i_un ?_
  | with_reducible refine Z.i_eqI ?_
  | with_reducible refine Z.i_neI ?_
  | with_reducible refine Z.i_eqS ?_
  | with_reducible refine Z.i_neS ?_
  | with_reducible refine Z.i_ifE ?_
  | with_reducible refine Z.i_sl ?_
  | with_reducible refine Z.i_nopart ?_
  | with_reducible refine Z.i_part ?_
  | with_reducible refine Z.i_partI ?_
  | with_reducible refine Z.i_tup ?_
  | with_reducible refine Z.i_lst ?_
  | ((with_reducible refine Z.i_sz ?z_c ?_); (case z_c => exact Nat.le_of_ble_eq_true rfl))
  | with_reducible refine Z.i_bm ?_
  | with_reducible refine Z.i_bm0 ?_
  | with_reducible refine Z.i_for ?_
  | with_reducible refine Z.i_iList ?_
  | with_reducible refine Z.i_iTup ?_
  | with_reducible refine Z.i_rng1 ?_
  | with_reducible refine Z.i_rng2 ?_
  | with_reducible refine Z.i_enum ?_
  | with_reducible refine Z.i_zip ?_
  | with_reducible refine Z.i_lc ?_
  | with_reducible refine Z.i_yes ?_
  | ((with_reducible refine Z.i_wipe ?z_e ?_); (case z_e => exact rfl))
  | with_reducible refine Z.i_gcons ?_
  | with_reducible refine Z.i_gnil ?_
  | with_reducible refine Z.i_gsub ?_
  | with_reducible refine Z.i_augS ?_
  | with_reducible refine Z.i_ipI ?_
  | ((with_reducible refine Z.i_aug (x := ?z_x) ?z_e ?_); (case z_e => exact rfl))
  | with_reducible refine Z.i_par ?_
  | with_reducible refine Z.i_par3 ?_
  | with_reducible refine Z.i_two ?_
  | with_reducible refine Z.i_three ?_
  | with_reducible refine Z.i_andV ?_
  | with_reducible refine Z.i_orV ?_
  | with_reducible refine Z.i_retN ?_
  | with_reducible refine Z.i_break ?_
  | with_reducible refine Z.i_cont ?_
  | with_reducible refine Z.i_max2 ?_
  | with_reducible refine Z.i_min2 ?_
  | with_reducible refine Z.i_intI ?_
  | with_reducible refine Z.i_intB ?_
  | with_reducible refine Z.i_abs ?_
  | with_reducible refine Z.i_part ?_
  | with_reducible refine L2.iteT ?_
  | with_reducible refine L2.iteF ?_
  | k_call_by "zh" 0
  | k_call_by "zn" 0
  | ((with_reducible refine Z.i_isi0 ?_); k_call_by "isi" 0)
  | fail)
local macro_rules | `(tactic| k_call_by "isi" 0) => `(tactic| first
  | with_reducible refine Z.isi_I_int ?_
  | with_reducible refine Z.isi_B_int ?_
  | with_reducible refine Z.isi_S_int ?_
  | with_reducible refine Z.isi_N_int ?_
  | ((with_reducible refine Z.isi_L_int (xs := ?z_xs) ?z_h ?_); (case z_h => k_call_by "hf" 0))
  | ((with_reducible refine Z.isi_T_int (xs := ?z_xs) ?z_h ?_); (case z_h => k_call_by "hf" 0))
  | ((with_reducible refine Z.isi_D_int (xs := ?z_xs) ?z_h ?_); (case z_h => k_call_by "hf" 0))
  | with_reducible refine Z.isi_I_bool ?_
  | with_reducible refine Z.isi_B_bool ?_
  | with_reducible refine Z.isi_S_bool ?_
  | with_reducible refine Z.isi_N_bool ?_
  | ((with_reducible refine Z.isi_L_bool (xs := ?z_xs) ?z_h ?_); (case z_h => k_call_by "hf" 0))
  | ((with_reducible refine Z.isi_T_bool (xs := ?z_xs) ?z_h ?_); (case z_h => k_call_by "hf" 0))
  | ((with_reducible refine Z.isi_D_bool (xs := ?z_xs) ?z_h ?_); (case z_h => k_call_by "hf" 0))
  | with_reducible refine Z.isi_I_str ?_
  | with_reducible refine Z.isi_B_str ?_
  | with_reducible refine Z.isi_S_str ?_
  | with_reducible refine Z.isi_N_str ?_
  | ((with_reducible refine Z.isi_L_str (xs := ?z_xs) ?z_h ?_); (case z_h => k_call_by "hf" 0))
  | ((with_reducible refine Z.isi_T_str (xs := ?z_xs) ?z_h ?_); (case z_h => k_call_by "hf" 0))
  | ((with_reducible refine Z.isi_D_str (xs := ?z_xs) ?z_h ?_); (case z_h => k_call_by "hf" 0))
  | with_reducible refine Z.isi_I_list ?_
  | with_reducible refine Z.isi_B_list ?_
  | with_reducible refine Z.isi_S_list ?_
  | with_reducible refine Z.isi_N_list ?_
  | ((with_reducible refine Z.isi_L_list (xs := ?z_xs) ?z_h ?_); (case z_h => k_call_by "hf" 0))
  | ((with_reducible refine Z.isi_T_list (xs := ?z_xs) ?z_h ?_); (case z_h => k_call_by "hf" 0))
  | ((with_reducible refine Z.isi_D_list (xs := ?z_xs) ?z_h ?_); (case z_h => k_call_by "hf" 0))
  | with_reducible refine Z.isi_I_tuple ?_
  | with_reducible refine Z.isi_B_tuple ?_
  | with_reducible refine Z.isi_S_tuple ?_
  | with_reducible refine Z.isi_N_tuple ?_
  | ((with_reducible refine Z.isi_L_tuple (xs := ?z_xs) ?z_h ?_); (case z_h => k_call_by "hf" 0))
  | ((with_reducible refine Z.isi_T_tuple (xs := ?z_xs) ?z_h ?_); (case z_h => k_call_by "hf" 0))
  | ((with_reducible refine Z.isi_D_tuple (xs := ?z_xs) ?z_h ?_); (case z_h => k_call_by "hf" 0))
  | with_reducible refine Z.isi_I_dict ?_
  | with_reducible refine Z.isi_B_dict ?_
  | with_reducible refine Z.isi_S_dict ?_
  | with_reducible refine Z.isi_N_dict ?_
  | ((with_reducible refine Z.isi_L_dict (xs := ?z_xs) ?z_h ?_); (case z_h => k_call_by "hf" 0))
  | ((with_reducible refine Z.isi_T_dict (xs := ?z_xs) ?z_h ?_); (case z_h => k_call_by "hf" 0))
  | ((with_reducible refine Z.isi_D_dict (xs := ?z_xs) ?z_h ?_); (case z_h => k_call_by "hf" 0))
  | fail)
-- steps that ask the heap
local macro_rules | `(tactic| k_call_by "rf" 0) => `(tactic| exact rfl)
local macro_rules | `(tactic| k_call_by "zh" 0) => `(tactic| first
  | ((with_reducible refine Z.i_ixL (xs := ?z_xs) (v := ?z_v) ?z_h ?z_e ?_); (case z_h => k_call_by "hf" 0); (case z_e => exact rfl))
  | ((with_reducible refine Z.i_ixT (xs := ?z_xs) (v := ?z_v) ?z_h ?z_e ?_); (case z_h => k_call_by "hf" 0); (case z_e => exact rfl))
  | ((with_reducible refine Z.i_lenLI (ns := ?z_ns) ?z_h ?_); (case z_h => k_call_by "hf" 0))
  | ((with_reducible refine Z.i_lenL (xs := ?z_xs) ?z_h ?_); (case z_h => k_call_by "hf" 0))
  | ((with_reducible refine Z.i_lenT (xs := ?z_xs) ?z_h ?_); (case z_h => k_call_by "hf" 0))
  | ((with_reducible refine Z.i_lenQI (ns := ?z_ns) ?z_h ?_); (case z_h => k_call_by "hq" 0))
  | ((with_reducible refine Z.i_lenQ (xs := ?z_xs) ?z_h ?_); (case z_h => k_call_by "hq" 0))
  | ((with_reducible refine Z.i_slL (xs := ?z_xs) ?z_h ?_); (case z_h => k_call_by "hf" 0))
  | ((with_reducible refine Z.i_tyL (xs := ?z_xs) ?z_h ?_); (case z_h => k_call_by "hf" 0))
  | ((with_reducible refine Z.i_append (xs := ?z_xs) ?z_h ?z_z ?_); (case z_h => k_call_by "hf" 0); (case z_z => k_call_by "sz" 0))
  | ((with_reducible refine Z.i_reverse (xs := ?z_xs) ?z_h ?_); (case z_h => k_call_by "hf" 0))
  | ((with_reducible refine Z.i_clear (xs := ?z_xs) ?z_h ?_); (case z_h => k_call_by "hf" 0))
  | ((with_reducible refine Z.i_tupT (vs := ?z_vs) ?z_h ?z_hn ?_); (case z_h => k_call_by "hf" 0); (case z_hn => exact rfl))
  | ((with_reducible refine Z.i_setL (xs := ?z_xs) (j := ?z_j) ?z_h ?z_e ?_); (case z_h => k_call_by "hf" 0); (case z_e => exact rfl))
  | ((with_reducible refine Z.i_ixQ (xs := ?z_xs) (v := ?z_v) ?z_h ?z_e ?_); (case z_h => k_call_by "hq" 0); (case z_e => exact rfl))
  | ((with_reducible refine Z.i_enumL (xs := ?z_xs) ?z_h ?_); (case z_h => k_call_by "hq" 0))
  | ((with_reducible refine Z.i_itL (xs := ?z_xs) ?z_h ?_); (case z_h => k_call_by "hf" 0))
  | ((with_reducible refine Z.i_itT (xs := ?z_xs) ?z_h ?_); (case z_h => k_call_by "hf" 0))
  | ((with_reducible refine Z.i_itQ (xs := ?z_xs) ?z_h ?_); (case z_h => k_call_by "hq" 0))
  | ((with_reducible refine Z.i_zipL (xs := ?z_xs) (ys := ?z_ys) ?z_h ?z_h2 ?_); (case z_h => k_call_by "hq" 0); (case z_h2 => k_call_by "hq" 0))
  | ((with_reducible refine Z.i_addLI (ns := ?z_ns) (ms := ?z_ms) ?z_h1 ?z_h2 ?z_z ?_); (case z_h1 => k_call_by "hf" 0); (case z_h2 => k_call_by "hf" 0); (case z_z => k_call_by "sz" 0))
  | ((with_reducible refine Z.i_mulLI (a := ?z_a) ?z_h1 ?z_z ?_); (case z_h1 => k_call_by "hf" 0); (case z_z => k_call_by "zb" 0))
  | ((with_reducible refine Z.i_sum (ns := ?z_ns) ?z_h ?_); (case z_h => k_call_by "hf" 0))
  | ((with_reducible refine Z.i_all (bs := ?z_bs) ?z_h ?_); (case z_h => k_call_by "hf" 0))
  | ((with_reducible refine Z.i_any (bs := ?z_bs) ?z_h ?_); (case z_h => k_call_by "hf" 0))
  | ((with_reducible refine Z.i_listL (xs := ?z_xs) ?z_h ?_); (case z_h => k_call_by "hf" 0))
  | ((with_reducible refine Z.i_listT (xs := ?z_xs) ?z_h ?_); (case z_h => k_call_by "hf" 0))
  | ((with_reducible refine Z.i_tupleL (xs := ?z_xs) ?z_h ?_); (case z_h => k_call_by "hf" 0))
  | ((with_reducible refine Z.i_rng1N ?z_h ?_); (case z_h => omega))
  | fail)
-- operations whose numbers are written
local macro_rules | `(tactic| k_call_by "zc" 0) => `(tactic| first
  | (show (0 : Int) < _; omega)
  | assumption
  | (refine ⟨?_, ?_, ?_⟩ <;> decide)
  | (refine ⟨?_, ?_⟩ <;> first | decide | omega)
  | fail)
local macro_rules | `(tactic| k_call_by "zn" 0) => `(tactic| first
  | ((with_reducible refine Z.i_I ?z_c ?_); (case z_c => k_call_by "zc" 0))
  | ((with_reducible refine Z.i_mulR ?z_c ?_); (case z_c => k_call_by "zc" 0))
  | ((with_reducible refine Z.i_mulJ ?z_c ?_); (case z_c => k_call_by "zc" 0))
  | fail)
local macro_rules | `(tactic| k_call_by "zz" 0) => `(tactic| repeat k_call_by "z" 0)
local macro_rules | `(tactic| k_call_by "zi" 0) => `(tactic| first
  | k_call_by "z" 0
  | with_reducible refine fun (_ : PySem.Addr) (_ : L2.Hp) (_ : Z.New _ _ _ _) => ?_
  | with_reducible refine fun (_ : L2.Hp) (_ : Z.Up _ _ _ _) => ?_
  | fail)
local macro_rules | `(tactic| k_call_by "za" 0) => `(tactic| repeat k_call_by "zi" 0)

namespace L
open PySem PySem.Spec PyProof.Rows L2
def top (i : Nat) : Stmt := PySem.Challenge.pw_sampleweave_k81_polynomials.main.body.getD i (.Pass ⟨0, 0, 0, 0⟩)
abbrev s_trimmed : Stmt := top 1
abbrev n_trimmed : List Str := ["row", "size"]
abbrev p_trimmed : List Str := ["row"]
theorem sc_trimmed : FnScope n_trimmed p_trimmed (defScope s_trimmed) := ⟨rfl, rfl, rfl, by decide +kernel, rfl, by decide +kernel, by decide +kernel⟩
def d_trimmed : He.DefD := ⟨("trimmed", none), "trimmed", "trimmed", defArgs s_trimmed, defBody s_trimmed, defScope s_trimmed, [], []⟩
theorem bd_trimmed : Z.Bd d_trimmed p_trimmed 1 [] (fun _ vs _ => vs) := Z.Bd.plain rfl rfl rfl (fun _ _ _ _ _ _ us hl => match us, hl with | [_], _ => rfl)
abbrev s_l_pot : Stmt := top 6
abbrev n_l_pot : List Str := ["_law_script", "_law_k", "_law_cell"]
abbrev p_l_pot : List Str := ["_law_script", "_law_k"]
theorem sc_l_pot : FnScope n_l_pot p_l_pot (defScope s_l_pot) := ⟨rfl, rfl, rfl, by decide +kernel, rfl, by decide +kernel, by decide +kernel⟩
def d_l_pot : He.DefD := ⟨("_law_pot", none), "_law_pot", "_law_pot", defArgs s_l_pot, defBody s_l_pot, defScope s_l_pot, [], []⟩
theorem bd_l_pot : Z.Bd d_l_pot p_l_pot 2 [] (fun _ vs _ => vs) := Z.Bd.plain rfl rfl rfl (fun _ _ _ _ _ _ us hl => match us, hl with | [_, _], _ => rfl)
abbrev s_l_digit : Stmt := top 7
abbrev n_l_digit : List Str := ["_law_pot_here", "_law_many", "_law_digit_here"]
abbrev p_l_digit : List Str := ["_law_pot_here", "_law_many"]
theorem sc_l_digit : FnScope n_l_digit p_l_digit (defScope s_l_digit) := ⟨rfl, rfl, rfl, by decide +kernel, rfl, by decide +kernel, by decide +kernel⟩
def d_l_digit : He.DefD := ⟨("_law_digit", none), "_law_digit", "_law_digit", defArgs s_l_digit, defBody s_l_digit, defScope s_l_digit, [], []⟩
theorem bd_l_digit : Z.Bd d_l_digit p_l_digit 2 [] (fun _ vs _ => vs) := Z.Bd.plain rfl rfl rfl (fun _ _ _ _ _ _ us hl => match us, hl with | [_, _], _ => rfl)
abbrev s_l_small : Stmt := top 8
abbrev n_l_small : List Str := ["_law_pot_here"]
abbrev p_l_small : List Str := ["_law_pot_here"]
theorem sc_l_small : FnScope n_l_small p_l_small (defScope s_l_small) := ⟨rfl, rfl, rfl, by decide +kernel, rfl, by decide +kernel, by decide +kernel⟩
def d_l_small : He.DefD := ⟨("_law_small", none), "_law_small", "_law_small", defArgs s_l_small, defBody s_l_small, defScope s_l_small, [], []⟩
theorem bd_l_small : Z.Bd d_l_small p_l_small 1 [] (fun _ vs _ => vs) := Z.Bd.plain rfl rfl rfl (fun _ _ _ _ _ _ us hl => match us, hl with | [_], _ => rfl)
abbrev s_l_number : Stmt := top 9
abbrev n_l_number : List Str := ["_law_pot_here"]
abbrev p_l_number : List Str := ["_law_pot_here"]
theorem sc_l_number : FnScope n_l_number p_l_number (defScope s_l_number) := ⟨rfl, rfl, rfl, by decide +kernel, rfl, by decide +kernel, by decide +kernel⟩
def d_l_number : He.DefD := ⟨("_law_number", none), "_law_number", "_law_number", defArgs s_l_number, defBody s_l_number, defScope s_l_number, [], []⟩
theorem bd_l_number : Z.Bd d_l_number p_l_number 1 [] (fun _ vs _ => vs) := Z.Bd.plain rfl rfl rfl (fun _ _ _ _ _ _ us hl => match us, hl with | [_], _ => rfl)
abbrev s_l_row : Stmt := top 11
abbrev n_l_row : List Str := ["_law_pot_here", "_law_found", "_law_k"]
abbrev p_l_row : List Str := ["_law_pot_here"]
theorem sc_l_row : FnScope n_l_row p_l_row (defScope s_l_row) := ⟨rfl, rfl, rfl, by decide +kernel, rfl, by decide +kernel, by decide +kernel⟩
def d_l_row : He.DefD := ⟨("_law_row", none), "_law_row", "_law_row", defArgs s_l_row, defBody s_l_row, defScope s_l_row, [], []⟩
theorem bd_l_row : Z.Bd d_l_row p_l_row 1 [] (fun _ vs _ => vs) := Z.Bd.plain rfl rfl rfl (fun _ _ _ _ _ _ us hl => match us, hl with | [_], _ => rfl)
abbrev s_l_second : Stmt := top 12
abbrev n_l_second : List Str := ["_law_pot_here", "_law_row_here", "_law_one"]
abbrev p_l_second : List Str := ["_law_pot_here", "_law_row_here"]
theorem sc_l_second : FnScope n_l_second p_l_second (defScope s_l_second) := ⟨rfl, rfl, rfl, by decide +kernel, rfl, by decide +kernel, by decide +kernel⟩
def d_l_second : He.DefD := ⟨("_law_second", none), "_law_second", "_law_second", defArgs s_l_second, defBody s_l_second, defScope s_l_second, [], []⟩
theorem bd_l_second : Z.Bd d_l_second p_l_second 2 [] (fun _ vs _ => vs) := Z.Bd.plain rfl rfl rfl (fun _ _ _ _ _ _ us hl => match us, hl with | [_, _], _ => rfl)
abbrev s_l_ended : Stmt := top 13
abbrev n_l_ended : List Str := ["_law_row_here"]
abbrev p_l_ended : List Str := ["_law_row_here"]
theorem sc_l_ended : FnScope n_l_ended p_l_ended (defScope s_l_ended) := ⟨rfl, rfl, rfl, by decide +kernel, rfl, by decide +kernel, by decide +kernel⟩
def d_l_ended : He.DefD := ⟨("_law_ended", none), "_law_ended", "_law_ended", defArgs s_l_ended, defBody s_l_ended, defScope s_l_ended, [], []⟩
theorem bd_l_ended : Z.Bd d_l_ended p_l_ended 1 [] (fun _ vs _ => vs) := Z.Bd.plain rfl rfl rfl (fun _ _ _ _ _ _ us hl => match us, hl with | [_], _ => rfl)
abbrev s_terms_of : Stmt := top 2
abbrev n_terms_of : List Str := ["row", "number", "power"]
abbrev p_terms_of : List Str := ["row"]
theorem sc_terms_of : FnScope n_terms_of p_terms_of (defScope s_terms_of) := ⟨rfl, rfl, rfl, by decide +kernel, rfl, by decide +kernel, by decide +kernel⟩
def d_terms_of : He.DefD := ⟨("terms_of", none), "terms_of", "terms_of", defArgs s_terms_of, defBody s_terms_of, defScope s_terms_of, [], []⟩
theorem bd_terms_of : Z.Bd d_terms_of p_terms_of 1 [] (fun _ vs _ => vs) := Z.Bd.plain rfl rfl rfl (fun _ _ _ _ _ _ us hl => match us, hl with | [_], _ => rfl)
abbrev s_added : Stmt := top 3
abbrev n_added : List Str := ["one", "other", "size", "longer", "a", "b"]
abbrev p_added : List Str := ["one", "other"]
theorem sc_added : FnScope n_added p_added (defScope s_added) := ⟨rfl, rfl, rfl, by decide +kernel, rfl, by decide +kernel, by decide +kernel⟩
def d_added : He.DefD := ⟨("added", none), "added", "added", defArgs s_added, defBody s_added, defScope s_added, [], []⟩
theorem bd_added : Z.Bd d_added p_added 2 [] (fun _ vs _ => vs) := Z.Bd.plain rfl rfl rfl (fun _ _ _ _ _ _ us hl => match us, hl with | [_, _], _ => rfl)
abbrev s_multiplied : Stmt := top 4
abbrev n_multiplied : List Str := ["one", "other", "found", "terms", "k", "a", "j", "b"]
abbrev p_multiplied : List Str := ["one", "other"]
theorem sc_multiplied : FnScope n_multiplied p_multiplied (defScope s_multiplied) := ⟨rfl, rfl, rfl, by decide +kernel, rfl, by decide +kernel, by decide +kernel⟩
def d_multiplied : He.DefD := ⟨("multiplied", none), "multiplied", "multiplied", defArgs s_multiplied, defBody s_multiplied, defScope s_multiplied, [], []⟩
theorem bd_multiplied : Z.Bd d_multiplied p_multiplied 2 [] (fun _ vs _ => vs) := Z.Bd.plain rfl rfl rfl (fun _ _ _ _ _ _ us hl => match us, hl with | [_, _], _ => rfl)
abbrev s_l_at : Stmt := top 14
abbrev n_l_at : List Str := ["_law_row_here", "_law_power"]
abbrev p_l_at : List Str := ["_law_row_here", "_law_power"]
theorem sc_l_at : FnScope n_l_at p_l_at (defScope s_l_at) := ⟨rfl, rfl, rfl, by decide +kernel, rfl, by decide +kernel, by decide +kernel⟩
def d_l_at : He.DefD := ⟨("_law_at", none), "_law_at", "_law_at", defArgs s_l_at, defBody s_l_at, defScope s_l_at, [], []⟩
theorem bd_l_at : Z.Bd d_l_at p_l_at 2 [] (fun _ vs _ => vs) := Z.Bd.plain rfl rfl rfl (fun _ _ _ _ _ _ us hl => match us, hl with | [_, _], _ => rfl)
abbrev s_l_sum : Stmt := top 15
abbrev n_l_sum : List Str := ["_law_one", "_law_other", "_law_k"]
abbrev p_l_sum : List Str := ["_law_one", "_law_other"]
theorem sc_l_sum : FnScope n_l_sum p_l_sum (defScope s_l_sum) := ⟨rfl, rfl, rfl, by decide +kernel, rfl, by decide +kernel, by decide +kernel⟩
def d_l_sum : He.DefD := ⟨("_law_sum", none), "_law_sum", "_law_sum", defArgs s_l_sum, defBody s_l_sum, defScope s_l_sum, [], []⟩
theorem bd_l_sum : Z.Bd d_l_sum p_l_sum 2 [] (fun _ vs _ => vs) := Z.Bd.plain rfl rfl rfl (fun _ _ _ _ _ _ us hl => match us, hl with | [_, _], _ => rfl)
abbrev s_l_product : Stmt := top 16
abbrev n_l_product : List Str := ["_law_one", "_law_other", "_law_found", "_law_k", "_law_j"]
abbrev p_l_product : List Str := ["_law_one", "_law_other"]
theorem sc_l_product : FnScope n_l_product p_l_product (defScope s_l_product) := ⟨rfl, rfl, rfl, by decide +kernel, rfl, by decide +kernel, by decide +kernel⟩
def d_l_product : He.DefD := ⟨("_law_product", none), "_law_product", "_law_product", defArgs s_l_product, defBody s_l_product, defScope s_l_product, [], []⟩
theorem bd_l_product : Z.Bd d_l_product p_l_product 2 [] (fun _ vs _ => vs) := Z.Bd.plain rfl rfl rfl (fun _ _ _ _ _ _ us hl => match us, hl with | [_, _], _ => rfl)
abbrev s_law : Stmt := top 17
abbrev n_law : List Str := ["_law_script", "_law_k", "_law_pot_here", "_law_one", "_law_other", "_law_shown", "_law_way", "_law_first", "_law_second_here", "_law_told", "_law_due", "_law_row_here"]
abbrev p_law : List Str := ["_law_script"]
theorem sc_law : FnScope n_law p_law (defScope s_law) := ⟨rfl, rfl, rfl, by decide +kernel, rfl, by decide +kernel, by decide +kernel⟩
def d_law : He.DefD := ⟨("law", none), "law", "law", defArgs s_law, defBody s_law, defScope s_law, [], []⟩
theorem bd_law : Z.Bd d_law p_law 1 [] (fun _ vs _ => vs) := Z.Bd.plain rfl rfl rfl (fun _ _ _ _ _ _ us hl => match us, hl with | [_], _ => rfl)
def fa : List He.Fa := [.free "len", .free "max", .free "divmod", .glo "_law_digit", .glo "_law_small", .free "range", .glo "_law_number", .glo "_law_row", .free "enumerate", .glo "trimmed", .free "zip", .glo "terms_of", .glo "_law_ended", .glo "_law_at", .free "sum", .free "min", .free "repr", .glo "multiplied", .glo "added", .free "all", .free "isinstance", .free "list", .glo "_law_product", .glo "_law_sum", .glo "_law_second", .glo "_law_pot", .glo "law"]
def dl : List He.DefD := [d_trimmed, d_l_pot, d_l_digit, d_l_small, d_l_number, d_l_row, d_l_second, d_l_ended, d_terms_of, d_added, d_multiplied, d_l_at, d_l_sum, d_l_product, d_law]
abbrev Ev (K : PySem.W.Frag) (mg : Str → Option Value) : Prop := Z.Ev fa dl K mg

/-! ### mathematics -/
/-- without the noughts at the end -/
def trim (ns : List Int) : List Int := (ns.reverse.dropWhile (· == 0)).reverse
theorem trim_snoc0 (ns : List Int) : trim (ns ++ [0]) = trim ns := by
  simp [trim]
theorem trim_snoc (ns : List Int) {a : Int} (h : a ≠ 0) : trim (ns ++ [a]) = ns ++ [a] := by
  simp [trim, List.dropWhile_cons, h]
theorem trim_le (ns : List Int) : (trim ns).length ≤ ns.length := by
  unfold trim
  rw [List.length_reverse]
  exact Nat.le_trans (List.dropWhile_sublist _).length_le (by rw [List.length_reverse]; exact Nat.le_refl _)
theorem take_trim (ns : List Int) : ∀ n, n ≤ ns.length → (n = 0 ∨ ∃ a, ns[n - 1]? = some a ∧ a ≠ 0) → trim (ns.take n) = ns.take n := by
  intro n hn h
  rcases h with rfl | ⟨a, e, ha⟩
  · rfl
  · cases n with
    | zero => rfl
    | succ m =>
      have em : ns.take (m + 1) = ns.take m ++ [a] := by
        rw [List.take_add_one]
        simp at e
        rw [e]; rfl
      rw [em, trim_snoc _ ha]
theorem trim_take0 (ns : List Int) {m : Nat} (e : ns[m]? = some 0) : trim (ns.take (m + 1)) = trim (ns.take m) := by
  have em : ns.take (m + 1) = ns.take m ++ [0] := by
    rw [List.take_add_one, e]; rfl
  rw [em, trim_snoc0]
theorem cut_to {α : Type} (xs : List α) {n : Nat} (h : n ≤ xs.length) : HT.sIx xs.length xs.length (some (n : Int)) = n := by
  rw [HT.sIx_nat]; omega
theorem cutV_to (xs : List V) {n : Nat} (h : n ≤ xs.length) : cutV xs none (some (n : Int)) = xs.take n := by
  unfold cutV
  rw [HT.sIx_none, HT.sIx_nat, Nat.min_eq_left h]
  simp
theorem atI_ints {ns : List Int} {j : Nat} {a : Int} (h : ns[j]? = some a) : atI (ns.map V.int) (j : Int) = some (.int a) := atI_nat (by rw [List.getElem?_map, h]; rfl)

def sp_trimmed (K : PySem.W.Frag) : Sp := fun vs H Q Ex => ∃ (p : Addr) (ns : List Int), vs = [.ref p] ∧ (H p = some (.lst (ns.map V.int))) ∧ (∀ q H', Z.New H q (.lst ((trim ns).map V.int)) H' → Q (.ref q) H')
theorem c_trimmed {K : PySem.W.Frag} {H : Hp} {Q : VK} {Ex : XK} {p : Addr} {ns : List Int} (h1 : H p = some (.lst (ns.map V.int))) (k : ∀ q H', Z.New H q (.lst ((trim ns).map V.int)) H' → Q (.ref q) H') : sp_trimmed K [.ref p] H Q Ex := ⟨p, ns, rfl, h1, k⟩
theorem ok_trimmed {g : Prop} {P : Program} {w : World} {K : PySem.W.Frag} {mg : Str → Option Value} {base : Heap} (E : Ev K mg) : Z.Pr g P w K mg base 1 (He.ga K "trimmed") d_trimmed p_trimmed (sp_trimmed K) := by
  obtain ⟨fd, FD⟩ := E.fn 0 (d := d_trimmed)
  refine ⟨fd, FD, Z.FunD.okG FD sc_trimmed (fun vs H Q Ex h => ?_) (fun cdv A outer s H vs Q Ex hr hgd h => ?_)⟩
  · obtain ⟨_, _, rfl, _⟩ := h
    rfl
  · have hu := hr.units
    obtain ⟨p, ns, rfl, h1, k⟩ := h
    refine ⟨_, (Z.zs_cons (Z.z_set (i := 1) sc_trimmed.nd rfl (Or.inl rfl) (pe_callB (Z.clenK K rfl) (by rfl) (E.free 0) (by decide +kernel) (pa_cons (pv 0) pa_nil)))
   (Z.zs_cons (Z.z_while (passes_of rfl) (PW.pt (pw_and (pt_cmpR op_gt (pv 1) pe_int (nomark _)) (pw_and1 (pt_cmpR (Z.opEqK K rfl hu) (pe_ix (Z.ixUK K rfl) (pv 0) (pe_op op_sub (pv 1) pe_int) (fun _ _ => rfl)) pe_int (nomark _)))))
   (Z.zs_one (Z.z_aug (i := 1) sc_trimmed.nd rfl (Or.inl rfl) pe_int ip_sub)))
   (Z.zs_one (Z.z_ret (pe_slice (Z.slUK K rfl) (pv 0) po_none (po_some (pv 1))))))), ?_⟩
    refine Z.i_start (σ := [some (.ref p), none]) rfl ?_
    try dsimp only [Z.cxK]
    k_call_by "zz" 0
    refine Z.i_while (fun σ H' => H' = H ∧ ∃ n : Nat, n ≤ ns.length ∧ σ = [some (.ref p), some (.int (n : Int))] ∧ trim (ns.take n) = trim ns) (fun σ _ => match σ with | [_, some (.int n)] => n.toNat | _ => 0) ?_ ?_
    · exact ⟨rfl, ns.length, Nat.le_refl _, rfl, by rw [List.take_length]⟩
    · rintro σ H' ⟨rfl, n, hn, rfl, ht⟩
      k_call_by "zz" 0
      refine Z.ite2' (fun hp => ?_) (fun hp => ?_)
      · k_call_by "zz" 0
        obtain ⟨m, rfl⟩ : ∃ m, n = m + 1 := ⟨n - 1, by omega⟩
        have hm : ns[m]? = some ns[m] := by simp
        rw [show ((m + 1 : Nat) : Int) - 1 = (m : Int) by omega]
        refine Z.i_ixL h1 (atI_ints hm) ?_
        k_call_by "zz" 0
        refine Z.ite2' (fun hz => ?_) (fun hz => ?_)
        · refine Z.i_body ?_
          k_call_by "zz" 0
          refine ⟨⟨rfl, m, by omega, by rw [show ((m + 1 : Nat) : Int) - 1 = (m : Int) by omega]; rfl, ?_⟩, ?_⟩
          · rw [← ht]
            exact (trim_take0 ns (by rw [hm, hz])).symm
          · show (((m + 1 : Nat) : Int) - 1).toNat < ((m + 1 : Nat) : Int).toNat
            omega
        · k_call_by "zz" 0
          intro q H' hN
          rw [cutV_to _ (by rw [List.length_map]; exact hn), ← List.map_take] at hN
          have e : trim ns = ns.take (m + 1) := by rw [← ht]; exact take_trim ns _ hn (.inr ⟨_, by simpa using hm, hz⟩)
          exact k q H' (e ▸ hN)
      · k_call_by "zz" 0
        obtain rfl : n = 0 := by omega
        k_call_by "zz" 0
        intro q H' hN
        rw [show ((0 : Nat) : Int) = ((0 : Nat) : Int) from rfl, cutV_to _ (Nat.zero_le _)] at hN
        have e : trim ns = [] := by rw [← ht]; rfl
        exact k q H' (by rw [e]; exact hN)

/-- a pot: what digits are left, and a number to mix -/
def Pot (H : Hp) (a : Addr) : Prop := ∃ x y : Int, H a = some (.lst [.int x, .int y]) ∧ 0 ≤ y ∧ y < 4294967296
theorem divW {i m : Int} (h : 0 < m) (b : m.natAbs < 2 ^ 250) : CDivW i m := wide_div h b (by decide) (by decide)
theorem divP {i m : Int} (h : 0 < m) (b : m.natAbs < 2 ^ 250) : CDivP i m := Z.divP h b (by decide) (by decide)

def sp_l_pot (K : PySem.W.Frag) : Sp := fun vs H Q Ex => ∃ (s0 : Addr) (ns : List Int) (i : Nat), vs = [.ref s0, .int (i : Int)] ∧ (SqL K H s0 (ns.map V.int)) ∧ (i < 64) ∧ (∀ p H', H p = none → Same H H' → Pot H' p → Q (.ref p) H')
theorem c_l_pot {K : PySem.W.Frag} {H : Hp} {Q : VK} {Ex : XK} {s0 : Addr} {ns : List Int} {i : Nat} (h1 : SqL K H s0 (ns.map V.int)) (h2 : i < 64) (k : ∀ p H', H p = none → Same H H' → Pot H' p → Q (.ref p) H') : sp_l_pot K [.ref s0, .int (i : Int)] H Q Ex := ⟨s0, ns, i, rfl, h1, h2, k⟩
theorem ok_l_pot {g : Prop} {P : Program} {w : World} {K : PySem.W.Frag} {mg : Str → Option Value} {base : Heap} (E : Ev K mg) : Z.Pr g P w K mg base 1 (He.ga K "_law_pot") d_l_pot p_l_pot (sp_l_pot K) := by
  obtain ⟨fd, FD⟩ := E.fn 1 (d := d_l_pot)
  refine ⟨fd, FD, Z.FunD.okG FD sc_l_pot (fun vs H Q Ex h => ?_) (fun cdv A outer s H vs Q Ex hr hgd h => ?_)⟩
  · obtain ⟨_, _, _, rfl, _⟩ := h
    rfl
  · have hu := hr.units
    obtain ⟨s0, ns, i, rfl, h1, h2, k⟩ := h
    refine ⟨_, (Z.zs_cons (Z.z_set (i := 2) sc_l_pot.nd rfl (Or.inl rfl) (pe_ifExp (pt_cmpR op_lt (pv 1) (pe_callB (Z.clenK K rfl) (by rfl) (E.free 0) (by decide +kernel) (pa_cons (pv 0) pa_nil)) (nomark _)) (pe_ix (Z.ixUK K rfl) (pv 0) (pv 1) (fun _ _ => rfl)) pe_int))
   (Z.zs_one (Z.z_ret (pe_lst (pa_cons (pe_callB (Z.cmax2 rfl) (by rfl) (E.free 1) (by decide +kernel) (pa_cons pe_int (pa_cons (pe_op op_sub (pv 2) (pe_op op_pow pe_int pe_int)) pa_nil))) (pa_cons (pe_op op_mod (pe_op (Z.opAddK K rfl) (pe_op (Z.opAddK K rfl) (pe_op Z.opMul (pe_op op_mod (pv 2) pe_int) pe_int) (pe_op Z.opMul pe_int (pv 1))) pe_int) pe_int) pa_nil)))))), ?_⟩
    refine Z.i_start (σ := [some (.ref s0), some (.int (i : Int)), none]) rfl ?_
    try dsimp only [Z.cxK]
    refine Z.i_seq (Z.i_asg (Z.i_ifEJ (fun c => ?_) fun Q' kq => ?_))
    · k_call_by "zz" 0
      intro p H' n
      exact k p H' n.fr n.same ⟨_, _, n.at, Int.emod_nonneg _ (by decide), Int.lt_trans (Int.emod_lt_of_pos _ (by decide)) (by decide)⟩
    · k_call_by "zz" 0
      refine Z.ite2' (fun hx => ?_) (fun hx => ?_)
      · k_call_by "zz" 0
        obtain ⟨z, hz⟩ : ∃ z, ns[i]? = some z := ⟨ns[i]'(by omega), by simp⟩
        refine Z.i_ixQ h1 (atI_ints hz) ?_
        exact kq z
      · k_call_by "zz" 0
        exact kq 0
def sp_l_digit (K : PySem.W.Frag) : Sp := fun vs H Q Ex => ∃ (a : Addr) (m : Int), vs = [.ref a, .int m] ∧ (Pot H a) ∧ (0 < m) ∧ (m.natAbs < 2 ^ 250) ∧ (∀ r H', 0 ≤ r → r < m → Pot H' a → Z.But a H H' → Q (.int r) H')
theorem c_l_digit {K : PySem.W.Frag} {H : Hp} {Q : VK} {Ex : XK} {a : Addr} {m : Int} (h1 : Pot H a) (h2 : 0 < m) (h3 : m.natAbs < 2 ^ 250) (k : ∀ r H', 0 ≤ r → r < m → Pot H' a → Z.But a H H' → Q (.int r) H') : sp_l_digit K [.ref a, .int m] H Q Ex := ⟨a, m, rfl, h1, h2, h3, k⟩
theorem ok_l_digit {g : Prop} {P : Program} {w : World} {K : PySem.W.Frag} {mg : Str → Option Value} {base : Heap} (E : Ev K mg) : Z.Pr g P w K mg base 1 (He.ga K "_law_digit") d_l_digit p_l_digit (sp_l_digit K) := by
  obtain ⟨fd, FD⟩ := E.fn 2 (d := d_l_digit)
  refine ⟨fd, FD, Z.FunD.okG FD sc_l_digit (fun vs H Q Ex h => ?_) (fun cdv A outer s H vs Q Ex hr hgd h => ?_)⟩
  · obtain ⟨_, _, rfl, _⟩ := h
    rfl
  · have hu := hr.units
    obtain ⟨a, m, rfl, h1, h2, h3, k⟩ := h
    refine ⟨_, (Z.zs_cons (Z.z_if (pt_cmpR op_gt (pe_ix (Z.ixUK K rfl) (pv 0) pe_int (fun _ _ => rfl)) pe_int (nomark _)) (Z.zs_cons (Z.z_asg (pe_callB Z.cdivmod (by rfl) (E.free 2) (by decide +kernel) (pa_cons (pe_ix (Z.ixUK K rfl) (pv 0) pe_int (fun _ _ => rfl)) (pa_cons (pv 1) pa_nil))) (pg_tup (n := 2) (by rfl) (pgs_cons (pg_sub (pv 0) pe_int set_list) (pgs_cons (pg_name (i := 2) sc_l_digit.nd rfl (Or.inl rfl)) pgs_nil))))
   (Z.zs_one (Z.z_ret (pv 2)))) Z.zs_nil)
   (Z.zs_cons (Z.z_asg (pe_op op_mod (pe_op (Z.opAddK K rfl) (pe_op Z.opMul (pe_ix (Z.ixUK K rfl) (pv 0) pe_int (fun _ _ => rfl)) pe_int) pe_int) pe_int) (pg_sub (pv 0) pe_int set_list))
   (Z.zs_one (Z.z_ret (pe_op op_mod (pe_op op_fdivW (pe_op op_mod (pe_op Z.opMul (pe_ix (Z.ixUK K rfl) (pv 0) pe_int (fun _ _ => rfl)) (pe_ix (Z.ixUK K rfl) (pv 0) pe_int (fun _ _ => rfl))) pe_int) pe_int) (pv 1)))))), ?_⟩
    refine Z.i_start (σ := [some (.ref a), some (.int m), none]) rfl ?_
    try dsimp only [Z.cxK]
    obtain ⟨x, y, hp, hy0, hy1⟩ := h1
    k_call_by "zz" 0
    refine Z.ite2' (fun hx => ?_) (fun hx => ?_)
    · k_call_by "zz" 0
      refine Z.i_divmod (divP h2 h3) ?_
      intro r H1 n1
      k_call_by "zz" 0
      intro H2 u2
      k_call_by "zz" 0
      exact k _ _ (Int.emod_nonneg _ (by omega)) (Int.emod_lt_of_pos _ h2) ⟨_, _, u2.at, hy0, hy1⟩ (by k_call_by "fr" 0)
    · k_call_by "zz" 0
      intro H2 u2
      have e0 : 0 ≤ (y * 40487 + 12289) % 2147483629 := Int.emod_nonneg _ (by decide)
      have e1 : (y * 40487 + 12289) % 2147483629 < 2147483629 := Int.emod_lt_of_pos _ (by decide)
      k_call_by "zz" 0
      exact k _ _ (Int.emod_nonneg _ (by omega)) (Int.emod_lt_of_pos _ h2) ⟨_, _, u2.at, e0, by omega⟩ (by k_call_by "fr" 0)
def sp_l_small (K : PySem.W.Frag) : Sp := fun vs H Q Ex => ∃ (a : Addr), vs = [.ref a] ∧ (Pot H a) ∧ (∀ r H', -9 ≤ r → r ≤ 9 → Pot H' a → Z.But a H H' → Q (.int r) H')
theorem c_l_small {K : PySem.W.Frag} {H : Hp} {Q : VK} {Ex : XK} {a : Addr} (h1 : Pot H a) (k : ∀ r H', -9 ≤ r → r ≤ 9 → Pot H' a → Z.But a H H' → Q (.int r) H') : sp_l_small K [.ref a] H Q Ex := ⟨a, rfl, h1, k⟩
theorem ok_l_small {g : Prop} {P : Program} {w : World} {K : PySem.W.Frag} {mg : Str → Option Value} {base : Heap} (E : Ev K mg) : Z.Pr g P w K mg base 2 (He.ga K "_law_small") d_l_small p_l_small (sp_l_small K) := by
  obtain ⟨fd, FD⟩ := E.fn 3 (d := d_l_small)
  refine ⟨fd, FD, Z.FunD.okG FD sc_l_small (fun vs H Q Ex h => ?_) (fun cdv A outer s H vs Q Ex hr hgd h => ?_)⟩
  · obtain ⟨_, rfl, _⟩ := h
    rfl
  · have hu := hr.units
    obtain ⟨a, rfl, h1, k⟩ := h
    have F_l_digit := ok_l_digit (g := g) (P := P) (w := w) (base := base) E
    refine ⟨_, (Z.zs_one (Z.z_ret (pe_op op_sub (Z.pe_f F_l_digit (hr.mono (by decide)) hgd (by rfl) (E.glo 3) bd_l_digit passL (pa_cons (pv 0) (pa_cons pe_int pa_nil))) pe_int))), ?_⟩
    refine Z.i_start (σ := [some (.ref a)]) rfl ?_
    try dsimp only [Z.cxK]
    k_call_by "zz" 0
    refine c_l_digit h1 (by decide) (by decide) fun r H' r0 r1 p b => ?_
    k_call_by "zz" 0
    exact k _ _ (by omega) (by omega) p b

/-- a number that the laws draw -/
def Num (r : Int) : Prop := r.natAbs < 2 ^ 200
theorem num_of {r : Int} (h : -1000000 ≤ r ∧ r ≤ 1000000) : Num r := by
  unfold Num
  have : r.natAbs ≤ 1000000 := by omega
  exact Nat.lt_of_le_of_lt this (by decide)

def sp_l_number (K : PySem.W.Frag) : Sp := fun vs H Q Ex => ∃ (a : Addr), vs = [.ref a] ∧ (Pot H a) ∧ (∀ r H', Num r → Pot H' a → Z.But a H H' → Q (.int r) H')
theorem c_l_number {K : PySem.W.Frag} {H : Hp} {Q : VK} {Ex : XK} {a : Addr} (h1 : Pot H a) (k : ∀ r H', Num r → Pot H' a → Z.But a H H' → Q (.int r) H') : sp_l_number K [.ref a] H Q Ex := ⟨a, rfl, h1, k⟩
theorem ok_l_number {g : Prop} {P : Program} {w : World} {K : PySem.W.Frag} {mg : Str → Option Value} {base : Heap} (E : Ev K mg) : Z.Pr g P w K mg base 3 (He.ga K "_law_number") d_l_number p_l_number (sp_l_number K) := by
  obtain ⟨fd, FD⟩ := E.fn 4 (d := d_l_number)
  refine ⟨fd, FD, Z.FunD.okG FD sc_l_number (fun vs H Q Ex h => ?_) (fun cdv A outer s H vs Q Ex hr hgd h => ?_)⟩
  · obtain ⟨_, rfl, _⟩ := h
    rfl
  · have hu := hr.units
    obtain ⟨a, rfl, h1, k⟩ := h
    have F_l_digit := ok_l_digit (g := g) (P := P) (w := w) (base := base) E
    have F_l_small := ok_l_small (g := g) (P := P) (w := w) (base := base) E
    refine ⟨_, (Z.zs_cons (Z.z_if (pt_cmpR (Z.opEqK K rfl hu) (Z.pe_f F_l_digit (hr.mono (by decide)) hgd (by rfl) (E.glo 3) bd_l_digit passL (pa_cons (pv 0) (pa_cons pe_int pa_nil))) pe_int (nomark _)) (Z.zs_one (Z.z_ret (pe_op (Z.opAddK K rfl) (pe_op op_sub (Z.pe_f F_l_digit (hr.mono (by decide)) hgd (by rfl) (E.glo 3) bd_l_digit passL (pa_cons (pv 0) (pa_cons (pe_op op_sub (pe_op Z.opMul pe_int (pe_op op_pow pe_int pe_int)) pe_int) pa_nil))) (pe_op op_pow pe_int pe_int)) pe_int))) Z.zs_nil)
   (Z.zs_one (Z.z_ret (Z.pe_f F_l_small (hr.mono (by decide)) hgd (by rfl) (E.glo 4) bd_l_small passL (pa_cons (pv 0) pa_nil))))), ?_⟩
    refine Z.i_start (σ := [some (.ref a)]) rfl ?_
    try dsimp only [Z.cxK]
    k_call_by "zz" 0
    refine c_l_digit h1 (by decide) (by decide) fun r H' r0 r1 p b => ?_
    k_call_by "zz" 0
    refine Z.ite2' (fun hx => ?_) (fun hx => ?_)
    · k_call_by "zz" 0
      refine c_l_digit p (by decide) (by decide) fun q H2 q0 q1 p2 b2 => ?_
      k_call_by "zz" 0
      refine k _ _ ?_ p2 (by k_call_by "fr" 0)
      have e : ((2 * (10:Int) ^ (Int.toNat 60) - 1)) = 1999999999999999999999999999999999999999999999999999999999999 := by decide
      rw [e] at q1
      have e2 : (10:Int) ^ (Int.toNat 60) = 1000000000000000000000000000000000000000000000000000000000000 := by decide
      rw [e2]
      have : (q - 1000000000000000000000000000000000000000000000000000000000000 + 1).natAbs ≤ 1000000000000000000000000000000000000000000000000000000000000 := by omega
      exact Nat.lt_of_le_of_lt this (by decide)
    · k_call_by "zz" 0
      refine c_l_small p fun q H2 q0 q1 p2 b2 => ?_
      exact k _ _ (num_of (by omega)) p2 (by k_call_by "fr" 0)

theorem Pot.ne {H : Hp} {a D : Addr} (p : Pot H a) (f : H D = none) : D ≠ a := by
  obtain ⟨x, y, h, _⟩ := p
  exact (L2.ne_of_none h f).symm
theorem Pot.mono {H H' : Hp} {a : Addr} (p : Pot H a) (s : Same H H') : Pot H' a := by
  obtain ⟨x, y, h, q⟩ := p
  exact ⟨x, y, s _ _ h, q⟩
theorem Pot.up {H H' : Hp} {a D : Addr} {o : HO} (p : Pot H a) (u : Z.Up H D o H') (ne : a ≠ D) : Pot H' a := by
  obtain ⟨x, y, h, q⟩ := p
  exact ⟨x, y, u.get ne h, q⟩
theorem atI_neg1 {ns : List Int} (h : ns ≠ []) : atI (ns.map V.int) (-1) = some (.int (ns.getLast h)) := by
  obtain ⟨ms, a, rfl⟩ : ∃ ms a, ns = ms ++ [a] := ⟨ns.dropLast, ns.getLast h, (List.dropLast_concat_getLast h).symm⟩
  rw [show (ms ++ [a]).getLast h = a by simp, List.map_append]
  exact atI_last _ _
theorem trim_last {ns : List Int} (h : ns ≠ []) (z : ns.getLast h ≠ 0) : trim ns = ns := by
  obtain ⟨ms, a, rfl⟩ : ∃ ms a, ns = ms ++ [a] := ⟨ns.dropLast, ns.getLast h, (List.dropLast_concat_getLast h).symm⟩
  rw [show (ms ++ [a]).getLast h = a by simp] at z
  exact trim_snoc _ z
theorem set_last (ms : List Int) (a b : Int) : ixN ((ms ++ [a]).map V.int).length (-1) = some ms.length ∧ ((ms ++ [a]).map V.int).set ms.length (.int b) = (ms ++ [b]).map V.int := by
  constructor
  · unfold ixN
    rw [if_neg (by decide), if_pos (by rw [List.length_map, List.length_append, List.length_singleton]; omega)]
    rw [List.length_map, List.length_append, List.length_singleton]
    exact congrArg some (by omega)
  · rw [List.map_append, List.map_append]
    simp

def sp_l_row (K : PySem.W.Frag) : Sp := fun vs H Q Ex => ∃ (a : Addr), vs = [.ref a] ∧ (Pot H a) ∧ (∀ p ns H', H p = none → H' p = some (.lst (ns.map V.int)) → (∀ n ∈ ns, Num n) → ns.length ≤ 8 → trim ns = ns → Pot H' a → Z.But a H H' → Q (.ref p) H')
theorem c_l_row {K : PySem.W.Frag} {H : Hp} {Q : VK} {Ex : XK} {a : Addr} (h1 : Pot H a) (k : ∀ p ns H', H p = none → H' p = some (.lst (ns.map V.int)) → (∀ n ∈ ns, Num n) → ns.length ≤ 8 → trim ns = ns → Pot H' a → Z.But a H H' → Q (.ref p) H') : sp_l_row K [.ref a] H Q Ex := ⟨a, rfl, h1, k⟩
theorem ok_l_row {g : Prop} {P : Program} {w : World} {K : PySem.W.Frag} {mg : Str → Option Value} {base : Heap} (E : Ev K mg) : Z.Pr g P w K mg base 4 (He.ga K "_law_row") d_l_row p_l_row (sp_l_row K) := by
  obtain ⟨fd, FD⟩ := E.fn 5 (d := d_l_row)
  refine ⟨fd, FD, Z.FunD.okG FD sc_l_row (fun vs H Q Ex h => ?_) (fun cdv A outer s H vs Q Ex hr hgd h => ?_)⟩
  · obtain ⟨_, rfl, _⟩ := h
    rfl
  · have hu := hr.units
    obtain ⟨a, rfl, h1, k⟩ := h
    have F_l_digit := ok_l_digit (g := g) (P := P) (w := w) (base := base) E
    have F_l_number := ok_l_number (g := g) (P := P) (w := w) (base := base) E
    refine ⟨_, (Z.zs_cons (Z.z_setLc (i := 1) (own := [("_law_k", 2)]) (g := gName 2) rfl sc_l_row.nd rfl rfl (sw_true rfl rfl rfl (by decide +kernel)) (pi_range1 (by rfl) (E.free 5) (pa_cons (Z.pe_f F_l_digit (hr.mono (by decide)) hgd (by rfl) (E.glo 3) bd_l_digit passL (pa_cons (pv 0) (pa_cons pe_int pa_nil))) pa_nil)) (blkOk_by (own := [("_law_k", 2)]) (N := n_l_row) (sc := (defScope s_l_row)) (by decide +kernel)) (fun _ _ _ _ _ => (pg_name (i := 2) sc_l_row.nd rfl (Or.inl rfl))) (fun _ _ _ _ _ => pts_nil) (fun _ _ _ _ _ => (Z.pe_f F_l_number (hr.mono (by decide)) hgd (by rfl) (E.glo 6) bd_l_number passL (pa_cons (pv 0) pa_nil))))
   (Z.zs_cons (Z.z_if (PW.pt (pw_and (pt_cmpR (Z.opNeK K rfl hu) (pv 1) (pe_lst pa_nil) (nomark _)) (pw_and1 (pt_cmpR (Z.opEqK K rfl hu) (pe_ix (Z.ixUK K rfl) (pv 1) (pe_un un_neg pe_int) (fun _ _ => rfl)) pe_int (nomark _))))) (Z.zs_one (Z.z_asg (pe_op (Z.opAddK K rfl) pe_int (Z.pe_f F_l_digit (hr.mono (by decide)) hgd (by rfl) (E.glo 3) bd_l_digit passL (pa_cons (pv 0) (pa_cons pe_int pa_nil)))) (pg_sub (pv 1) (pe_un un_neg pe_int) set_list))) Z.zs_nil)
   (Z.zs_one (Z.z_ret (pv 1))))), ?_⟩
    refine Z.i_start (σ := [some (.ref a), none, none]) rfl ?_
    try dsimp only [Z.cxK]
    k_call_by "zz" 0
    refine c_l_digit h1 (by decide) (by decide) fun r H1 r0 r1 p b => ?_
    k_call_by "zz" 0
    refine Z.i_rng1I (by omega) (by omega) ?_
    refine Z.comp_range (fun i acc H2 => ∃ ns : List Int, acc = ns.map V.int ∧ (∀ n ∈ ns, Num n) ∧ ns.length = i ∧ Pot H2 a ∧ Z.But a H1 H2) ?_ ?_ ?_
    · intro D H2 n
      exact ⟨[], rfl, fun n z => (by cases z), rfl, p.mono n.same, by k_call_by "fr" 0⟩
    · rintro D i acc H2 fD hi hD ⟨ns, rfl, hns, hl, p2, b2⟩
      have ne := p.ne fD
      k_call_by "zz" 0
      refine c_l_number p2 fun q H3 q0 p3 b3 => ?_
      have hD3 : H3 D = some (.lst (ns.map V.int)) := b3.get ne hD
      refine Z.i_end hD3 (by rw [List.length_map, sizeLine_eq]; omega) fun H4 u => ⟨ns ++ [q], by rw [List.map_append]; rfl, ?_, by rw [List.length_append, hl]; rfl, p3.up u ne.symm, by k_call_by "fr" 0⟩
      intro n hn
      rcases List.mem_append.mp hn with z | z
      · exact hns n z
      · rw [List.mem_singleton.mp z]
        exact q0
    · rintro D acc H2 fD hD ⟨ns, rfl, hns, hl, p2, b2⟩
      have ne := p.ne fD
      have fD0 : H D = none := b.free fD ne
      k_call_by "zz" 0
      intro e H3 n3
      refine Z.i_neLI (ns := ns) (ms := []) (by k_call_by "hf" 0) n3.at ?_
      k_call_by "zz" 0
      refine Z.iten' (fun hne => ?_) (fun he => ?_)
      · k_call_by "zz" 0
        refine Z.i_ixL (by k_call_by "hf" 0) (atI_neg1 hne) ?_
        k_call_by "zz" 0
        refine Z.ite2' (fun hz => ?_) (fun hz => ?_)
        · k_call_by "zz" 0
          refine c_l_digit (p2.mono n3.same) (by decide) (by decide) fun z H4 z0 z1 p4 b4 => ?_
          k_call_by "zz" 0
          obtain ⟨ms, x, rfl⟩ : ∃ ms x, ns = ms ++ [x] := ⟨ns.dropLast, ns.getLast hne, (List.dropLast_concat_getLast hne).symm⟩
          obtain ⟨e1, e2⟩ := set_last ms x (1 + z)
          have hD4 : H4 D = some (.lst ((ms ++ [x]).map V.int)) := b4.get ne (n3.get hD)
          refine Z.i_setL hD4 e1 fun H5 u5 => ?_
          rw [e2] at u5
          k_call_by "zz" 0
          refine k D (ms ++ [1 + z]) H5 fD0 u5.at ?_ (by rw [List.length_append] at hl ⊢; simp at hl ⊢; omega) (trim_snoc _ (by omega)) (p4.up u5 ne.symm) ?_
          · intro n hn
            rcases List.mem_append.mp hn with z | z
            · exact hns n (List.mem_append_left _ z)
            · rw [List.mem_singleton.mp z]
              exact num_of (by omega)
          · exact Z.fb_upn u5 (by k_call_by "fr" 0) fD0
        · k_call_by "zz" 0
          exact k D ns H3 fD0 (n3.get hD) hns (by omega) (trim_last hne hz) (p2.mono n3.same) (by k_call_by "fr" 0)
      · subst he
        k_call_by "zz" 0
        exact k D [] H3 fD0 (n3.get hD) hns (Nat.zero_le _) rfl (p2.mono n3.same) (by k_call_by "fr" 0)

theorem trim_iff (ns : List Int) : trim ns = ns ↔ ns.getLast? ≠ some 0 := by
  rcases List.eq_nil_or_concat ns with rfl | ⟨ms, a, rfl⟩
  · simp [trim]
  · rw [List.concat_eq_append]
    by_cases h : a = 0
    · subst h
      rw [trim_snoc0]
      constructor
      · intro e
        have l := congrArg List.length e
        have := trim_le ms
        rw [List.length_append, List.length_singleton] at l
        omega
      · simp
    · rw [trim_snoc _ h]
      simp [h]
theorem last_abs {ns ms : List Int} (h : ms.map Int.natAbs = ns.map Int.natAbs) (t : trim ns = ns) : trim ms = ms := by
  rw [trim_iff] at t ⊢
  intro e
  apply t
  have e1 : (ms.map Int.natAbs).getLast? = some 0 := by rw [List.getLast?_map, e]; rfl
  rw [h, List.getLast?_map] at e1
  cases e2 : ns.getLast? with
  | none => rw [e2] at e1; cases e1
  | some z =>
    rw [e2] at e1
    have : z.natAbs = 0 := Option.some.inj e1
    rw [show z = 0 by omega]
theorem map_take_succ {α β : Type} (f : α → β) {xs : List α} {i : Nat} {x : α} (h : xs[i]? = some x) : (xs.take (i + 1)).map f = (xs.take i).map f ++ [f x] := by
  rw [List.take_add_one, h, List.map_append]; rfl
theorem ints_at {ns : List Int} {i : Nat} {v : V} (h : (ns.map V.int)[i]? = some v) : ∃ z, ns[i]? = some z ∧ v = .int z := by
  rw [List.getElem?_map] at h
  cases e : ns[i]? with
  | none => rw [e] at h; cases h
  | some z => rw [e] at h; exact ⟨z, rfl, (Option.some.inj h).symm⟩
theorem pick3 {x y z : Int} {r : Int} (h0 : 0 ≤ r) (h1 : r < 3) : ∃ v, atI [V.int x, V.int y, V.int z] r = some (.int v) ∧ (v = x ∨ v = y ∨ v = z) := by
  obtain rfl | rfl | rfl : r = 0 ∨ r = 1 ∨ r = 2 := by omega
  · exact ⟨x, rfl, .inl rfl⟩
  · exact ⟨y, rfl, .inr (.inl rfl)⟩
  · exact ⟨z, rfl, .inr (.inr rfl)⟩

def sp_l_second (K : PySem.W.Frag) : Sp := fun vs H Q Ex => ∃ (a p0 : Addr) (ns : List Int), vs = [.ref a, .ref p0] ∧ (Pot H a) ∧ (H p0 = some (.lst (ns.map V.int))) ∧ (p0 ≠ a) ∧ (∀ n ∈ ns, Num n) ∧ (ns.length ≤ 8) ∧ (trim ns = ns) ∧ (∀ p ms H', H p = none → H' p = some (.lst (ms.map V.int)) → (∀ n ∈ ms, Num n) → ms.length ≤ 8 → trim ms = ms → Pot H' a → Z.But a H H' → Q (.ref p) H')
theorem c_l_second {K : PySem.W.Frag} {H : Hp} {Q : VK} {Ex : XK} {a p0 : Addr} {ns : List Int} (h1 : Pot H a) (h2 : H p0 = some (.lst (ns.map V.int))) (h3 : p0 ≠ a) (h4 : ∀ n ∈ ns, Num n) (h5 : ns.length ≤ 8) (h6 : trim ns = ns) (k : ∀ p ms H', H p = none → H' p = some (.lst (ms.map V.int)) → (∀ n ∈ ms, Num n) → ms.length ≤ 8 → trim ms = ms → Pot H' a → Z.But a H H' → Q (.ref p) H') : sp_l_second K [.ref a, .ref p0] H Q Ex := ⟨a, p0, ns, rfl, h1, h2, h3, h4, h5, h6, k⟩
theorem ok_l_second {g : Prop} {P : Program} {w : World} {K : PySem.W.Frag} {mg : Str → Option Value} {base : Heap} (E : Ev K mg) : Z.Pr g P w K mg base 5 (He.ga K "_law_second") d_l_second p_l_second (sp_l_second K) := by
  obtain ⟨fd, FD⟩ := E.fn 6 (d := d_l_second)
  refine ⟨fd, FD, Z.FunD.okG FD sc_l_second (fun vs H Q Ex h => ?_) (fun cdv A outer s H vs Q Ex hr hgd h => ?_)⟩
  · obtain ⟨_, _, _, rfl, _⟩ := h
    rfl
  · have hu := hr.units
    obtain ⟨a, p0, ns, rfl, h1, h2, h3, h4, h5, h6, k⟩ := h
    have F_l_digit := ok_l_digit (g := g) (P := P) (w := w) (base := base) E
    have F_l_row := ok_l_row (g := g) (P := P) (w := w) (base := base) E
    refine ⟨_, (Z.zs_cons (Z.z_if (pt_cmpR (Z.opEqK K rfl hu) (Z.pe_f F_l_digit (hr.mono (by decide)) hgd (by rfl) (E.glo 3) bd_l_digit passL (pa_cons (pv 0) (pa_cons pe_int pa_nil))) pe_int (nomark _)) (Z.zs_one (Z.z_ret (Z.pe_f F_l_row (hr.mono (by decide)) hgd (by rfl) (E.glo 7) bd_l_row passL (pa_cons (pv 0) pa_nil)))) Z.zs_nil)
   (Z.zs_one (Z.z_ret (pe_lc (own := [("_law_one", 2)]) (g := gName 2) rfl sc_l_second.nd (pi_list (pv 1)) (blkOk_by (own := [("_law_one", 2)]) (N := n_l_second) (sc := (defScope s_l_second)) (by decide +kernel)) (fun _ _ _ _ _ => (pg_name (i := 2) sc_l_second.nd rfl (Or.inl rfl))) (fun _ _ _ _ _ => pts_nil) (fun _ _ _ _ _ => (pe_ix (Z.ixUK K rfl) (pe_lst (pa_cons (pe_un un_neg (pv 2)) (pa_cons (pv 2) (pa_cons (pe_un un_neg (pv 2)) pa_nil)))) (Z.pe_f F_l_digit (hr.mono (by decide)) hgd (by rfl) (E.glo 3) bd_l_digit passL (pa_cons (pv 0) (pa_cons pe_int pa_nil))) (fun _ _ => rfl))))))), ?_⟩
    refine Z.i_start (σ := [some (.ref a), some (.ref p0), none]) rfl ?_
    try dsimp only [Z.cxK]
    k_call_by "zz" 0
    refine c_l_digit h1 (by decide) (by decide) fun r H1 r0 r1 pt b => ?_
    k_call_by "zz" 0
    refine Z.ite2' (fun hz => ?_) (fun hz => ?_)
    · k_call_by "zz" 0
      refine c_l_row pt fun p ms H2 f1 e1 e2 e3 e4 e5 e6 => ?_
      refine k p ms H2 (b.free f1 (pt.ne f1)) e1 e2 e3 e4 e5 (by k_call_by "fr" 0)
    · k_call_by "zz" 0
      refine Z.comp_list (xs := ns.map V.int) (fun i acc H2 => ∃ ms : List Int, acc = ms.map V.int ∧ ms.map Int.natAbs = (ns.take i).map Int.natAbs ∧ Pot H2 a ∧ Z.But a H1 H2) ?_ ?_ ?_ ?_
      · intro D H2 n
        exact ⟨[], rfl, rfl, pt.mono n.same, by k_call_by "fr" 0⟩
      · rintro i acc H2 hi ⟨ms, rfl, he, p2, b2⟩
        k_call_by "hq" 0
      · rintro D i acc v H2 fD hi hD ⟨ms, rfl, he, p2, b2⟩
        obtain ⟨z, hz1, rfl⟩ := ints_at hi
        have ne := pt.ne fD
        k_call_by "zz" 0
        intro e H3 n3
        have nea := p2.ne n3.fr
        k_call_by "zz" 0
        refine c_l_digit (p2.mono n3.same) (by decide) (by decide) fun q H4 q0 q1 p4 b4 => ?_
        obtain ⟨v, hv, hw⟩ := pick3 (x := -z) (y := z) (z := -z) q0 q1
        refine Z.i_ixL (by k_call_by "hf" 0) hv ?_
        have hl : ms.length = i := by
          have l := congrArg List.length he
          have := (List.getElem?_eq_some_iff.mp hz1).1
          rw [List.length_map, List.length_map, List.length_take] at l
          omega
        refine Z.i_end (by k_call_by "hf" 0) (by rw [List.length_map, sizeLine_eq]; have := (List.getElem?_eq_some_iff.mp hz1).1; omega) fun H5 u => ⟨ms ++ [v], by rw [List.map_append]; rfl, ?_, p4.up u ne.symm, by k_call_by "fr" 0⟩
        rw [List.map_append, map_take_succ _ hz1, he]
        congr 1
        show [v.natAbs] = [z.natAbs]
        rcases hw with rfl | rfl | rfl <;> simp
      · rintro D acc H2 fD hD ⟨ms, rfl, he, p2, b2⟩
        rw [List.length_map, List.take_length] at he
        have hl := congrArg List.length he
        rw [List.length_map, List.length_map] at hl
        refine k D ms H2 (b.free fD (pt.ne fD)) hD (fun n hn => ?_) (by omega) (last_abs he h6) p2 (by k_call_by "fr" 0)
        have : n.natAbs ∈ ns.map Int.natAbs := he ▸ List.mem_map_of_mem hn
        obtain ⟨m, hm, e⟩ := List.mem_map.mp this
        unfold Num
        rw [← e]
        exact h4 m hm
def sp_l_ended (K : PySem.W.Frag) : Sp := fun vs H Q Ex => ∃ (p : Addr) (ns : List Int), vs = [.ref p] ∧ (H p = some (.lst (ns.map V.int))) ∧ (ns.length ≤ 1000) ∧ (∀ q H', (q = p ∨ H q = none) → Same H H' → H' q = some (.lst ((trim ns).map V.int)) → Q (.ref q) H')
theorem c_l_ended {K : PySem.W.Frag} {H : Hp} {Q : VK} {Ex : XK} {p : Addr} {ns : List Int} (h1 : H p = some (.lst (ns.map V.int))) (h2 : ns.length ≤ 1000) (k : ∀ q H', (q = p ∨ H q = none) → Same H H' → H' q = some (.lst ((trim ns).map V.int)) → Q (.ref q) H') : sp_l_ended K [.ref p] H Q Ex := ⟨p, ns, rfl, h1, h2, k⟩
theorem ok_l_ended {g : Prop} {P : Program} {w : World} {K : PySem.W.Frag} {mg : Str → Option Value} {base : Heap} (E : Ev K mg) : Z.Pr g P w K mg base 1 (He.ga K "_law_ended") d_l_ended p_l_ended (sp_l_ended K) := by
  obtain ⟨fd, FD⟩ := E.fn 7 (d := d_l_ended)
  refine ⟨fd, FD, Z.FunD.okG FD sc_l_ended (fun vs H Q Ex h => ?_) (fun cdv A outer s H vs Q Ex hr hgd h => ?_)⟩
  · obtain ⟨_, _, rfl, _⟩ := h
    rfl
  · have hu := hr.units
    obtain ⟨p, ns, rfl, h1, h2, k⟩ := h
    refine ⟨_, (Z.zs_cons (Z.z_while (passes_of rfl) (PW.pt (pw_and (pt_cmpR (Z.opNeK K rfl hu) (pv 0) (pe_lst pa_nil) (nomark _)) (pw_and1 (pt_cmpR (Z.opEqK K rfl hu) (pe_ix (Z.ixUK K rfl) (pv 0) (pe_un un_neg pe_int) (fun _ _ => rfl)) pe_int (nomark _)))))
   (Z.zs_one (Z.z_set (i := 0) sc_l_ended.nd rfl (Or.inl rfl) (pe_slice (Z.slUK K rfl) (pv 0) po_none (po_some (pe_un un_neg pe_int))))))
   (Z.zs_one (Z.z_ret (pv 0)))), ?_⟩
    refine Z.i_start (σ := [some (.ref p)]) rfl ?_
    try dsimp only [Z.cxK]
    k_call_by "zz" 0
    refine Z.i_while (fun σ H' => Same H H' ∧ ∃ (q : Addr) (ms : List Int), (q = p ∨ H q = none) ∧ σ = [some (.ref q)] ∧ H' q = some (.lst (ms.map V.int)) ∧ trim ms = trim ns ∧ ms.length ≤ 1000)
      (fun σ H' => match σ with | [some (.ref q)] => (match H' q with | some (.lst xs) => xs.length | _ => 0) | _ => 0) ?_ ?_
    · exact ⟨Same.refl _, p, ns, .inl rfl, rfl, h1, rfl, h2⟩
    · rintro σ H' ⟨s, q, ms, fq, rfl, hq, ht, hl⟩
      k_call_by "zz" 0
      intro e H1 n1
      refine Z.i_neLI (ns := ms) (ms := []) (by k_call_by "hf" 0) n1.at ?_
      k_call_by "zz" 0
      refine Z.iten' (fun hne => ?_) (fun he => ?_)
      · k_call_by "zz" 0
        refine Z.i_ixL (by k_call_by "hf" 0) (atI_neg1 hne) ?_
        k_call_by "zz" 0
        refine Z.ite2' (fun hz => ?_) (fun hz => ?_)
        · refine Z.i_body ?_
          k_call_by "zz" 0
          intro r H2 n2
          k_call_by "zz" 0
          obtain ⟨ks, x, rfl⟩ : ∃ ks x, ms = ks ++ [x] := ⟨ms.dropLast, ms.getLast hne, (List.dropLast_concat_getLast hne).symm⟩
          rw [show (ks ++ [x]).getLast hne = x by simp] at hz
          have e1 : cutV ((ks ++ [x]).map V.int) none (some (-1)) = ks.map V.int := by
            unfold cutV
            rw [HT.sIx_none]
            have : HT.sIx ((ks ++ [x]).map V.int).length ((ks ++ [x]).map V.int).length (some (-1)) = ks.length := by
              unfold HT.sIx
              simp
              omega
            rw [this, List.map_append]
            simp
          rw [e1] at n2
          refine ⟨⟨by k_call_by "fr" 0, r, ks, .inr (by k_call_by "fh" 0), rfl, n2.at, ?_, by rw [List.length_append] at hl; simp at hl; omega⟩, ?_⟩
          · rw [← ht, hz, trim_snoc0]
          · show (match H2 r with | some (.lst xs) => xs.length | _ => 0) < (match H' q with | some (.lst xs) => xs.length | _ => 0)
            rw [n2.at, hq]
            show (ks.map V.int).length < ((ks ++ [x]).map V.int).length
            simp
        · k_call_by "zz" 0
          have e : trim ns = ms := by rw [← ht]; exact trim_last hne hz
          exact k q H1 fq (by k_call_by "fr" 0) (by rw [e]; exact n1.get hq)
      · subst he
        k_call_by "zz" 0
        exact k q H1 fq (by k_call_by "fr" 0) (by rw [← ht]; exact n1.get hq)

/-- the number of a power -/
def at_ (xs : List Int) (k : Nat) : Int := (xs[k]?).getD 0
def sumTo (n : Nat) (f : Nat → Int) : Int := ((List.range n).map f).sum
theorem sumTo_succ (n : Nat) (f : Nat → Int) : sumTo (n + 1) f = sumTo n f + f n := by
  unfold sumTo
  rw [List.range_succ, List.map_append, List.sum_append]
  simp
theorem sumTo_zero (f : Nat → Int) : sumTo 0 f = 0 := rfl
theorem sumTo_congr {n : Nat} {f g : Nat → Int} (h : ∀ i, i < n → f i = g i) : sumTo n f = sumTo n g := by
  induction n with
  | zero => rfl
  | succ n ih => rw [sumTo_succ, sumTo_succ, ih (fun i hi => h i (by omega)), h n (by omega)]
theorem sumTo_add (n : Nat) (f g : Nat → Int) : sumTo n (fun i => f i + g i) = sumTo n f + sumTo n g := by
  induction n with
  | zero => rfl
  | succ n ih => rw [sumTo_succ, sumTo_succ, sumTo_succ, ih]; omega
/-- the first number goes out of the front -/
theorem sumTo_front (n : Nat) (f : Nat → Int) : sumTo (n + 1) f = f 0 + sumTo n (fun i => f (i + 1)) := by
  induction n with
  | zero => rw [sumTo_succ]; simp [sumTo_zero]
  | succ n ih => rw [sumTo_succ, ih, sumTo_succ]; omega
theorem sumTo_rev (n : Nat) (f : Nat → Int) : sumTo n (fun i => f (n - 1 - i)) = sumTo n f := by
  induction n generalizing f with
  | zero => rfl
  | succ n ih =>
    rw [sumTo_front, sumTo_succ]
    have e : sumTo n (fun i => f (n + 1 - 1 - (i + 1))) = sumTo n f := by
      rw [← ih f]
      exact sumTo_congr fun i hi => by congr 1; omega
    rw [e, show n + 1 - 1 - 0 = n by omega]; omega
/-- beyond n the summands are 0 -/
theorem sumTo_more {n m : Nat} {f : Nat → Int} (h : n ≤ m) (z : ∀ i, n ≤ i → i < m → f i = 0) : sumTo m f = sumTo n f := by
  induction m with
  | zero => rw [show n = 0 by omega]
  | succ m ih =>
    by_cases e : n = m + 1
    · rw [e]
    · rw [sumTo_succ, ih (by omega) (fun i a b => z i a (by omega)), z m (by omega) (by omega)]; omega
def addN (xs ys : List Int) : List Int := (List.range (max xs.length ys.length)).map fun k => at_ xs k + at_ ys k
def conv (xs ys : List Int) (k : Nat) : Int := sumTo (k + 1) fun j => at_ xs j * at_ ys (k - j)
def mulN (xs ys : List Int) : List Int := (List.range (xs.length + ys.length)).map (conv xs ys)
theorem addN_comm (xs ys : List Int) : addN xs ys = addN ys xs := by
  unfold addN
  rw [Nat.max_comm]
  exact List.map_congr_left fun k _ => Int.add_comm _ _
theorem conv_comm (xs ys : List Int) (k : Nat) : conv xs ys k = conv ys xs k := by
  unfold conv
  rw [← sumTo_rev]
  refine sumTo_congr fun j hj => ?_
  rw [Int.mul_comm, show k + 1 - 1 - j = k - j by omega, show k - (k - j) = j by omega]
theorem mulN_comm (xs ys : List Int) : mulN xs ys = mulN ys xs := by
  unfold mulN
  rw [Nat.add_comm]
  exact List.map_congr_left fun k _ => conv_comm xs ys k
/-- the powers and numbers that aren't 0, of the first n -/
def termsN (xs : List Int) (n : Nat) : List (Nat × Int) := ((List.range n).map fun k => (k, at_ xs k)).filter fun t => t.2 != 0
def terms (xs : List Int) : List (Nat × Int) := termsN xs xs.length
theorem termsN_succ (xs : List Int) (n : Nat) : termsN xs (n + 1) = termsN xs n ++ if at_ xs n = 0 then [] else [(n, at_ xs n)] := by
  unfold termsN
  rw [List.range_succ, List.map_append, List.filter_append]
  congr 1
  by_cases h : at_ xs n = 0 <;> simp [h]
theorem termsN_mem {xs : List Int} {n : Nat} {t : Nat × Int} (h : t ∈ termsN xs n) : t.1 < n ∧ t.2 = at_ xs t.1 := by
  unfold termsN at h
  rw [List.mem_filter] at h
  obtain ⟨k, hk, rfl⟩ := List.mem_map.mp h.1
  exact ⟨List.mem_range.mp hk, rfl⟩
theorem termsN_len (xs : List Int) (n : Nat) : (termsN xs n).length ≤ n := by
  unfold termsN
  refine Nat.le_trans (List.length_filter_le _ _) ?_
  rw [List.length_map, List.length_range]; exact Nat.le_refl _
/-- what terms tell: the sum over them -/
def over (ts : List (Nat × Int)) (f : Nat → Int → Int) : Int := (ts.map fun t => f t.1 t.2).sum
theorem over_snoc (ts : List (Nat × Int)) (t : Nat × Int) (f : Nat → Int → Int) : over (ts ++ [t]) f = over ts f + f t.1 t.2 := by
  unfold over
  rw [List.map_append, List.sum_append]; simp
theorem over_terms (xs : List Int) (f : Nat → Int → Int) (z : ∀ k, f k 0 = 0) : ∀ n, over (termsN xs n) f = sumTo n fun k => f k (at_ xs k)
  | 0 => rfl
  | n + 1 => by
    rw [termsN_succ, sumTo_succ, ← over_terms xs f z n]
    by_cases h : at_ xs n = 0
    · rw [if_pos h, h, z, List.append_nil]; omega
    · rw [if_neg h, over_snoc]
theorem at_out {xs : List Int} {k : Nat} (h : xs.length ≤ k) : at_ xs k = 0 := by
  unfold at_
  rw [List.getElem?_eq_none h]; rfl
theorem sumTo_one (n q : Nat) (g : Nat → Int) : (sumTo n fun j => if j = q then g j else 0) = if q < n then g q else 0 := by
  induction n with
  | zero => simp [sumTo_zero]
  | succ n ih =>
    rw [sumTo_succ, ih]
    by_cases h : n = q
    · subst h
      rw [if_pos rfl, if_neg (by omega), if_pos (by omega)]; omega
    · rw [if_neg h]
      by_cases h2 : q < n
      · rw [if_pos h2, if_pos (by omega)]; omega
      · rw [if_neg h2, if_neg (by omega)]; omega
/-- the inner walk: what a number at power k puts at p -/
def put (k : Nat) (a : Int) (ts : List (Nat × Int)) (p : Nat) : Int := over ts fun j b => if k + j = p then a * b else 0
theorem put_terms (k : Nat) (a : Int) (ys : List Int) (p : Nat) : put k a (terms ys) p = if k ≤ p then a * at_ ys (p - k) else 0 := by
  unfold put terms
  rw [over_terms ys _ (fun j => by split <;> simp)]
  by_cases h : k ≤ p
  · rw [if_pos h]
    have e : sumTo ys.length (fun j => if k + j = p then a * at_ ys j else 0) = sumTo ys.length fun j => if j = p - k then a * at_ ys j else 0 :=
      sumTo_congr fun j _ => by
        by_cases e : k + j = p
        · rw [if_pos e, if_pos (by omega)]
        · rw [if_neg e, if_neg (by omega)]
    rw [e, sumTo_one _ _ fun j => a * at_ ys j]
    by_cases h2 : p - k < ys.length
    · rw [if_pos h2]
    · rw [if_neg h2, at_out (by omega), Int.mul_zero]
  · rw [if_neg h]
    have : ∀ n, sumTo n (fun j => if k + j = p then a * at_ ys j else 0) = 0 := by
      intro n
      induction n with
      | zero => rfl
      | succ n ih => rw [sumTo_succ, ih, if_neg (by omega)]; rfl
    exact this _
/-- the outer walk -/
def putAll (ts us : List (Nat × Int)) (p : Nat) : Int := over ts fun k a => put k a us p
theorem putAll_terms (xs ys : List Int) (p : Nat) : putAll (terms xs) (terms ys) p = conv xs ys p := by
  unfold putAll
  have e : (fun k a => put k a (terms ys) p) = fun k a => if k ≤ p then a * at_ ys (p - k) else 0 := by
    funext k a; exact put_terms k a ys p
  rw [e]
  unfold terms
  rw [over_terms xs _ (fun k => by split <;> simp)]
  unfold conv
  by_cases h : xs.length ≤ p + 1
  · rw [← sumTo_more (f := fun k => if k ≤ p then at_ xs k * at_ ys (p - k) else 0) h (fun i a b => by
      show (if i ≤ p then _ else _) = _
      rw [at_out a]; simp)]
    exact sumTo_congr fun j hj => if_pos (by omega)
  · rw [sumTo_more (n := p + 1) (m := xs.length) (by omega) (fun i a b => if_neg (by omega))]
    exact sumTo_congr fun j hj => if_pos (by omega)

def sp_terms_of (K : PySem.W.Frag) : Sp := fun vs H Q Ex => ∃ (p : Addr) (ns : List Int), vs = [.ref p] ∧ (H p = some (.lst (ns.map V.int))) ∧ (ns.length ≤ 1000) ∧ (∀ q vs H', H q = none → Same H H' → H' q = some (.lst vs) → Z.All2 (Z.IsPair H') vs (terms ns) → Q (.ref q) H')
theorem c_terms_of {K : PySem.W.Frag} {H : Hp} {Q : VK} {Ex : XK} {p : Addr} {ns : List Int} (h1 : H p = some (.lst (ns.map V.int))) (h2 : ns.length ≤ 1000) (k : ∀ q vs H', H q = none → Same H H' → H' q = some (.lst vs) → Z.All2 (Z.IsPair H') vs (terms ns) → Q (.ref q) H') : sp_terms_of K [.ref p] H Q Ex := ⟨p, ns, rfl, h1, h2, k⟩
theorem ok_terms_of {g : Prop} {P : Program} {w : World} {K : PySem.W.Frag} {mg : Str → Option Value} {base : Heap} (E : Ev K mg) : Z.Pr g P w K mg base 1 (He.ga K "terms_of") d_terms_of p_terms_of (sp_terms_of K) := by
  obtain ⟨fd, FD⟩ := E.fn 8 (d := d_terms_of)
  refine ⟨fd, FD, Z.FunD.okG FD sc_terms_of (fun vs H Q Ex h => ?_) (fun cdv A outer s H vs Q Ex hr hgd h => ?_)⟩
  · obtain ⟨_, _, rfl, _⟩ := h
    rfl
  · have hu := hr.units
    obtain ⟨p, ns, rfl, h1, h2, k⟩ := h
    refine ⟨_, (Z.zs_one (Z.z_ret (pe_lc (own := [("power", 2), ("number", 1)]) (g := gTup K 2 (gCons (gName 2) (gCons (gName 1) gNil))) rfl sc_terms_of.nd (pi_enum (by rfl) (E.free 8) (pa_cons (pv 0) pa_nil)) (blkOk_by (own := [("power", 2), ("number", 1)]) (N := n_terms_of) (sc := (defScope s_terms_of)) (by decide +kernel)) (fun _ _ _ _ _ => (pg_tup (n := 2) (by rfl) (pgs_cons (pg_name (i := 2) sc_terms_of.nd rfl (Or.inl rfl)) (pgs_cons (pg_name (i := 1) sc_terms_of.nd rfl (Or.inl rfl)) pgs_nil)))) (fun _ _ _ _ _ => pts_one (pt_cmpR (Z.opNeK K rfl hu) (pv 1) pe_int (nomark _))) (fun _ _ _ _ _ => (pe_tup (pa_cons (pv 2) (pa_cons (pv 1) pa_nil))))))), ?_⟩
    refine Z.i_start (σ := [some (.ref p), none, none]) rfl ?_
    try dsimp only [Z.cxK]
    k_call_by "zz" 0
    refine Z.comp_enum (xs := ns.map V.int) (fun i acc H2 => Z.All2 (Z.IsPair H2) acc (termsN ns i) ∧ Same H H2) ?_ ?_ ?_ ?_
    · intro D H2 n
      exact ⟨Z.All2.nil, by k_call_by "fr" 0⟩
    · rintro i acc H2 hi ⟨ha, s⟩
      k_call_by "hq" 0
    · rintro D i acc x T H2 H3 fD hx hD ⟨ha, s⟩ n
      obtain ⟨z, hz, rfl⟩ := ints_at hx
      k_call_by "zz" 0
      rw [List.getElem?_map] at hx
      have hat : at_ ns i = z := by unfold at_; rw [hz]; rfl
      refine Z.iten' (fun hne => ?_) (fun he => ?_)
      · k_call_by "zz" 0
        intro e H4 n4
        refine Z.i_end (by k_call_by "hf" 0) (by have := (List.getElem?_eq_some_iff.mp hz).1; have := ha.len; have := termsN_len ns i; rw [sizeLine_eq]; omega) fun H5 u => ⟨?_, by k_call_by "fr" 0⟩
        rw [termsN_succ, hat, if_neg hne]
        exact (((ha.mono fun _ _ q => q.same n.same).mono fun _ _ q => q.same n4.same).snoc ⟨e, rfl, n4.at⟩).mono fun _ _ q => q.up u (by k_call_by "hf" 0)
      · refine Z.i_skip (by k_call_by "hf" 0) ⟨?_, by k_call_by "fr" 0⟩
        rw [termsN_succ, hat, if_pos he, List.append_nil]
        exact ha.mono fun _ _ q => q.same n.same
    · rintro D acc H2 fD hD ⟨ha, s⟩
      rw [List.length_map] at ha
      exact k D acc H2 fD s hD ha

theorem len_le_max {n m : Nat} {a : Int} (h : a = (if (m : Int) > n then (m : Int) else n)) : a.toNat = max n m := by omega
theorem pad_at (ns : List Int) (k i : Nat) (h : i < ns.length + k) : (ns ++ List.replicate k 0)[i]? = some (at_ ns i) := by
  by_cases l : i < ns.length
  · rw [List.getElem?_append_left l]
    unfold at_
    rw [List.getElem?_eq_getElem l]; rfl
  · rw [List.getElem?_append_right (by omega), List.getElem?_replicate, if_pos (by omega), at_out (by omega)]
theorem addN_take (ns ms : List Int) {i : Nat} (h : i < max ns.length ms.length) : (addN ns ms).take (i + 1) = (addN ns ms).take i ++ [at_ ns i + at_ ms i] := by
  rw [List.take_add_one]
  congr 1
  unfold addN
  rw [List.getElem?_map, List.getElem?_range h]; rfl

def sp_added (K : PySem.W.Frag) : Sp := fun vs H Q Ex => ∃ (p q : Addr) (ns ms : List Int), vs = [.ref p, .ref q] ∧ (H p = some (.lst (ns.map V.int))) ∧ (H q = some (.lst (ms.map V.int))) ∧ (ns.length ≤ 1000) ∧ (ms.length ≤ 1000) ∧ (∀ r H', H r = none → Same H H' → H' r = some (.lst ((trim (addN ns ms)).map V.int)) → Q (.ref r) H')
theorem c_added {K : PySem.W.Frag} {H : Hp} {Q : VK} {Ex : XK} {p q : Addr} {ns ms : List Int} (h1 : H p = some (.lst (ns.map V.int))) (h2 : H q = some (.lst (ms.map V.int))) (h3 : ns.length ≤ 1000) (h4 : ms.length ≤ 1000) (k : ∀ r H', H r = none → Same H H' → H' r = some (.lst ((trim (addN ns ms)).map V.int)) → Q (.ref r) H') : sp_added K [.ref p, .ref q] H Q Ex := ⟨p, q, ns, ms, rfl, h1, h2, h3, h4, k⟩
theorem ok_added {g : Prop} {P : Program} {w : World} {K : PySem.W.Frag} {mg : Str → Option Value} {base : Heap} (E : Ev K mg) : Z.Pr g P w K mg base 2 (He.ga K "added") d_added p_added (sp_added K) := by
  obtain ⟨fd, FD⟩ := E.fn 9 (d := d_added)
  refine ⟨fd, FD, Z.FunD.okG FD sc_added (fun vs H Q Ex h => ?_) (fun cdv A outer s H vs Q Ex hr hgd h => ?_)⟩
  · obtain ⟨_, _, _, _, rfl, _⟩ := h
    rfl
  · have hu := hr.units
    obtain ⟨p, q, ns, ms, rfl, h1, h2, h3, h4, k⟩ := h
    have F_trimmed := ok_trimmed (g := g) (P := P) (w := w) (base := base) E
    refine ⟨_, (Z.zs_cons (Z.z_set (i := 2) sc_added.nd rfl (Or.inl rfl) (pe_callB (Z.cmax2 rfl) (by rfl) (E.free 1) (by decide +kernel) (pa_cons (pe_callB (Z.clenK K rfl) (by rfl) (E.free 0) (by decide +kernel) (pa_cons (pv 0) pa_nil)) (pa_cons (pe_callB (Z.clenK K rfl) (by rfl) (E.free 0) (by decide +kernel) (pa_cons (pv 1) pa_nil)) pa_nil))))
   (Z.zs_cons (Z.z_set (i := 3) sc_added.nd rfl (Or.inl rfl) (pe_op (Z.opAddK K rfl) (pv 0) (pe_op Z.opMul (pe_lst (pa_cons pe_int pa_nil)) (pe_op op_sub (pv 2) (pe_callB (Z.clenK K rfl) (by rfl) (E.free 0) (by decide +kernel) (pa_cons (pv 0) pa_nil))))))
   (Z.zs_one (Z.z_ret (Z.pe_f F_trimmed (hr.mono (by decide)) hgd (by rfl) (E.glo 9) bd_trimmed passL (pa_cons (pe_lc (own := [("a", 4), ("b", 5)]) (g := gTup K 2 (gCons (gName 4) (gCons (gName 5) gNil))) rfl sc_added.nd (pi_zip (by rfl) (E.free 10) (pa_cons (pv 3) (pa_cons (pe_op (Z.opAddK K rfl) (pv 1) (pe_op Z.opMul (pe_lst (pa_cons pe_int pa_nil)) (pe_op op_sub (pv 2) (pe_callB (Z.clenK K rfl) (by rfl) (E.free 0) (by decide +kernel) (pa_cons (pv 1) pa_nil))))) pa_nil))) (blkOk_by (own := [("a", 4), ("b", 5)]) (N := n_added) (sc := (defScope s_added)) (by decide +kernel)) (fun _ _ _ _ _ => (pg_tup (n := 2) (by rfl) (pgs_cons (pg_name (i := 4) sc_added.nd rfl (Or.inl rfl)) (pgs_cons (pg_name (i := 5) sc_added.nd rfl (Or.inl rfl)) pgs_nil)))) (fun _ _ _ _ _ => pts_nil) (fun _ _ _ _ _ => (pe_op (Z.opAddK K rfl) (pv 4) (pv 5)))) pa_nil)))))), ?_⟩
    refine Z.i_start (σ := [some (.ref p), some (.ref q), none, none, none, none]) rfl ?_
    try dsimp only [Z.cxK]
    k_call_by "za" 0
    rename_i r0 H0 m0
    refine Z.comp_zip (xs := (ns ++ List.replicate (max (ns.length : Int) ms.length - ns.length).toNat 0).map V.int) (ys := (ms ++ List.replicate (max (ns.length : Int) ms.length - ms.length).toNat 0).map V.int)
      (by simp only [List.length_map, List.length_append, List.length_replicate]; omega) (fun i acc H2 => acc = ((addN ns ms).take i).map V.int ∧ Same H0 H2) ?_ ?_ ?_ ?_
    · intro D H2 n
      exact ⟨by simp, n.same⟩
    · rintro i acc H2 hi ⟨rfl, s⟩
      exact ⟨by k_call_by "hq" 0, by k_call_by "hq" 0⟩
    · rintro D i acc x y T H2 H3 fD hx hy hD ⟨rfl, s⟩ n
      have l := (List.getElem?_eq_some_iff.mp hx).1
      simp only [List.length_map, List.length_append, List.length_replicate] at l
      rw [List.getElem?_map, pad_at _ _ _ (by omega)] at hx hy
      cases hx
      cases hy
      k_call_by "za" 0
      refine Z.i_end (by k_call_by "hf" 0) (by rw [List.length_map, List.length_take, sizeLine_eq]; omega) fun H5 u => ⟨?_, by k_call_by "fr" 0⟩
      rw [addN_take ns ms (by omega), List.map_append]; rfl
    · rintro D acc H2 fD hD ⟨rfl, s⟩
      have el : (addN ns ms).length = max ns.length ms.length := by unfold addN; rw [List.length_map, List.length_range]
      rw [List.take_of_length_le (by simp only [List.length_map, List.length_append, List.length_replicate]; omega)] at hD
      k_call_by "za" 0
      refine c_trimmed hD fun q H3 n => ?_
      exact k q H3 (by k_call_by "fh" 0) (by k_call_by "fr" 0) n.at

theorem over_nil (f : Nat → Int → Int) : over [] f = 0 := rfl
theorem take_snoc {α : Type} {xs : List α} {i : Nat} {x : α} (h : xs[i]? = some x) : xs.take (i + 1) = xs.take i ++ [x] := by
  rw [List.take_add_one, h]; rfl
theorem at_num {ns : List Int} (h : ∀ n ∈ ns, Num n) (k : Nat) : Num (at_ ns k) := by
  unfold at_
  cases e : ns[k]? with
  | none => exact num_of (by constructor <;> decide)
  | some a => exact h a (List.mem_of_getElem? e)
theorem term_at {ns : List Int} {i : Nat} {t : Nat × Int} (h : (terms ns)[i]? = some t) : t.1 < ns.length ∧ t.2 = at_ ns t.1 := termsN_mem (List.mem_of_getElem? h)
theorem mulN_eq (ns ms : List Int) : Z.fl (fun p => putAll (terms ns) (terms ms) p) (ns.length + ms.length) = (mulN ns ms).map V.int := by
  unfold Z.fl mulN
  congr 1
  exact List.map_congr_left fun k _ => putAll_terms ns ms k
theorem num_mul {a b : Int} (h : Num a) (g : Num b) : CMulX a b := mulx_ok h g (by decide)
theorem sub_nat {a : Int} {n m : Nat} (h : a = (n : Int) + m) : a.toNat = n + m := by omega

def sp_multiplied (K : PySem.W.Frag) : Sp := fun vs H Q Ex => ∃ (p q : Addr) (ns ms : List Int), vs = [.ref p, .ref q] ∧ (H p = some (.lst (ns.map V.int))) ∧ (H q = some (.lst (ms.map V.int))) ∧ (ns.length ≤ 1000) ∧ (ms.length ≤ 1000) ∧ (∀ n ∈ ns, Num n) ∧ (∀ n ∈ ms, Num n) ∧ (∀ r H', H r = none → Same H H' → H' r = some (.lst ((trim (mulN ns ms)).map V.int)) → Q (.ref r) H')
theorem c_multiplied {K : PySem.W.Frag} {H : Hp} {Q : VK} {Ex : XK} {p q : Addr} {ns ms : List Int} (h1 : H p = some (.lst (ns.map V.int))) (h2 : H q = some (.lst (ms.map V.int))) (h3 : ns.length ≤ 1000) (h4 : ms.length ≤ 1000) (h5 : ∀ n ∈ ns, Num n) (h6 : ∀ n ∈ ms, Num n) (k : ∀ r H', H r = none → Same H H' → H' r = some (.lst ((trim (mulN ns ms)).map V.int)) → Q (.ref r) H') : sp_multiplied K [.ref p, .ref q] H Q Ex := ⟨p, q, ns, ms, rfl, h1, h2, h3, h4, h5, h6, k⟩
theorem ok_multiplied {g : Prop} {P : Program} {w : World} {K : PySem.W.Frag} {mg : Str → Option Value} {base : Heap} (E : Ev K mg) : Z.Pr g P w K mg base 2 (He.ga K "multiplied") d_multiplied p_multiplied (sp_multiplied K) := by
  obtain ⟨fd, FD⟩ := E.fn 10 (d := d_multiplied)
  refine ⟨fd, FD, Z.FunD.okG FD sc_multiplied (fun vs H Q Ex h => ?_) (fun cdv A outer s H vs Q Ex hr hgd h => ?_)⟩
  · obtain ⟨_, _, _, _, rfl, _⟩ := h
    rfl
  · have hu := hr.units
    obtain ⟨p, q, ns, ms, rfl, h1, h2, h3, h4, h5, h6, k⟩ := h
    have F_terms_of := ok_terms_of (g := g) (P := P) (w := w) (base := base) E
    have F_trimmed := ok_trimmed (g := g) (P := P) (w := w) (base := base) E
    refine ⟨_, (Z.zs_cons (Z.z_set (i := 2) sc_multiplied.nd rfl (Or.inl rfl) (pe_op Z.opMul (pe_lst (pa_cons pe_int pa_nil)) (pe_op (Z.opAddK K rfl) (pe_callB (Z.clenK K rfl) (by rfl) (E.free 0) (by decide +kernel) (pa_cons (pv 0) pa_nil)) (pe_callB (Z.clenK K rfl) (by rfl) (E.free 0) (by decide +kernel) (pa_cons (pv 1) pa_nil)))))
   (Z.zs_cons (Z.z_set (i := 3) sc_multiplied.nd rfl (Or.inl rfl) (Z.pe_f F_terms_of (hr.mono (by decide)) hgd (by rfl) (E.glo 11) bd_terms_of passL (pa_cons (pv 1) pa_nil)))
   (Z.zs_cons (Z.z_for (passes_of rfl) rfl (pi_list (Z.pe_f F_terms_of (hr.mono (by decide)) hgd (by rfl) (E.glo 11) bd_terms_of passL (pa_cons (pv 0) pa_nil))) (pg_tup (n := 2) (by rfl) (pgs_cons (pg_name (i := 4) sc_multiplied.nd rfl (Or.inl rfl)) (pgs_cons (pg_name (i := 5) sc_multiplied.nd rfl (Or.inl rfl)) pgs_nil)))
   (Z.zs_one (Z.z_for (passes_of rfl) rfl (pi_list (pv 3)) (pg_tup (n := 2) (by rfl) (pgs_cons (pg_name (i := 6) sc_multiplied.nd rfl (Or.inl rfl)) (pgs_cons (pg_name (i := 7) sc_multiplied.nd rfl (Or.inl rfl)) pgs_nil)))
   (Z.zs_one (Z.z_augS (pv 2) (pe_op (Z.opAddK K rfl) (pv 4) (pv 6)) (Z.getLK K rfl) (pe_op Z.opMul (pv 5) (pv 7)) ip_add set_list)))))
   (Z.zs_one (Z.z_ret (Z.pe_f F_trimmed (hr.mono (by decide)) hgd (by rfl) (E.glo 9) bd_trimmed passL (pa_cons (pv 2) pa_nil))))))), ?_⟩
    refine Z.i_start (σ := [some (.ref p), some (.ref q), none, none, none, none, none, none]) rfl ?_
    try dsimp only [Z.cxK]
    k_call_by "za" 0
    rename_i D H0 m0
    rw [sub_nat rfl, Z.fl_zero] at m0
    have fD : H D = none := by k_call_by "fh" 0
    refine c_terms_of (ns := ms) (by k_call_by "hf" 0) h4 fun q2 vs2 H1 f1 s1 e1 a1 => ?_
    k_call_by "za" 0
    refine c_terms_of (ns := ns) (by k_call_by "hf" 0) h3 fun q1 vs1 H2 f2 s2 e2 a2 => ?_
    k_call_by "za" 0
    have hD2 : H2 D = some (.lst (Z.fl (fun _ => 0) (ns.length + ms.length))) := by k_call_by "hf" 0
    have ne1 : q1 ≠ D := Z.ne_fr' f2 (s1 _ _ m0.at)
    have ne2 : q2 ≠ D := Z.ne_fr' f1 m0.at
    have l1 := a1.len
    have l2 := a2.len
    refine Z.loop_list (xs := vs1) (fun i σ H' => (∃ x4 x5 x6 x7, σ = [some (.ref p), some (.ref q), some (.ref D), some (.ref q2), x4, x5, x6, x7]) ∧
      H' D = some (.lst (Z.fl (fun p => putAll ((terms ns).take i) (terms ms) p) (ns.length + ms.length))) ∧ Z.But D H2 H') ?_ ?_ ?_ ?_
    · exact ⟨⟨_, _, _, _, rfl⟩, hD2, .refl⟩
    · rintro i σ H' hi ⟨_, _, b⟩
      k_call_by "hq" 0
    · rintro i x σ H' hx ⟨⟨x4, x5, x6, x7, rfl⟩, hD, b⟩
      obtain ⟨t, ht, r⟩ := a2.get hx
      obtain ⟨r, rfl, hr⟩ := r.but b hD2
      obtain ⟨tb, ta⟩ := term_at ht
      k_call_by "za" 0
      refine Z.loop_list (xs := vs2) (fun j σ H3 => (∃ x6 x7, σ = [some (.ref p), some (.ref q), some (.ref D), some (.ref q2), some (.int (t.1 : Nat)), some (.int t.2), x6, x7]) ∧
        H3 D = some (.lst (Z.fl (fun p => putAll ((terms ns).take i) (terms ms) p + put t.1 t.2 ((terms ms).take j) p) (ns.length + ms.length))) ∧ Z.But D H2 H3) ?_ ?_ ?_ ?_
      · refine ⟨⟨_, _, rfl⟩, ?_, b⟩
        rw [hD]
        congr 2
        exact Z.fl_congr fun p _ => by show _ = _ + over [] _; rw [over_nil]; omega
      · rintro j σ H3 hj ⟨_, _, b3⟩
        k_call_by "hq" 0
      · rintro j x σ H3 hx3 ⟨⟨x6, x7, rfl⟩, hD3, b3⟩
        obtain ⟨u, hu3, ru⟩ := a1.get hx3
        obtain ⟨ru, rfl, hru⟩ := (ru.same s2).but b3 hD2
        obtain ⟨ub, ua⟩ := term_at hu3
        k_call_by "za" 0
        rw [show ((t.1 : Int) + (u.1 : Int)) = ((t.1 + u.1 : Nat) : Int) by omega]
        refine Z.i_getL hD3 (by omega) (by omega) (by rw [Int.toNat_natCast]; exact Z.fl_get _ (by omega)) ?_
        k_call_by "za" 0
        refine Z.i_mulI (num_mul (ta ▸ at_num h5 _) (ua ▸ at_num h6 _)) ?_
        k_call_by "za" 0
        refine Z.i_setL hD3 (Z.ixN_nat (by rw [Z.fl_len]; omega)) fun H4 u4 => ?_
        refine ⟨⟨_, _, rfl⟩, ?_, by k_call_by "fr" 0⟩
        rw [u4.at, Z.fl_set]
        congr 2
        refine Z.fl_congr fun p _ => ?_
        show _ = _ + over _ _
        rw [take_snoc hu3, over_snoc]
        show _ = _ + (put t.1 t.2 _ p + _)
        by_cases e : p = t.1 + u.1
        · subst e
          rw [if_pos rfl, if_pos rfl]; omega
        · rw [if_neg e, if_neg (Ne.symm e)]; omega
      · rintro σ H3 ⟨⟨x6, x7, rfl⟩, hD3, b3⟩
        refine ⟨⟨_, _, _, _, rfl⟩, ?_, b3⟩
        rw [hD3]
        congr 2
        refine Z.fl_congr fun p _ => ?_
        rw [List.take_of_length_le (i := vs2.length) (by omega), take_snoc ht]
        exact (over_snoc _ _ _).symm
    · rintro σ H3 ⟨⟨x4, x5, x6, x7, rfl⟩, hD, b⟩
      k_call_by "za" 0
      rw [List.take_of_length_le (by omega), mulN_eq] at hD
      refine c_trimmed hD fun q H4 n => ?_
      exact k q H4 (by k_call_by "fh" 0) (by k_call_by "fr" 0) n.at
def sp_l_at (K : PySem.W.Frag) : Sp := fun vs H Q Ex => ∃ (p : Addr) (ns : List Int) (i : Nat), vs = [.ref p, .int (i : Nat)] ∧ (H p = some (.lst (ns.map V.int))) ∧ (ns.length ≤ 1000) ∧ (i ≤ 2000) ∧ (∀ H', Same H H' → Q (.int (at_ ns i)) H')
theorem c_l_at {K : PySem.W.Frag} {H : Hp} {Q : VK} {Ex : XK} {p : Addr} {ns : List Int} {i : Nat} (h1 : H p = some (.lst (ns.map V.int))) (h2 : ns.length ≤ 1000) (h3 : i ≤ 2000) (k : ∀ H', Same H H' → Q (.int (at_ ns i)) H') : sp_l_at K [.ref p, .int (i : Nat)] H Q Ex := ⟨p, ns, i, rfl, h1, h2, h3, k⟩
theorem ok_l_at {g : Prop} {P : Program} {w : World} {K : PySem.W.Frag} {mg : Str → Option Value} {base : Heap} (E : Ev K mg) : Z.Pr g P w K mg base 1 (He.ga K "_law_at") d_l_at p_l_at (sp_l_at K) := by
  obtain ⟨fd, FD⟩ := E.fn 11 (d := d_l_at)
  refine ⟨fd, FD, Z.FunD.okG FD sc_l_at (fun vs H Q Ex h => ?_) (fun cdv A outer s H vs Q Ex hr hgd h => ?_)⟩
  · obtain ⟨_, _, _, rfl, _⟩ := h
    rfl
  · have hu := hr.units
    obtain ⟨p, ns, i, rfl, h1, h2, h3, k⟩ := h
    refine ⟨_, (Z.zs_one (Z.z_ret (pe_ix (Z.ixUK K rfl) (pe_op (Z.opAddK K rfl) (pv 0) (pe_op Z.opMul (pe_lst (pa_cons pe_int pa_nil)) (pe_op (Z.opAddK K rfl) (pv 1) pe_int))) (pv 1) (fun _ _ => rfl)))), ?_⟩
    refine Z.i_start (σ := [some (.ref p), some (.int (i : Nat))]) rfl ?_
    try dsimp only [Z.cxK]
    k_call_by "za" 0
    refine Z.i_ixL (by k_call_by "hf" 0) (atI_nat (by rw [List.getElem?_map, pad_at _ _ _ (by omega)]; rfl)) ?_
    exact k _ (by k_call_by "fr" 0)
def sp_l_sum (K : PySem.W.Frag) : Sp := fun vs H Q Ex => ∃ (p q : Addr) (ns ms : List Int), vs = [.ref p, .ref q] ∧ (H p = some (.lst (ns.map V.int))) ∧ (H q = some (.lst (ms.map V.int))) ∧ (ns.length ≤ 8) ∧ (ms.length ≤ 8) ∧ (∀ r H', H r = none → Same H H' → H' r = some (.lst ((trim (addN ns ms)).map V.int)) → Q (.ref r) H')
theorem c_l_sum {K : PySem.W.Frag} {H : Hp} {Q : VK} {Ex : XK} {p q : Addr} {ns ms : List Int} (h1 : H p = some (.lst (ns.map V.int))) (h2 : H q = some (.lst (ms.map V.int))) (h3 : ns.length ≤ 8) (h4 : ms.length ≤ 8) (k : ∀ r H', H r = none → Same H H' → H' r = some (.lst ((trim (addN ns ms)).map V.int)) → Q (.ref r) H') : sp_l_sum K [.ref p, .ref q] H Q Ex := ⟨p, q, ns, ms, rfl, h1, h2, h3, h4, k⟩
theorem ok_l_sum {g : Prop} {P : Program} {w : World} {K : PySem.W.Frag} {mg : Str → Option Value} {base : Heap} (E : Ev K mg) : Z.Pr g P w K mg base 2 (He.ga K "_law_sum") d_l_sum p_l_sum (sp_l_sum K) := by
  obtain ⟨fd, FD⟩ := E.fn 12 (d := d_l_sum)
  refine ⟨fd, FD, Z.FunD.okG FD sc_l_sum (fun vs H Q Ex h => ?_) (fun cdv A outer s H vs Q Ex hr hgd h => ?_)⟩
  · obtain ⟨_, _, _, _, rfl, _⟩ := h
    rfl
  · have hu := hr.units
    obtain ⟨p, q, ns, ms, rfl, h1, h2, h3, h4, k⟩ := h
    have F_l_at := ok_l_at (g := g) (P := P) (w := w) (base := base) E
    have F_l_ended := ok_l_ended (g := g) (P := P) (w := w) (base := base) E
    refine ⟨_, (Z.zs_one (Z.z_ret (Z.pe_f F_l_ended (hr.mono (by decide)) hgd (by rfl) (E.glo 12) bd_l_ended passL (pa_cons (pe_lc (own := [("_law_k", 2)]) (g := gName 2) rfl sc_l_sum.nd (pi_range1 (by rfl) (E.free 5) (pa_cons (pe_callB (Z.cmax2 rfl) (by rfl) (E.free 1) (by decide +kernel) (pa_cons (pe_callB (Z.clenK K rfl) (by rfl) (E.free 0) (by decide +kernel) (pa_cons (pv 0) pa_nil)) (pa_cons (pe_callB (Z.clenK K rfl) (by rfl) (E.free 0) (by decide +kernel) (pa_cons (pv 1) pa_nil)) pa_nil))) pa_nil)) (blkOk_by (own := [("_law_k", 2)]) (N := n_l_sum) (sc := (defScope s_l_sum)) (by decide +kernel)) (fun _ _ _ _ _ => (pg_name (i := 2) sc_l_sum.nd rfl (Or.inl rfl))) (fun _ _ _ _ _ => pts_nil) (fun _ _ _ _ _ => (pe_op (Z.opAddK K rfl) (Z.pe_f F_l_at (hr.mono (by decide)) hgd (by rfl) (E.glo 13) bd_l_at passL (pa_cons (pv 0) (pa_cons (pv 2) pa_nil))) (Z.pe_f F_l_at (hr.mono (by decide)) hgd (by rfl) (E.glo 13) bd_l_at passL (pa_cons (pv 1) (pa_cons (pv 2) pa_nil)))))) pa_nil)))), ?_⟩
    refine Z.i_start (σ := [some (.ref p), some (.ref q), none]) rfl ?_
    try dsimp only [Z.cxK]
    k_call_by "za" 0
    refine Z.i_rng1I (by omega) (by omega) ?_
    rw [len_le_max (n := ns.length) (m := ms.length) (by omega)]
    refine Z.comp_range0 (fun i acc H2 => acc = ((addN ns ms).take i).map V.int ∧ Same H H2) ?_ ?_ ?_
    · intro D H2 n
      exact ⟨by simp, n.same⟩
    · rintro D i acc H2 fD hi hD ⟨rfl, s⟩
      k_call_by "za" 0
      refine c_l_at (s _ _ h1) (by omega) (by omega) fun H3 s3 => ?_
      k_call_by "za" 0
      refine c_l_at (s3 _ _ (s _ _ h2)) (by omega) (by omega) fun H4 s4 => ?_
      k_call_by "za" 0
      refine Z.i_end (by k_call_by "hf" 0) (by rw [List.length_map, List.length_take, sizeLine_eq]; omega) fun H5 u => ⟨?_, by k_call_by "fr" 0⟩
      rw [addN_take ns ms (by omega), List.map_append]; rfl
    · rintro D acc H2 fD hD ⟨rfl, s⟩
      have el : (addN ns ms).length = max ns.length ms.length := by unfold addN; rw [List.length_map, List.length_range]
      rw [List.take_of_length_le (by omega)] at hD
      k_call_by "za" 0
      refine c_l_ended hD (by omega) fun q H3 f3 s3 e3 => ?_
      refine k q H3 ?_ (by k_call_by "fr" 0) e3
      rcases f3 with rfl | f3
      · exact fD
      · exact s.free f3
def sp_l_product (K : PySem.W.Frag) : Sp := fun vs H Q Ex => ∃ (p q : Addr) (ns ms : List Int), vs = [.ref p, .ref q] ∧ (H p = some (.lst (ns.map V.int))) ∧ (H q = some (.lst (ms.map V.int))) ∧ (ns.length ≤ 8) ∧ (ms.length ≤ 8) ∧ (∀ n ∈ ns, Num n) ∧ (∀ n ∈ ms, Num n) ∧ (∀ r H', H r = none → Same H H' → H' r = some (.lst ((trim (mulN ns ms)).map V.int)) → Q (.ref r) H')
theorem c_l_product {K : PySem.W.Frag} {H : Hp} {Q : VK} {Ex : XK} {p q : Addr} {ns ms : List Int} (h1 : H p = some (.lst (ns.map V.int))) (h2 : H q = some (.lst (ms.map V.int))) (h3 : ns.length ≤ 8) (h4 : ms.length ≤ 8) (h5 : ∀ n ∈ ns, Num n) (h6 : ∀ n ∈ ms, Num n) (k : ∀ r H', H r = none → Same H H' → H' r = some (.lst ((trim (mulN ns ms)).map V.int)) → Q (.ref r) H') : sp_l_product K [.ref p, .ref q] H Q Ex := ⟨p, q, ns, ms, rfl, h1, h2, h3, h4, h5, h6, k⟩
theorem ok_l_product {g : Prop} {P : Program} {w : World} {K : PySem.W.Frag} {mg : Str → Option Value} {base : Heap} (E : Ev K mg) : Z.Pr g P w K mg base 2 (He.ga K "_law_product") d_l_product p_l_product (sp_l_product K) := by
  obtain ⟨fd, FD⟩ := E.fn 13 (d := d_l_product)
  refine ⟨fd, FD, Z.FunD.okG FD sc_l_product (fun vs H Q Ex h => ?_) (fun cdv A outer s H vs Q Ex hr hgd h => ?_)⟩
  · obtain ⟨_, _, _, _, rfl, _⟩ := h
    rfl
  · have hu := hr.units
    obtain ⟨p, q, ns, ms, rfl, h1, h2, h3, h4, h5, h6, k⟩ := h
    have F_l_at := ok_l_at (g := g) (P := P) (w := w) (base := base) E
    have F_l_ended := ok_l_ended (g := g) (P := P) (w := w) (base := base) E
    refine ⟨_, (Z.zs_cons (Z.z_set (i := 2) sc_l_product.nd rfl (Or.inl rfl) (pe_lst pa_nil))
   (Z.zs_cons (Z.z_for (passes_of rfl) rfl (pi_range1 (by rfl) (E.free 5) (pa_cons (pe_op (Z.opAddK K rfl) (pe_callB (Z.clenK K rfl) (by rfl) (E.free 0) (by decide +kernel) (pa_cons (pv 0) pa_nil)) (pe_callB (Z.clenK K rfl) (by rfl) (E.free 0) (by decide +kernel) (pa_cons (pv 1) pa_nil))) pa_nil)) (pg_name (i := 3) sc_l_product.nd rfl (Or.inr rfl))
   (Z.zs_one (Z.z_expr (pe_bm PySem.F.plainAttrs_list PySem.F.slot_list_append PySem.F.type_list_append mt_append (pv 2) (pa_cons (pe_callB (Z.csumK K rfl rfl) (by rfl) (E.free 14) (by decide +kernel) (pa_cons (pe_lc (own := [("_law_j", 4)]) (g := gName 4) rfl sc_l_product.nd (pi_range1 (by rfl) (E.free 5) (pa_cons (pe_op (Z.opAddK K rfl) (pv 3) pe_int) pa_nil)) (blkOk_by (own := [("_law_j", 4)]) (N := n_l_product) (sc := (defScope s_l_product)) (by decide +kernel)) (fun _ _ _ _ _ => (pg_name (i := 4) sc_l_product.nd rfl (Or.inl rfl))) (fun _ _ _ _ _ => pts_nil) (fun _ _ _ _ _ => (pe_op Z.opMul (Z.pe_f F_l_at (hr.mono (by decide)) hgd (by rfl) (E.glo 13) bd_l_at passL (pa_cons (pv 0) (pa_cons (pv 4) pa_nil))) (Z.pe_f F_l_at (hr.mono (by decide)) hgd (by rfl) (E.glo 13) bd_l_at passL (pa_cons (pv 1) (pa_cons (pe_op op_sub (pv 3) (pv 4)) pa_nil)))))) pa_nil)) pa_nil)))))
   (Z.zs_one (Z.z_ret (Z.pe_f F_l_ended (hr.mono (by decide)) hgd (by rfl) (E.glo 12) bd_l_ended passL (pa_cons (pv 2) pa_nil)))))), ?_⟩
    refine Z.i_start (σ := [some (.ref p), some (.ref q), none, none, none]) rfl ?_
    try dsimp only [Z.cxK]
    k_call_by "za" 0
    rename_i F H0 m0
    have fF : H F = none := m0.fr
    rw [show ((ns.length : Int) + (ms.length : Int)) = ((ns.length + ms.length : Nat) : Int) by omega]
    k_call_by "za" 0
    refine Z.loop_range0 (fun i σ H2 => (∃ x3 x4, σ = [some (.ref p), some (.ref q), some (.ref F), x3, x4]) ∧ H2 F = some (.lst (Z.fl (conv ns ms) i)) ∧ Z.But F H0 H2) ?_ ?_ ?_
    · exact ⟨⟨_, _, rfl⟩, m0.at, .refl⟩
    · rintro i σ H2 hi ⟨⟨x3, x4, rfl⟩, hF, b⟩
      have nep : p ≠ F := m0.ne h1
      have neq : q ≠ F := m0.ne h2
      k_call_by "za" 0
      rw [show ((i : Int) + 1) = ((i + 1 : Nat) : Int) by omega]
      k_call_by "za" 0
      refine Z.comp_range0 (fun j acc H3 => acc = Z.fl (fun j => at_ ns j * at_ ms (i - j)) j ∧ Same H2 H3) ?_ ?_ ?_
      · intro D H3 n
        exact ⟨rfl, n.same⟩
      · rintro D j acc H3 fD hj hD ⟨rfl, s⟩
        k_call_by "za" 0
        refine c_l_at (ns := ns) (by k_call_by "hf" 0) (by omega) (by omega) fun H4 s4 => ?_
        k_call_by "za" 0
        rw [show ((i : Int) - (j : Int)) = ((i - j : Nat) : Int) by omega]
        refine c_l_at (ns := ms) (by k_call_by "hf" 0) (by omega) (by omega) fun H5 s5 => ?_
        k_call_by "za" 0
        refine Z.i_mulI (num_mul (at_num h5 _) (at_num h6 _)) ?_
        refine Z.i_end (by k_call_by "hf" 0) (by rw [Z.fl_len, sizeLine_eq]; omega) fun H6 u => ⟨Z.fl_snoc _ _, by k_call_by "fr" 0⟩
      · rintro D acc H3 fD hD ⟨rfl, s⟩
        unfold Z.fl at hD
        k_call_by "za" 0
        refine Z.i_append (xs := Z.fl (conv ns ms) i) (by k_call_by "hf" 0) (by rw [Z.fl_len, sizeLine_eq]; omega) fun H4 u => ?_
        refine ⟨⟨_, _, rfl⟩, ?_, by k_call_by "fr" 0⟩
        rw [u.at]
        congr 2
        exact Z.fl_snoc (conv ns ms) i
    · rintro σ H2 ⟨⟨x3, x4, rfl⟩, hF, b⟩
      k_call_by "za" 0
      have e : Z.fl (conv ns ms) (ns.length + ms.length) = (mulN ns ms).map V.int := rfl
      rw [e] at hF
      refine c_l_ended hF (by unfold mulN; rw [List.length_map, List.length_range]; omega) fun r H3 f3 s3 e3 => ?_
      refine k r H3 ?_ (by k_call_by "fr" 0) e3
      rcases f3 with rfl | f3
      · exact fF
      · by_cases e : r = F
        · rw [e]; exact fF
        · exact Same.free m0.same (b.free f3 e)

theorem Num.big {a : Int} (h : Num a) : a.natAbs < Z.big := Nat.lt_of_lt_of_le h (by unfold Z.big; exact Nat.pow_le_pow_right (by decide) (by decide))

def sp_law (K : PySem.W.Frag) : Sp := fun vs H Q Ex => ∃ (s0 : Addr) (ns0 : List Int), vs = [.ref s0] ∧ (SqL K H s0 (ns0.map V.int)) ∧ (ns0.length ≤ 63) ∧ (∀ H', Q (.bl true) H')
theorem c_law {K : PySem.W.Frag} {H : Hp} {Q : VK} {Ex : XK} {s0 : Addr} {ns0 : List Int} (h1 : SqL K H s0 (ns0.map V.int)) (h2 : ns0.length ≤ 63) (k : ∀ H', Q (.bl true) H') : sp_law K [.ref s0] H Q Ex := ⟨s0, ns0, rfl, h1, h2, k⟩
theorem ok_law  {P : Program} {w : World} {K : PySem.W.Frag} {mg : Str → Option Value} {base : Heap} (E : Ev K mg) : Z.Pr True P w K mg base 6 (He.ga K "law") d_law p_law (sp_law K) := by
  obtain ⟨fd, FD⟩ := E.fn 14 (d := d_law)
  refine ⟨fd, FD, Z.FunD.okG FD sc_law (fun vs H Q Ex h => ?_) (fun cdv A outer s H vs Q Ex hr hgd h => ?_)⟩
  · obtain ⟨_, _, rfl, _⟩ := h
    rfl
  · have hu := hr.units
    obtain ⟨s0, ns0, rfl, h1, h2, k⟩ := h
    have F_added := ok_added (g := True) (P := P) (w := w) (base := base) E
    have F_l_pot := ok_l_pot (g := True) (P := P) (w := w) (base := base) E
    have F_l_product := ok_l_product (g := True) (P := P) (w := w) (base := base) E
    have F_l_row := ok_l_row (g := True) (P := P) (w := w) (base := base) E
    have F_l_second := ok_l_second (g := True) (P := P) (w := w) (base := base) E
    have F_l_sum := ok_l_sum (g := True) (P := P) (w := w) (base := base) E
    have F_multiplied := ok_multiplied (g := True) (P := P) (w := w) (base := base) E
    refine ⟨_, (Z.zs_cons (Z.z_for (passes_of rfl) rfl (pi_range1 (by rfl) (E.free 5) (pa_cons (pe_callB (Z.cmax2 rfl) (by rfl) (E.free 1) (by decide +kernel) (pa_cons pe_int (pa_cons (pe_callB (Z.cmin2 rfl) (by rfl) (E.free 15) (by decide +kernel) (pa_cons (pe_callB (Z.clenK K rfl) (by rfl) (E.free 0) (by decide +kernel) (pa_cons (pv 0) pa_nil)) (pa_cons pe_int pa_nil))) pa_nil))) pa_nil)) (pg_name (i := 1) sc_law.nd rfl (Or.inl rfl))
   (Z.zs_cons (Z.z_set (i := 2) sc_law.nd rfl (Or.inl rfl) (Z.pe_f F_l_pot (hr.mono (by decide)) hgd (by rfl) (E.glo 25) bd_l_pot passL (pa_cons (pv 0) (pa_cons (pv 1) pa_nil))))
   (Z.zs_cons (Z.z_set (i := 3) sc_law.nd rfl (Or.inl rfl) (Z.pe_f F_l_row (hr.mono (by decide)) hgd (by rfl) (E.glo 7) bd_l_row passL (pa_cons (pv 2) pa_nil)))
   (Z.zs_cons (Z.z_set (i := 4) sc_law.nd rfl (Or.inl rfl) (Z.pe_f F_l_second (hr.mono (by decide)) hgd (by rfl) (E.glo 24) bd_l_second passL (pa_cons (pv 2) (pa_cons (pv 3) pa_nil))))
   (Z.zs_cons (Z.z_set (i := 5) sc_law.nd rfl (Or.inl rfl) (pe_callB (Z.creprK K rfl hr hgd trivial) (by rfl) (E.free 16) (by decide +kernel) (pa_cons (pe_lst (pa_cons (pv 3) (pa_cons (pv 4) pa_nil))) pa_nil)))
   (Z.zs_cons (Z.z_for (passes_of rfl) rfl (pi_range1 (by rfl) (E.free 5) (pa_cons pe_int pa_nil)) (pg_name (i := 6) sc_law.nd rfl (Or.inl rfl))
   (Z.zs_cons (Z.z_asg (pe_ix (Z.ixUK K rfl) (pe_lst (pa_cons (pe_tup (pa_cons (pv 3) (pa_cons (pv 4) pa_nil))) (pa_cons (pe_tup (pa_cons (pv 4) (pa_cons (pv 3) pa_nil))) pa_nil))) (pv 6) (fun _ _ => rfl)) (pg_tup (n := 2) (by rfl) (pgs_cons (pg_name (i := 7) sc_law.nd rfl (Or.inl rfl)) (pgs_cons (pg_name (i := 8) sc_law.nd rfl (Or.inl rfl)) pgs_nil))))
   (Z.zs_cons (Z.z_set (i := 9) sc_law.nd rfl (Or.inl rfl) (pe_lst (pa_cons (Z.pe_f F_added (hr.mono (by decide)) hgd (by rfl) (E.glo 18) bd_added passL (pa_cons (pv 7) (pa_cons (pv 8) pa_nil))) (pa_cons (Z.pe_f F_multiplied (hr.mono (by decide)) hgd (by rfl) (E.glo 17) bd_multiplied passL (pa_cons (pv 7) (pa_cons (pv 8) pa_nil))) pa_nil))))
   (Z.zs_cons (Z.z_set (i := 10) sc_law.nd rfl (Or.inl rfl) (pe_lst (pa_cons (Z.pe_f F_l_sum (hr.mono (by decide)) hgd (by rfl) (E.glo 23) bd_l_sum passL (pa_cons (pv 3) (pa_cons (pv 4) pa_nil))) (pa_cons (Z.pe_f F_l_product (hr.mono (by decide)) hgd (by rfl) (E.glo 22) bd_l_product passL (pa_cons (pv 3) (pa_cons (pv 4) pa_nil))) pa_nil))))
   (Z.zs_cons (Z.z_if (PW.pt (pw_or (pt_cmpR (Z.opNeK K rfl hu) (pv 9) (pv 10) (nomark _)) (pw_or1 (pt_not (pt_val (pe_callB (Z.callK K rfl rfl) (by rfl) (E.free 19) (by decide +kernel) (pa_cons (pe_lc (own := [("_law_row_here", 11)]) (g := gName 11) rfl sc_law.nd (pi_list (pv 9)) (blkOk_by (own := [("_law_row_here", 11)]) (N := n_law) (sc := (defScope s_law)) (by decide +kernel)) (fun _ _ _ _ _ => (pg_name (i := 11) sc_law.nd rfl (Or.inl rfl))) (fun _ _ _ _ _ => pts_nil) (fun _ _ _ _ _ => (pe_callB (Z.cisiK K rfl) (by rfl) (E.free 20) (by decide +kernel) (pa_cons (pv 11) (pa_cons (pe_bltn (v := .ty "list") (u := .type "list") (by rfl) (E.free 21) (by decide +kernel) rfl) pa_nil))))) pa_nil))))))) (Z.zs_one (Z.z_ret pe_bl)) Z.zs_nil)
   (Z.zs_cons (Z.z_expr (pe_bm PySem.F.plainAttrs_list PySem.F.slot_list_append PySem.F.type_list_append mt_append (pe_ix (Z.ixUK K rfl) (pv 9) pe_int (fun _ _ => rfl)) (pa_cons pe_int pa_nil)))
   (Z.zs_cons (Z.z_expr (pe_bm PySem.F.plainAttrs_list PySem.F.slot_list_append PySem.F.type_list_append mt_append (pe_ix (Z.ixUK K rfl) (pv 9) pe_int (fun _ _ => rfl)) (pa_cons pe_int pa_nil)))
   (Z.zs_one (Z.z_if (PW.pt (pw_or (pt_cmpR (Z.opNeK K rfl hu) (Z.pe_f F_added (hr.mono (by decide)) hgd (by rfl) (E.glo 18) bd_added passL (pa_cons (pv 7) (pa_cons (pv 8) pa_nil))) (pe_ix (Z.ixUK K rfl) (pv 10) pe_int (fun _ _ => rfl)) (nomark _)) (pw_or1 (pt_cmpR (Z.opNeK K rfl hu) (Z.pe_f F_multiplied (hr.mono (by decide)) hgd (by rfl) (E.glo 17) bd_multiplied passL (pa_cons (pv 7) (pa_cons (pv 8) pa_nil))) (pe_ix (Z.ixUK K rfl) (pv 10) pe_int (fun _ _ => rfl)) (nomark _))))) (Z.zs_one (Z.z_ret pe_bl)) Z.zs_nil)))))))))
   (Z.zs_one (Z.z_if (pt_cmpR (Z.opNeK K rfl hu) (pe_callB (Z.creprK K rfl hr hgd trivial) (by rfl) (E.free 16) (by decide +kernel) (pa_cons (pe_lst (pa_cons (pv 3) (pa_cons (pv 4) pa_nil))) pa_nil)) (pv 5) (nomark _)) (Z.zs_one (Z.z_ret pe_bl)) Z.zs_nil))))))))
   (Z.zs_one (Z.z_ret pe_bl))), ?_⟩
    refine Z.i_start (σ := [some (.ref s0), none, none, none, none, none, none, none, none, none, none, none]) rfl ?_
    try dsimp only [Z.cxK]
    k_call_by "za" 0
    refine Z.i_rng1I (by omega) (by omega) ?_
    refine Z.loop_range0 (fun i σ H1 => (∃ x1 x2 x3 x4 x5 x6 x7 x8 x9 x10 x11, σ = [some (.ref s0), x1, x2, x3, x4, x5, x6, x7, x8, x9, x10, x11]) ∧ Same H H1) ?_ ?_ ?_
    · exact ⟨⟨_, _, _, _, _, _, _, _, _, _, _, rfl⟩, .refl _⟩
    · rintro i σ H1 hi ⟨⟨x1, x2, x3, x4, x5, x6, x7, x8, x9, x10, x11, rfl⟩, s1⟩
      k_call_by "za" 0
      refine c_l_pot (i := i) (s1.seq h1) (by omega) fun a H2 f2 s2 p2 => ?_
      k_call_by "za" 0
      refine c_l_row p2 fun p ns H3 f3 e3 num3 len3 tr3 p3 b3 => ?_
      k_call_by "za" 0
      have pa : p ≠ a := p2.ne f3
      have fa : H a = none := s1.free f2
      have s3 : Same H H3 := by k_call_by "fr" 0
      refine c_l_second p3 e3 pa num3 len3 tr3 fun q ms H4 f4 e4 num4 len4 tr4 p4 b4 => ?_
      k_call_by "za" 0
      have qa : q ≠ a := p3.ne f4
      have e34 : H4 p = some (.lst (ns.map V.int)) := b4.get pa e3
      have s4 : Same H H4 := by k_call_by "fr" 0
      rename_i r5 H5 n5
      refine Z.i_repr (Z.dp_two n5.at (n5.get e34) (n5.get e4)) (Z.neat_two (fun n h => (num3 n h).big) (fun n h => (num4 n h).big) (by omega) (by omega)) ?_
      k_call_by "za" 0
      have s5 : Same H H5 := by k_call_by "fr" 0
      refine Z.i_rng1L 2 rfl (by decide) ?_
      refine Z.loop_range0 (fun j σ H6 => (∃ x6 x7 x8 x9 x10 x11, σ = [some (.ref s0), some (.int (i : Nat)), some (.ref a), some (.ref p), some (.ref q), some (.str (PyData.shown (.list [.list (ns.map PyData.int), .list (ms.map PyData.int)]))), x6, x7, x8, x9, x10, x11]) ∧ Same H5 H6) ?_ ?_ ?_
      · exact ⟨⟨_, _, _, _, _, _, rfl⟩, .refl _⟩
      · rintro j σ H6 hj ⟨⟨x6, x7, x8, x9, x10, x11, rfl⟩, s6⟩
        have e65 : H6 p = some (.lst (ns.map V.int)) := s6 _ _ (n5.get e34)
        have e66 : H6 q = some (.lst (ms.map V.int)) := s6 _ _ (n5.get e4)
        k_call_by "za" 0
        rename_i t0 H7 n7 t1 H8 n8 t2 H9 n9
        obtain ⟨tt, f, c, nf, nn, g1, g2, g3, g4, g5, g6, g7, g8, g9, g10⟩ : ∃ tt f c nf nn, atI [V.ref t0, V.ref t1] (j : Int) = some (.ref tt) ∧ H9 tt = some (.tup [.ref f, .ref c]) ∧ H9 f = some (.lst (nf.map V.int)) ∧ H9 c = some (.lst (nn.map V.int)) ∧
            nf.length ≤ 8 ∧ nn.length ≤ 8 ∧ (∀ n ∈ nf, Num n) ∧ (∀ n ∈ nn, Num n) ∧ addN nf nn = addN ns ms ∧ mulN nf nn = mulN ns ms := by
          obtain rfl | rfl : j = 0 ∨ j = 1 := by omega
          · exact ⟨t0, p, q, ns, ms, rfl, by k_call_by "hf" 0, by k_call_by "hf" 0, by k_call_by "hf" 0, len3, len4, num3, num4, rfl, rfl⟩
          · exact ⟨t1, q, p, ms, ns, rfl, by k_call_by "hf" 0, by k_call_by "hf" 0, by k_call_by "hf" 0, len4, len3, num4, num3, addN_comm _ _, mulN_comm _ _⟩
        refine Z.i_ixL n9.at g1 ?_
        k_call_by "za" 0
        refine c_added g3 g4 (by omega) (by omega) fun u1 H10 f10 s10 e10 => ?_
        rw [g9] at e10
        k_call_by "za" 0
        refine c_multiplied (ns := nf) (ms := nn) (by k_call_by "hf" 0) (by k_call_by "hf" 0) (by omega) (by omega) g7 g8 fun u2 H11 f11 s11 e11 => ?_
        rw [g10] at e11
        k_call_by "za" 0
        rename_i told H12 n12
        refine c_l_sum (ns := ns) (ms := ms) (by k_call_by "hf" 0) (by k_call_by "hf" 0) len3 len4 fun v1 H13 f13 s13 e13 => ?_
        k_call_by "za" 0
        refine c_l_product (ns := ns) (ms := ms) (by k_call_by "hf" 0) (by k_call_by "hf" 0) len3 len4 num3 num4 fun v2 H14 f14 s14 e14 => ?_
        k_call_by "za" 0
        rename_i due H15 n15
        have o1 : H15 u1 = some (.lst ((trim (addN ns ms)).map V.int)) := by k_call_by "hf" 0
        have o2 : H15 u2 = some (.lst ((trim (mulN ns ms)).map V.int)) := by k_call_by "hf" 0
        refine Z.i_neDS (Z.dp_two (p := u1) (q := u2) (by k_call_by "hf" 0) o1 o2) (Z.dp_two n15.at (n15.get (s14 _ _ e13)) (n15.get e14)) (Z.shaped_two _ _) ?_
        k_call_by "za" 0
        refine Z.comp_list (xs := [V.ref u1, V.ref u2]) (fun i acc H' => acc = (List.replicate i true).map V.bl ∧ Same H15 H') ?_ ?_ ?_ ?_
        · intro D H' n
          exact ⟨rfl, n.same⟩
        · rintro i acc H' hi ⟨rfl, s⟩
          k_call_by "hq" 0
        · rintro D i acc x H' fD hx hD ⟨rfl, s⟩
          obtain ⟨u, xs, rfl, hu⟩ : ∃ u xs, x = .ref u ∧ H' u = some (.lst xs) := by
            rcases i with _ | _ | i
            · cases hx; exact ⟨u1, _, rfl, s _ _ o1⟩
            · cases hx; exact ⟨u2, _, rfl, s _ _ o2⟩
            · simp at hx
          k_call_by "za" 0
          have hl := (List.getElem?_eq_some_iff.mp hx).1
          refine Z.i_end (by k_call_by "hf" 0) (by rw [List.length_map, List.length_replicate, sizeLine_eq]; simp at hl; omega) fun H6' u => ⟨?_, by k_call_by "fr" 0⟩
          rw [List.replicate_succ', List.map_append]; rfl
        · rintro D acc H16 fD hD ⟨rfl, s⟩
          k_call_by "za" 0
          refine Z.ifF (by rfl) ?_
          have u12 : u1 ≠ u2 := Z.ne_fr f11 e10
          have tu1 : told ≠ u1 := n12.ne' (s11 _ _ e10)
          have tu2 : told ≠ u2 := n12.ne' e11
          have o3 : H16 told = some (.lst [V.ref u1, V.ref u2]) := by k_call_by "hf" 0
          have o4 : H16 u1 = some (.lst ((trim (addN ns ms)).map V.int)) := s _ _ o1
          have o5 : H16 u2 = some (.lst ((trim (mulN ns ms)).map V.int)) := s _ _ o2
          have l1 : (trim (addN ns ms)).length ≤ 1000 := Nat.le_trans (trim_le _) (by unfold addN; rw [List.length_map, List.length_range]; omega)
          have l2 : (trim (mulN ns ms)).length ≤ 1000 := Nat.le_trans (trim_le _) (by unfold mulN; rw [List.length_map, List.length_range]; omega)
          have w1 : v1 ≠ u1 := Z.ne_fr' f13 (n12.get (s11 _ _ e10))
          have w2 : v1 ≠ u2 := Z.ne_fr' f13 (n12.get e11)
          have w3 : v2 ≠ u1 := Z.ne_fr' f14 (s13 _ _ (n12.get (s11 _ _ e10)))
          have w4 : v2 ≠ u2 := Z.ne_fr' f14 (s13 _ _ (n12.get e11))
          have w5 : due ≠ u1 := n15.ne' (s14 _ _ (s13 _ _ (n12.get (s11 _ _ e10))))
          have w6 : due ≠ u2 := n15.ne' (s14 _ _ (s13 _ _ (n12.get e11)))
          have w7 : f ≠ u1 := Z.ne_fr f10 g3
          have w8 : f ≠ u2 := Z.ne_fr f11 (s10 _ _ g3)
          have w9 : c ≠ u1 := Z.ne_fr f10 g4
          have w10 : c ≠ u2 := Z.ne_fr f11 (s10 _ _ g4)
          k_call_by "za" 0
          rename_i H17 y17 H18 y18
          have k1 : H18 f = some (.lst (nf.map V.int)) := by k_call_by "hf" 0
          have k2 : H18 c = some (.lst (nn.map V.int)) := by k_call_by "hf" 0
          have k3 : H18 due = some (.lst [.ref v1, .ref v2]) := by k_call_by "hf" 0
          have k4 : H18 v1 = some (.lst ((trim (addN ns ms)).map V.int)) := by k_call_by "hf" 0
          have k5 : H18 v2 = some (.lst ((trim (mulN ns ms)).map V.int)) := by k_call_by "hf" 0
          refine c_added k1 k2 (by omega) (by omega) fun z1 H19 f19 s19 e19 => ?_
          rw [g9] at e19
          k_call_by "za" 0
          refine Z.i_neLI e19 (s19 _ _ k4) ?_
          k_call_by "za" 0
          refine Z.itnF rfl ?_
          k_call_by "za" 0
          refine c_multiplied (s19 _ _ k1) (s19 _ _ k2) (by omega) (by omega) g7 g8 fun z2 H20 f20 s20 e20 => ?_
          rw [g10] at e20
          k_call_by "za" 0
          refine Z.i_neLI e20 (s20 _ _ (s19 _ _ k5)) ?_
          k_call_by "za" 0
          refine Z.itnF rfl ?_
          k_call_by "za" 0
          refine ⟨⟨_, _, _, _, _, _, rfl⟩, ?_⟩
          have s16 : Same H5 H16 := by k_call_by "fr" 0
          have fu1 : H5 u1 = none := by k_call_by "fh" 0
          have fu2 : H5 u2 = none := by k_call_by "fh" 0
          k_call_by "fr" 0
      · rintro σ H6 ⟨⟨x6, x7, x8, x9, x10, x11, rfl⟩, s6⟩
        have e65 : H6 p = some (.lst (ns.map V.int)) := s6 _ _ (n5.get e34)
        have e66 : H6 q = some (.lst (ms.map V.int)) := s6 _ _ (n5.get e4)
        k_call_by "za" 0
        rename_i r7 H7 n7
        refine Z.i_repr (Z.dp_two n7.at (n7.get e65) (n7.get e66)) (Z.neat_two (fun n h => (num3 n h).big) (fun n h => (num4 n h).big) (by omega) (by omega)) ?_
        k_call_by "za" 0
        refine Z.itnF rfl ?_
        k_call_by "za" 0
        exact ⟨⟨_, _, _, _, _, _, _, _, _, _, _, rfl⟩, by k_call_by "fr" 0⟩
    · rintro σ H1 ⟨⟨x1, x2, x3, x4, x5, x6, x7, x8, x9, x10, x11, rfl⟩, s1⟩
      k_call_by "za" 0
      exact k _

theorem start_law {K : PySem.W.Frag} (H : Hp) (a : Addr) (ns : List Int) (l : ns.length ≤ 63) (_ : ∀ z ∈ ns, Builtin.Int.intBits z ≤ 1048576) (_ : L2.Only H) (h : SqL K H a (ns.map V.int)) :
    sp_law K [.ref a] H (fun v _ => v = .bl true) fun _ _ _ => False := c_law h l fun _ => rfl


abbrev R : PySem.W.OpenRow := PySem.W.OpenLaw.row PySem.Challenge.rw_sampleweave_k81_polynomials
abbrev hk : PySem.W.Hook := He.hookD 5 fa dl
def obs (s : PySem.W.SharedT) : He.AlD := He.obsDG 5 fa dl (HandSHeadRun.getT s)
theorem obs_eq (s : PySem.W.SharedT) : obs s = hk.obs s.abs := He.obsDG_eq (HandSHeadRun.getT_eq s)
def names : List Str := (["trimmed", "terms_of", "added", "multiplied", "_law_pot", "_law_digit", "_law_small", "_law_number", "_law_called", "_law_row", "_law_second", "_law_ended", "_law_at", "_law_sum", "_law_product"] : List Str)
theorem run (w : World) : HandSHeadRun.RunEq R (PySem.W.view R.prog [17]) hk obs 4000 names w := by
  intro os
  kernel_rfl
end L
open PySem PySem.W PySem.Calls PyProof.Rows
set_option maxRecDepth 100000 in
set_option maxHeartbeats 0 in
theorem PySem.Challenge.cw_sampleweave_k81_polynomials_holds : PySem.Challenge.rw_sampleweave_k81_polynomials.Holds := by
  w_on; o_law
  refine HandSHeadRun.head_any (r := OpenLaw.row PySem.Challenge.rw_sampleweave_k81_polynomials) (q := view (OpenLaw.row PySem.Challenge.rw_sampleweave_k81_polynomials).prog [17]) (H := L.hk) (ob := L.obs) (M := 4000) (loose := L.names)
    (d := HandSHeadRun.topDef (OpenLaw.row PySem.Challenge.rw_sampleweave_k81_polynomials).prog 17) (kwd := []) L.obs_eq (by kernel_rfl) (fun s => by kernel_rfl) L.run (by kernel_rfl) (by kernel_rfl) (by kernel_rfl) (by rfl)
    (by first | assumption | decide +kernel) (by decide +kernel) ⟨rfl, rfl, rfl, rfl, rfl, by decide +kernel⟩ ?hw ?hc
  case hw => w_witness2
  case hc =>
    refine Z.walk_ofG (l := PySem.Challenge.rw_sampleweave_k81_polynomials) (n := 63) (k := 6) (x := "_law_script") rfl (by decide) (by kernel_rfl) ⟨rfl, by decide, by decide⟩ ?F
    intro w mg fa h Y G hmg0
    obtain ⟨K, KX, c⟩ := Y
    have hmg : mg ("law" : PySem.Str) = some (.ref fa) := by
      have e : (HandSHeadRun.topDef (OpenLaw.row PySem.Challenge.rw_sampleweave_k81_polynomials).prog 17).name = ("law" : PySem.Str) := by kernel_rfl
      rw [← e]
      exact hmg0
    have E : L.Ev K mg := ⟨c, h, KX, G⟩
    have e := hmg.symm.trans (E.glo 26)
    cases e
    obtain ⟨fd, FD, OK⟩ := (L.ok_law (P := (PySem.Challenge.rw_sampleweave_k81_polynomials).prog) (w := w) (base := h) E).ex
    refine ⟨K, fd, L.sp_law K, KX, fun s v => L2.FunD.bindsA (ps := ["_law_script"]) FD (fun _ _ _ _ _ _ us hl => match us, hl with | [_], _ => rfl) s [v] rfl, L.start_law, fun base b1 b2 => ?_⟩
    obtain ⟨fd', FD', OK'⟩ := (L.ok_law (P := (PySem.Challenge.rw_sampleweave_k81_polynomials).prog) (w := w) (base := base) E).ex
    rw [Z.FunD.uniq FD FD']
    exact OK'
#print axioms PySem.Challenge.cw_sampleweave_k81_polynomials_holds
