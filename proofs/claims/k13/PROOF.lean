import PyProof.Rows.All
import Wide.All
import OpenK.AllK
import Wide.FinOn
import HandS.ForMost
import HandS.Exc
import HandS.ExcOwn
import HandS.WordsExc
import HandS.Defaults
import HandS.MakeKwOnly
import HandS.Flow
import HandS.Style
import HandS.Wide
import HandS.WideBits
import HandS.IsInst
import HandS.TupAny
import HandS.TupMul
import HandS.Zip
import HandS.ClsMeth
import HandS.Deep
import HandS.Head0
import HandS.Head1
import HandS.Head2
import HandS.HeadEnd
import HandS.HeadHook1
import HandS.HeadHook2
import HandS.EndBits
import HandS.SortInts
import KE.KExcIs
import PySem.Challenge.RW_sampleweave_k13_gains_turned
set_option Elab.async false
set_option linter.all false
set_option maxRecDepth 100000
set_option maxHeartbeats 4000000

/-! Z, part one: promises of defs where it is known that no repr goes on around (g), calls by them. -/
namespace Z
open PySem PySem.Spec PyProof.Rows L2

/-- the guards are known to be none, where g asks for it -/
def Gd (g : Prop) (A : Around) : Prop := g → A.guards = some []
theorem Gd.deeper {g : Prop} {A : Around} (h : Gd g A) (env : Env) : Gd g (A.deeper env) := fun x => h x
theorem Gd.make {g : Prop} {A : Around} (h : Gd g A) (C : Addr) (us : List Value) (kw : List (Str × Value)) :
    Gd g (A.under (.builtin "type.__call__" ⟨.ref C :: us, kw⟩)) := fun x => by
  have e := h x
  simp [Around.under, Code.guards, Code.isGuard, guardIds, pushGuards, e]

/-- a def's promise, with the guards -/
structure FnG (g : Prop) (P : Program) (w : World) (K : PySem.W.Frag) (mg : Str → Option Value) (base : Heap) (k : Nat) (f : Addr) (fd : FuncData) (ps : List Str) (sp : Sp) : Prop where
  len : ∀ vs H Q E, sp vs H Q E → vs.length = ps.length
  run : ∀ (A : Around) (outer : List Env) (s : Shared) (H : Hp) (args : Args) (us : List Value) (vs : List V) (Q : VK) (E : XK),
    Room k A → Gd g A → Env0 P w K mg base A outer s H → BindsTo s fd args (ps.zip us) → Vals vs us → sp vs H Q E →
    codeAny (model P w) A (.call (.ref f) args) (CR (L2.CX P w) outer P w H s Q E) s

section
variable {g : Prop} {P : Program} {w : World} {K : PySem.W.Frag} {mg : Str → Option Value} {base : Heap}
theorem FnG.mono {j k : Nat} {f : Addr} {fd : FuncData} {ps : List Str} {sp : Sp} (F : FnG g P w K mg base j f fd ps sp) (h : j ≤ k) :
    FnG g P w K mg base k f fd ps sp where
  len := F.len
  run := fun A outer s H args us vs Q E r gd => F.run A outer s H args us vs Q E (r.mono h) gd
theorem FnG.ofOk {k : Nat} {f : Addr} {fd : FuncData} {ps : List Str} {sp : Sp} (F : FnOk P w K mg base (L2.CX P w) k f fd ps sp) :
    FnG g P w K mg base k f fd ps sp := ⟨F.len, fun A outer s H args us vs Q E r _ => F.run A outer s H args us vs Q E r⟩
theorem FnG.ok {k : Nat} {f : Addr} {fd : FuncData} {ps : List Str} {sp : Sp} (F : FnG False P w K mg base k f fd ps sp) :
    FnOk P w K mg base (L2.CX P w) k f fd ps sp :=
  ⟨F.len, fun A outer s H args us vs Q E r e0 => F.run A outer s H args us vs Q E r (fun z => z.elim) e0⟩
theorem FnG.imp {k : Nat} {f : Addr} {fd : FuncData} {ps : List Str} {sp sp' : Sp} (F : FnG g P w K mg base k f fd ps sp)
    (h : ∀ vs H Q E, sp' vs H Q E → sp vs H Q E) : FnG g P w K mg base k f fd ps sp' where
  len := fun vs H Q E q => F.len vs H Q E (h _ _ _ _ q)
  run := fun A outer s H args us vs Q E r gd e0 hb hv q => F.run A outer s H args us vs Q E r gd e0 hb hv (h _ _ _ _ q)

/-- a def by its body -/
theorem FunD.okG {x qual : Str} {params : Arguments} {body : List Stmt} {scope : Scope} {dvs : List V} {kws : List (Str × V)} {f : Addr} {fd : FuncData} {N ps : List Str} {k : Nat} {sp : Sp}
    (F : FunD K x qual params body scope dvs kws f fd) (S : FnScope N ps scope) (len : ∀ vs H Q E, sp vs H Q E → vs.length = ps.length)
    (hb : ∀ (cdv : Value) (A : Around) (outer : List Env) (s : Shared) (H : Hp) (vs : List V) (Q : VK) (E : XK),
      Room k (A.deeper (envOfC qual scope s.heap.objs.size f cdv)) → Gd g (A.deeper (envOfC qual scope s.heap.objs.size f cdv)) → sp vs H Q E →
      ∃ t, PSs (cxOf (L2.CX P w) P w K mg base N qual scope f cdv A outer s H E) body t ∧ t { nx := fun _ H' => Q .non H', rt := Q } (start N vs) H) :
    FnG g P w K mg base (k + 1) f fd ps sp := by
  obtain ⟨oc, od, dV, kV, doc, pm, an, cdv, ct, osl, rfl, lk, hcd, _, _⟩ := F.ex
  refine ⟨len, fun A outer s H args us vs Q E r gd e0 bnd rel q0 => ?_⟩
  have vl := len _ _ _ _ q0
  have KX : K.In s.heap := e0.mod.kin.keeps fun b o z => (e0.bs b o z).1
  have nl : s.heap.NoLimit := e0.mod.nolimit.keeps fun b o z => (e0.bs b o z).1
  have kd : ∀ y ∈ ps.zip us, scope.names.lookup y.1 = some .local ∨ (scope.names.lookup y.1 = some .cell ∧ ((cellsFrom (s.heap.objs.size + 1) scope.names []).lookup y.1).isSome = true) := by
    intro y hy
    rcases S.par y.1 (List.of_mem_zip (show (y.1, y.2) ∈ ps.zip us from hy)).1 with z | z
    · exact Or.inl z
    · exact Or.inr ⟨z, PySem.W.cellsFrom_some _ _ _ (Or.inl z)⟩
  refine codeAny_call_function r.depth (KX _ _ lk) rfl S.co S.gen rfl (PySem.W.codeRec_of KX hcd) (bnd _ _ _ _ ?_)
  refine wpAny_newFunctionEnv_cells S.kind kd fun env ev s1 ic => ?_
  subst ev
  refine ⟨nl.keeps ic.toInCall.keep, codeAny_func ?_⟩
  obtain ⟨t, ht, q1⟩ := hb cdv A outer s H vs Q E (r.deeper _) (gd.deeper _) q0
  have I0 := inv_start (CX := L2.CX P w) (P := P) (w := w) (qual := qual) (f := f) (cd := cdv) (E := E) S r.hd e0 vl rel ic
  refine wpAny_mono (ht.run [] s1 (start N vs) H _ I0 q1) (fun fl s' z => ?_) fun e s' z => z
  match fl, z with
  | .ret u, ⟨v, σ', H', J, rv, q⟩ => exact ⟨v, H', J.os, J.bare, J.base, J.hok, rv, q⟩
  | .next, ⟨σ', H', J, q⟩ => exact ⟨.non, H', J.os, J.bare, J.base, J.hok, rfl, q⟩
  | .brk, ⟨_, _, _, q⟩ => exact q.elim
  | .cont, ⟨_, _, _, q⟩ => exact q.elim
end

/-- a def (a datum of the head) that stands at f and keeps its promise -/
structure Pr (g : Prop) (P : Program) (w : World) (K : PySem.W.Frag) (mg : Str → Option Value) (base : Heap) (k : Nat) (f : Addr) (d : He.DefD) (ps : List Str) (sp : Sp) : Prop where
  ex : ∃ fd, FunD K d.name d.qual d.params d.body d.scope (d.dvs K) (d.kws K) f fd ∧ FnG g P w K mg base k f fd ps sp
/-- how a call with n values and the keywords ks binds: gV puts them (and defaults) in the parameters' order -/
def Bd (d : He.DefD) (ps : List Str) (n : Nat) (ks : List Str) (gV : PySem.W.Frag → List V → List V → List V) : Prop :=
  ∀ (K : PySem.W.Frag) (f : Addr) (fd : FuncData), FunD K d.name d.qual d.params d.body d.scope (d.dvs K) (d.kws K) f fd → ∃ gg, KBn K fd ps n ks gg (gV K)
theorem Bd.plain {d : He.DefD} {ps : List Str} {n : Nat} (hn : n = ps.length) (hd : d.dfl = []) (hk : d.kwd = [])
    (h : ∀ (kV doc pm : Value) (an : Option Addr) (cdv ct : Value) (us : List Value), us.length = ps.length →
      bindArgs (PySem.W.fnOf d.name d.qual d.params d.body d.scope .none kV doc pm an cdv ct) ⟨us, []⟩ = pure (ps.zip us)) : Bd d ps n [] (fun _ vs _ => vs) := by
  subst hn
  intro K f fd F
  have e1 : d.dvs K = [] := by unfold He.DefD.dvs; rw [hd]; rfl
  have e2 : d.kws K = [] := by unfold He.DefD.kws; rw [hk]; rfl
  rw [e1, e2] at F
  have B := F.bindsN h
  refine ⟨fun us _ => us, ⟨fun s us ws X l1 l2 => ?_, fun r _ => r⟩⟩
  cases ws with
  | nil =>
    have z := B s us X (by rw [List.append_nil]; exact l1)
    rw [List.append_nil] at z
    exact z
  | cons a b => cases l2

section
variable {X : Cx} {g : Prop} {k n : Nat} {f C : Addr} {d : He.DefD} {ps ks : List Str} {gV : PySem.W.Frag → List V → List V → List V} {sp : Sp} {E : XK} {x m : Str} {p pos apos : Pos} {e o : Expr} {es : List Expr} {kws : List Keyword} {ta : TE} {t tk : TA}
/-- the callee runs -/
theorem run_g {fd : FuncData} {gg : List Value → List Value → List Value} {gW : List V → List V → List V} {pins : List (Addr × Obj)} {σ : L2.St} {H : Hp} {s : Shared} {Q : VK} {us ws : List Value} {vs zs : List V}
    (F : FnG g X.prog X.w X.K X.mg X.base k f fd ps sp) (hr : Room k X.A) (hgd : Gd g X.A) (hb : KBn X.K fd ps n ks gg gW) (hx : Passes (L2.CX X.prog X.w) X E)
    (I : Inv X pins σ H s) (r : Vals vs us) (rz : Vals zs ws) (l1 : vs.length = n) (l2 : zs.length = ks.length) (h : sp (gW vs zs) H Q E) :
    wpAny (model X.prog X.w) X.A (call (.ref f) us (ks.zip ws)) (EP X pins σ Q) X.xe s := by
  refine wpAny_call (codeAny_mono (F.run X.A X.stack s H ⟨us, ks.zip ws⟩ (gg us ws) (gW vs zs) Q E hr hgd I.env0 (hb.to s us ws I.kIn (r.length.symm.trans l1) (rz.length.symm.trans l2)) (hb.rel r rz) h) fun z s' hq => ?_)
  match z, hq with
  | .error e, hq => exact hx pins σ H s e s' I hq
  | .ok (.ret u), hq => exact I.after hq
  | .ok .next, hq => exact False.elim hq
  | .ok .brk, hq => exact False.elim hq
  | .ok .cont, hq => exact False.elim hq

/-- a call's reading: the values, the keywords' values, the promise -/
def zCall (K : PySem.W.Frag) (n m : Nat) (gV : PySem.W.Frag → List V → List V → List V) (sp : Sp) (E : XK) (t tk : TA) : TE := fun σ H Q =>
  t σ H fun vs H1 => tk σ H1 fun zs H2 => vs.length = n ∧ zs.length = m ∧ sp (gV K vs zs) H2 Q E

theorem pe_fk (F : Pr g X.prog X.w X.K X.mg X.base k f d ps sp) (hr : Room k X.A) (hgd : Gd g X.A) (hg : Gl X x) (hm : X.mg x = some (.ref f)) (hb : Bd d ps n ks gV) (hx : Passes (L2.CX X.prog X.w) X E)
    (ha : PA X (e :: es) t) (hkw : PK X kws tk) (hall : (backToKw pos (keywordEach kws X.env)).all (·.1.isSome) = true := by rfl)
    (hks : (backToKw pos (keywordEach kws X.env)).filterMap (·.1) = ks := by rfl) (hdb : (x == ("__debug__" : Str)) = false := by decide)
    (he : starEach (e :: es) X.env = (false, eval e X.env) :: starEach es X.env := by rfl)
    (hpl : ((backTo pos (starEach (e :: es) X.env)).any (·.1) || (backToKw pos (keywordEach kws X.env)).any (·.1.isNone)) = false := by rfl) :
    PE X (.Call (.Name x p) (e :: es) kws pos) (zCall X.K n ks.length gV sp E t tk) := by
  obtain ⟨fd, FD, OK⟩ := F.ex
  obtain ⟨gg, B⟩ := hb _ _ _ FD
  refine ⟨fun pins s σ H Q I h => ?_⟩
  refine wpAny_Call_Name_kw (ld_glob I hg hm ?_ hdb)
  refine PySem.W.callWith_KW (h₀ := X.base) I.ok.mod.kin FD.kp hall ?_ hpl he
  refine thn (ha.run pos pins s σ H _ I h) fun us s1 ⟨vs, H1, I1, r, q⟩ => ?_
  refine thn (hkw.run pos pins s1 σ H1 _ I1 q) fun ws s2 ⟨zs, H2, I2, rz, l1, l2, q2⟩ => ⟨I2.kIn, ?_⟩
  rw [hks]
  exact run_g OK hr hgd B hx I2 r rz l1 l2 q2
theorem pe_fk0 (F : Pr g X.prog X.w X.K X.mg X.base k f d ps sp) (hr : Room k X.A) (hgd : Gd g X.A) (hg : Gl X x) (hm : X.mg x = some (.ref f)) (hb : Bd d ps n ks gV) (hx : Passes (L2.CX X.prog X.w) X E)
    (hkw : PK X kws tk) (hall : (backToKw pos (keywordEach kws X.env)).all (·.1.isSome) = true := by rfl)
    (hks : (backToKw pos (keywordEach kws X.env)).filterMap (·.1) = ks := by rfl) (hdb : (x == ("__debug__" : Str)) = false := by decide)
    (hpl : ((backTo pos (starEach [] X.env)).any (·.1) || (backToKw pos (keywordEach kws X.env)).any (·.1.isNone)) = false := by rfl) :
    PE X (.Call (.Name x p) [] kws pos) (zCall X.K n ks.length gV sp E tNil tk) := by
  obtain ⟨fd, FD, OK⟩ := F.ex
  obtain ⟨gg, B⟩ := hb _ _ _ FD
  refine ⟨fun pins s σ H Q I h => ?_⟩
  refine wpAny_Call_Name_kw (ld_glob I hg hm ?_ hdb)
  refine PySem.W.callWith_KW0 (h₀ := X.base) I.ok.mod.kin FD.kp hall ?_ hpl
  refine thn (hkw.run pos pins s σ H _ I h) fun ws s2 ⟨zs, H2, I2, rz, l1, l2, q2⟩ => ⟨I2.kIn, ?_⟩
  rw [hks]
  exact run_g (us := []) (vs := []) OK hr hgd B hx I2 .nil rz l1 l2 q2
theorem pe_f (F : Pr g X.prog X.w X.K X.mg X.base k f d ps sp) (hr : Room k X.A) (hgd : Gd g X.A) (hg : Gl X x) (hm : X.mg x = some (.ref f)) (hb : Bd d ps n [] gV) (hx : Passes (L2.CX X.prog X.w) X E)
    (ha : PA X (e :: es) t) (hdb : (x == ("__debug__" : Str)) = false := by decide) (he : starEach (e :: es) X.env = (false, eval e X.env) :: starEach es X.env := by rfl)
    (hpl : (backTo pos (starEach es X.env)).any (·.1) = false := by rfl) : PE X (.Call (.Name x p) (e :: es) [] pos) (zCall X.K n 0 gV sp E t tNil) := by
  obtain ⟨fd, FD, OK⟩ := F.ex
  obtain ⟨gg, B⟩ := hb _ _ _ FD
  refine ⟨fun pins s σ H Q I h => ?_⟩
  refine wpAny_Call_Name_kw (ld_glob I hg hm ?_ hdb)
  refine PySem.W.callWith_K (h₀ := X.base) I.ok.mod.kin FD.kp ?_ he hpl
  refine thn (ha.run pos pins s σ H _ I h) fun us s1 ⟨vs, H1, I1, r, l1, l2, q⟩ => ⟨I1.kIn, ?_⟩
  exact run_g (ws := []) (zs := []) (ks := []) OK hr hgd B hx I1 r .nil l1 l2 q
theorem pe_f0 (F : Pr g X.prog X.w X.K X.mg X.base k f d ps sp) (hr : Room k X.A) (hgd : Gd g X.A) (hg : Gl X x) (hm : X.mg x = some (.ref f)) (hb : Bd d ps n [] gV) (hx : Passes (L2.CX X.prog X.w) X E)
    (hdb : (x == ("__debug__" : Str)) = false := by decide) : PE X (.Call (.Name x p) [] [] pos) (zCall X.K n 0 gV sp E tNil tNil) := by
  obtain ⟨fd, FD, OK⟩ := F.ex
  obtain ⟨gg, B⟩ := hb _ _ _ FD
  refine ⟨fun pins s σ H Q I ⟨l1, l2, q⟩ => ?_⟩
  refine wpAny_Call_Name_kw (ld_glob I hg hm ?_ hdb)
  exact PySem.W.callWith_K0 I.kIn FD.kp (run_g (us := []) (vs := []) (ws := []) (zs := []) (ks := []) OK hr hgd B hx I .nil .nil l1 l2 q)

/-- a method of the class at C: the promise of the def behind the name m -/
structure Mt (g : Prop) (X : Cx) (C : Addr) (m : Str) (n : Nat) (ks : List Str) (gV : PySem.W.Frag → List V → List V → List V) (sp : Sp) : Prop where
  cl : Cls X.K C
  ex : ∃ (k : Nat) (f : Addr) (d : He.DefD) (ps : List Str), Meth X.K C m f ∧ Pr g X.prog X.w X.K X.mg X.base k f d ps sp ∧ Bd d ps n ks gV ∧ Room k X.A ∧ Gd g X.A
/-- o.m(..): the object's class is looked up in the heap, and its method's promise is asked -/
def zMeth (X : Cx) (m : Str) (ks : List Str) (E : XK) (ta : TE) (t tk : TA) : TE := fun σ H Q => ta σ H fun x H1 =>
  ∃ (g : Prop) (a C dx : Addr) (fs : List (Str × V)) (n : Nat) (gV : PySem.W.Frag → List V → List V → List V) (sp : Sp), x = .ref a ∧ H1 a = some (.ins C dx fs) ∧ fs.lookup m = none ∧ Mt g X C m n ks gV sp ∧
    t σ H1 fun vs H2 => tk σ H2 fun zs H3 => (V.ref a :: vs).length = n ∧ zs.length = ks.length ∧ sp (gV X.K (.ref a :: vs) zs) H3 Q E
theorem pe_m {pl : Sem Bool} (hx : Passes (L2.CX X.prog X.w) X E) (he : PE X o ta) (ha : PA X (e :: es) t)
    (hst : starEach (e :: es) X.env = (false, eval e X.env) :: starEach es X.env := by rfl) (hpl : (backTo pos (starEach es X.env)).any (·.1) = false := by rfl)
    (ht : eval (.Call (.Attribute o m apos) (e :: es) [] pos) X.env = (do
      let ov ← eval o X.env; standAt apos.atName
      let (f, first) ← holding [ov] (getMethod ov m pl); callWith pos f first (backTo pos (starEach (e :: es) X.env)) (backToKw pos (keywordEach [] X.env))) := by rfl) :
    PE X (.Call (.Attribute o m apos) (e :: es) [] pos) (zMeth X m [] E ta t tNil) := by
  refine ⟨fun pins s σ H Q I h => ?_⟩
  refine PySem.W.methodCall_KW (pl := pl) (thn (he.run pins s σ H _ I h) fun u s1 ⟨x, H1, I1, rx, g, a, C, dx, fs, n, gV, sp, ex, ea, l, M, q⟩ => ?_) ht
  subst ex
  obtain rfl : u = Value.ref a := rx
  obtain ⟨k, f, d, ps, hm, F, hb, hr, hgd⟩ := M.ex
  obtain ⟨fd, FD, OK⟩ := F.ex
  obtain ⟨gg, B⟩ := hb _ _ _ FD
  refine getmeth_ok I1 ea M.cl hm l ?_
  refine PySem.W.callWith_K (first := [.ref a]) (h₀ := X.base) I.ok.mod.kin hm.kp ?_ hst hpl
  refine thn (ha.run pos pins s1 σ H1 _ I1 q) fun us s2 ⟨vs, H2, I2, r, l1, l2, q2⟩ => ⟨I2.kIn, ?_⟩
  exact run_g (us := .ref a :: us) (vs := .ref a :: vs) (ws := []) (zs := []) (ks := []) OK hr hgd B hx I2 (.cons rfl r) .nil l1 l2 q2
theorem pe_m0 {pl : Sem Bool} (hx : Passes (L2.CX X.prog X.w) X E) (he : PE X o ta)
    (ht : eval (.Call (.Attribute o m apos) [] [] pos) X.env = (do
      let ov ← eval o X.env; standAt apos.atName
      let (f, first) ← holding [ov] (getMethod ov m pl); callWith pos f first (backTo pos (starEach [] X.env)) (backToKw pos (keywordEach [] X.env))) := by rfl) :
    PE X (.Call (.Attribute o m apos) [] [] pos) (zMeth X m [] E ta tNil tNil) := by
  refine ⟨fun pins s σ H Q I h => ?_⟩
  refine PySem.W.methodCall_KW (pl := pl) (thn (he.run pins s σ H _ I h) fun u s1 ⟨x, H1, I1, rx, g, a, C, dx, fs, n, gV, sp, ex, ea, l, M, l1, l2, q⟩ => ?_) ht
  subst ex
  obtain rfl : u = Value.ref a := rx
  obtain ⟨k, f, d, ps, hm, F, hb, hr, hgd⟩ := M.ex
  obtain ⟨fd, FD, OK⟩ := F.ex
  obtain ⟨gg, B⟩ := hb _ _ _ FD
  refine getmeth_ok I1 ea M.cl hm l ?_
  exact PySem.W.callWith_K0 (first := [.ref a]) I1.kIn hm.kp (run_g (us := [.ref a]) (vs := [.ref a]) (ws := []) (zs := []) (ks := []) OK hr hgd B hx I1 (.cons rfl .nil) .nil l1 l2 q)
theorem pe_mk {pl : Sem Bool} (hx : Passes (L2.CX X.prog X.w) X E) (he : PE X o ta) (ha : PA X (e :: es) t) (hkw : PK X kws tk)
    (hall : (backToKw pos (keywordEach kws X.env)).all (·.1.isSome) = true := by rfl) (hks : (backToKw pos (keywordEach kws X.env)).filterMap (·.1) = ks := by rfl)
    (hst : starEach (e :: es) X.env = (false, eval e X.env) :: starEach es X.env := by rfl)
    (hpl : ((backTo pos (starEach (e :: es) X.env)).any (·.1) || (backToKw pos (keywordEach kws X.env)).any (·.1.isNone)) = false := by rfl)
    (ht : eval (.Call (.Attribute o m apos) (e :: es) kws pos) X.env = (do
      let ov ← eval o X.env; standAt apos.atName
      let (f, first) ← holding [ov] (getMethod ov m pl); callWith pos f first (backTo pos (starEach (e :: es) X.env)) (backToKw pos (keywordEach kws X.env))) := by rfl) :
    PE X (.Call (.Attribute o m apos) (e :: es) kws pos) (zMeth X m ks E ta t tk) := by
  refine ⟨fun pins s σ H Q I h => ?_⟩
  refine PySem.W.methodCall_KW (pl := pl) (thn (he.run pins s σ H _ I h) fun u s1 ⟨x, H1, I1, rx, g, a, C, dx, fs, n, gV, sp, ex, ea, l, M, q⟩ => ?_) ht
  subst ex
  obtain rfl : u = Value.ref a := rx
  obtain ⟨k, f, d, ps, hm, F, hb, hr, hgd⟩ := M.ex
  obtain ⟨fd, FD, OK⟩ := F.ex
  obtain ⟨gg, B⟩ := hb _ _ _ FD
  refine getmeth_ok I1 ea M.cl hm l ?_
  refine PySem.W.callWith_KW (first := [.ref a]) (h₀ := X.base) I.ok.mod.kin hm.kp hall ?_ hpl hst
  refine thn (ha.run pos pins s1 σ H1 _ I1 q) fun us s2 ⟨vs, H2, I2, r, q2⟩ => ?_
  refine thn (hkw.run pos pins s2 σ H2 _ I2 q2) fun ws s3 ⟨zs, H3, I3, rz, l1, l2, q3⟩ => ⟨I3.kIn, ?_⟩
  rw [hks]
  exact run_g (us := .ref a :: us) (vs := .ref a :: vs) OK hr hgd B hx I3 (.cons rfl r) rz l1 l2 q3
theorem pe_mk0 {pl : Sem Bool} (hx : Passes (L2.CX X.prog X.w) X E) (he : PE X o ta) (hkw : PK X kws tk)
    (hall : (backToKw pos (keywordEach kws X.env)).all (·.1.isSome) = true := by rfl) (hks : (backToKw pos (keywordEach kws X.env)).filterMap (·.1) = ks := by rfl)
    (hpl : ((backTo pos (starEach [] X.env)).any (·.1) || (backToKw pos (keywordEach kws X.env)).any (·.1.isNone)) = false := by rfl)
    (ht : eval (.Call (.Attribute o m apos) [] kws pos) X.env = (do
      let ov ← eval o X.env; standAt apos.atName
      let (f, first) ← holding [ov] (getMethod ov m pl); callWith pos f first (backTo pos (starEach [] X.env)) (backToKw pos (keywordEach kws X.env))) := by rfl) :
    PE X (.Call (.Attribute o m apos) [] kws pos) (zMeth X m ks E ta tNil tk) := by
  refine ⟨fun pins s σ H Q I h => ?_⟩
  refine PySem.W.methodCall_KW (pl := pl) (thn (he.run pins s σ H _ I h) fun u s1 ⟨x, H1, I1, rx, g, a, C, dx, fs, n, gV, sp, ex, ea, l, M, q⟩ => ?_) ht
  subst ex
  obtain rfl : u = Value.ref a := rx
  obtain ⟨k, f, d, ps, hm, F, hb, hr, hgd⟩ := M.ex
  obtain ⟨fd, FD, OK⟩ := F.ex
  obtain ⟨gg, B⟩ := hb _ _ _ FD
  refine getmeth_ok I1 ea M.cl hm l ?_
  refine PySem.W.callWith_KW0 (first := [.ref a]) (h₀ := X.base) I.ok.mod.kin hm.kp hall ?_ hpl
  refine thn (hkw.run pos pins s1 σ H1 _ I1 q) fun ws s3 ⟨zs, H3, I3, rz, l1, l2, q3⟩ => ⟨I3.kIn, ?_⟩
  rw [hks]
  exact run_g (us := [.ref a]) (vs := [.ref a]) OK hr hgd B hx I3 (.cons rfl .nil) rz l1 l2 q3

/-- C(..): a new instance and its dict, then __init__ (n counts the instance) -/
def zMake (K : PySem.W.Frag) (C : Addr) (n m : Nat) (gV : PySem.W.Frag → List V → List V → List V) (sp : Sp) (E : XK) (t tk : TA) : TE := fun σ H Q =>
  t σ H fun vs H1 => tk σ H1 fun zs H2 => vs.length + 1 = n ∧ zs.length = m ∧ ∀ x dx, H2 x = none → H2 dx = none → dx ≠ x →
    sp (gV K (.ref x :: vs) zs) (upd (upd H2 dx (.own x)) x (.ins C dx [])) (fun v H3 => v = .non ∧ Q (.ref x) H3) E
theorem run_mk {fd : FuncData} {gg : List Value → List Value → List Value} {gW : List V → List V → List V} {pins : List (Addr × Obj)} {σ : L2.St} {H : Hp} {s : Shared} {Q : VK} {us ws : List Value} {vs zs : List V}
    (M : L2.Mk X.K C f) (F : FnG g X.prog X.w X.K X.mg X.base k f fd ps sp) (hr : Room (k + 1) X.A) (hgd : Gd g X.A) (hb : KBn X.K fd ps n ks gg gW) (hx : Passes (L2.CX X.prog X.w) X E)
    (I : Inv X pins σ H s) (r : Vals vs us) (rz : Vals zs ws) (l1 : vs.length + 1 = n) (l2 : zs.length = ks.length)
    (h : ∀ x dx, H x = none → H dx = none → dx ≠ x → sp (gW (.ref x :: vs) zs) (upd (upd H dx (.own x)) x (.ins C dx [])) (fun v H2 => v = .non ∧ Q (.ref x) H2) E) :
    wpAny (model X.prog X.w) X.A (call (.ref C) us (ks.zip ws)) (EP X pins σ Q) X.xe s := by
  have q0 := h (s.heap.objs.size + 1) s.heap.objs.size (I.hok.fresh (Nat.le_succ _)) (I.hok.fresh (Nat.le_refl _)) (Nat.ne_of_lt (Nat.lt_succ_self _))
  have J := Inv.made (C := C) I
  have rs : Vals (V.ref (s.heap.objs.size + 1) :: vs) (Value.ref (s.heap.objs.size + 1) :: us) := .cons rfl r
  have ln : (Value.ref (s.heap.objs.size + 1) :: us).length = n := by rw [List.length_cons, ← r.length]; exact l1
  refine wpAny_call (make_map (f := f) I.kIn M.makes M.init (beq_iff_eq.mp M.fn) (codeAny_mono (F.run _ X.stack _ _ ⟨Value.ref (s.heap.objs.size + 1) :: us, ks.zip ws⟩ (gg (Value.ref (s.heap.objs.size + 1) :: us) ws) _ _ E
    (hr.make C us (ks.zip ws)) (hgd.make C us (ks.zip ws)) (J.env0.make C us (ks.zip ws)) (hb.to _ (Value.ref (s.heap.objs.size + 1) :: us) ws J.kIn ln (rz.length.symm.trans l2)) (hb.rel rs rz) q0) fun z s' hq => ?_))
  match z, hq with
  | .error e, hq => exact hx pins σ _ _ e s' J hq
  | .ok (.ret u), hq =>
    obtain ⟨v, H', I3, rv, ev, q3⟩ := J.after hq
    subst ev
    exact ⟨rv, ⟨V.ref (s.heap.objs.size + 1), H', I3, rfl, q3⟩⟩
  | .ok .next, hq => exact False.elim hq
  | .ok .brk, hq => exact False.elim hq
  | .ok .cont, hq => exact False.elim hq
section
variable (M : L2.Mk X.K C f) (F : Pr g X.prog X.w X.K X.mg X.base k f d ps sp) (hr : Room (k + 1) X.A) (hgd : Gd g X.A) (hg : Gl X x) (hm : X.mg x = some (.ref C)) (hx : Passes (L2.CX X.prog X.w) X E)
include M F hr hgd hg hm hx
theorem pe_new (hb : Bd d ps n [] gV) (ha : PA X (e :: es) t) (hdb : (x == ("__debug__" : Str)) = false := by decide) (he : starEach (e :: es) X.env = (false, eval e X.env) :: starEach es X.env := by rfl)
    (hpl : (backTo pos (starEach es X.env)).any (·.1) = false := by rfl) : PE X (.Call (.Name x p) (e :: es) [] pos) (zMake X.K C n 0 gV sp E t tNil) := by
  obtain ⟨fd, FD, OK⟩ := F.ex
  obtain ⟨gg, B⟩ := hb _ _ _ FD
  refine ⟨fun pins s σ H Q I h => ?_⟩
  refine wpAny_Call_Name_kw (ld_glob I hg hm ?_ hdb)
  refine PySem.W.callWith_K (h₀ := X.base) I.ok.mod.kin M.kp ?_ he hpl
  refine thn (ha.run pos pins s σ H _ I h) fun us s1 ⟨vs, H1, I1, r, l1, l2, q⟩ => ⟨I1.kIn, ?_⟩
  exact run_mk (ws := []) (zs := []) (ks := []) M OK hr hgd B hx I1 r .nil l1 l2 q
theorem pe_new0 (hb : Bd d ps n [] gV) (hdb : (x == ("__debug__" : Str)) = false := by decide) : PE X (.Call (.Name x p) [] [] pos) (zMake X.K C n 0 gV sp E tNil tNil) := by
  obtain ⟨fd, FD, OK⟩ := F.ex
  obtain ⟨gg, B⟩ := hb _ _ _ FD
  refine ⟨fun pins s σ H Q I ⟨l1, l2, q⟩ => ?_⟩
  refine wpAny_Call_Name_kw (ld_glob I hg hm ?_ hdb)
  exact PySem.W.callWith_K0 I.kIn M.kp (run_mk (us := []) (vs := []) (ws := []) (zs := []) (ks := []) M OK hr hgd B hx I .nil .nil l1 l2 q)
theorem pe_newk (hb : Bd d ps n ks gV) (ha : PA X (e :: es) t) (hkw : PK X kws tk)
    (hall : (backToKw pos (keywordEach kws X.env)).all (·.1.isSome) = true := by rfl) (hks : (backToKw pos (keywordEach kws X.env)).filterMap (·.1) = ks := by rfl) (hdb : (x == ("__debug__" : Str)) = false := by decide)
    (he : starEach (e :: es) X.env = (false, eval e X.env) :: starEach es X.env := by rfl)
    (hpl : ((backTo pos (starEach (e :: es) X.env)).any (·.1) || (backToKw pos (keywordEach kws X.env)).any (·.1.isNone)) = false := by rfl) :
    PE X (.Call (.Name x p) (e :: es) kws pos) (zMake X.K C n ks.length gV sp E t tk) := by
  obtain ⟨fd, FD, OK⟩ := F.ex
  obtain ⟨gg, B⟩ := hb _ _ _ FD
  refine ⟨fun pins s σ H Q I h => ?_⟩
  refine wpAny_Call_Name_kw (ld_glob I hg hm ?_ hdb)
  refine PySem.W.callWith_KW (h₀ := X.base) I.ok.mod.kin M.kp hall ?_ hpl he
  refine thn (ha.run pos pins s σ H _ I h) fun us s1 ⟨vs, H1, I1, r, q⟩ => ?_
  refine thn (hkw.run pos pins s1 σ H1 _ I1 q) fun ws s2 ⟨zs, H2, I2, rz, l1, l2, q2⟩ => ⟨I2.kIn, ?_⟩
  rw [hks]
  exact run_mk M OK hr hgd B hx I2 r rz l1 l2 q2
theorem pe_newk0 (hb : Bd d ps n ks gV) (hkw : PK X kws tk)
    (hall : (backToKw pos (keywordEach kws X.env)).all (·.1.isSome) = true := by rfl) (hks : (backToKw pos (keywordEach kws X.env)).filterMap (·.1) = ks := by rfl) (hdb : (x == ("__debug__" : Str)) = false := by decide)
    (hpl : ((backTo pos (starEach [] X.env)).any (·.1) || (backToKw pos (keywordEach kws X.env)).any (·.1.isNone)) = false := by rfl) :
    PE X (.Call (.Name x p) [] kws pos) (zMake X.K C n ks.length gV sp E tNil tk) := by
  obtain ⟨fd, FD, OK⟩ := F.ex
  obtain ⟨gg, B⟩ := hb _ _ _ FD
  refine ⟨fun pins s σ H Q I h => ?_⟩
  refine wpAny_Call_Name_kw (ld_glob I hg hm ?_ hdb)
  refine PySem.W.callWith_KW0 (h₀ := X.base) I.ok.mod.kin M.kp hall ?_ hpl
  refine thn (hkw.run pos pins s σ H _ I h) fun ws s2 ⟨zs, H2, I2, rz, l1, l2, q2⟩ => ⟨I2.kIn, ?_⟩
  rw [hks]
  exact run_mk (us := []) (vs := []) M OK hr hgd B hx I2 .nil rz l1 l2 q2
end
end
end Z

/-! Z, part two: statements with their ways out as arguments; operations by values; heaps by names. -/
namespace Z
open PySem PySem.Spec PyProof.Rows L2

/-! ### heaps -/
structure New (H : Hp) (p : Addr) (o : HO) (H' : Hp) : Prop where
  fr : H p = none
  eq : H' = upd H p o
structure Up (H : Hp) (p : Addr) (o : HO) (H' : Hp) : Prop where
  was : ∃ u, H p = some u
  eq : H' = upd H p o
/-- all but a stands -/
structure But (a : Addr) (H H' : Hp) : Prop where
  all : ∀ b u, b ≠ a → H b = some u → H' b = some u
section
variable {H H' H1 H2 : Hp} {a b p : Addr} {o u : HO}
theorem New.at (n : New H p o H') : H' p = some o := by rw [n.eq]; exact upd_same
theorem New.get (n : New H p o H') (h : H a = some u) : H' a = some u := by rw [n.eq, upd_ne (ne_of_none h n.fr)]; exact h
theorem New.same (n : New H p o H') : Same H H' := fun _ _ h => n.get h
theorem New.ne (n : New H p o H') (h : H a = some u) : a ≠ p := ne_of_none h n.fr
theorem New.ne' (n : New H p o H') (h : H a = some u) : p ≠ a := (ne_of_none h n.fr).symm
theorem Up.at (n : Up H p o H') : H' p = some o := by rw [n.eq]; exact upd_same
theorem Up.get (n : Up H p o H') (ne : a ≠ p) (h : H a = some u) : H' a = some u := by rw [n.eq, upd_ne ne]; exact h
theorem Up.but (n : Up H p o H') : But p H H' := ⟨fun _ _ ne h => n.get ne h⟩
theorem same_get (s : Same H H') (h : H a = some u) : H' a = some u := s a u h
theorem But.get (n : But p H H') (ne : a ≠ p) (h : H a = some u) : H' a = some u := n.all a u ne h
theorem But.refl : But p H H := ⟨fun _ _ _ h => h⟩
theorem But.trans (x : But p H H1) (y : But p H1 H2) : But p H H2 := ⟨fun b u ne h => y.get ne (x.get ne h)⟩
theorem But.ofSame (x : Same H H1) : But p H H1 := ⟨fun b u _ h => x b u h⟩
/-- p is new: what is done to it doesn't matter to what stood -/
theorem But.back (x : But p H H1) (f : H p = none) : Same H H1 := fun b u h => x.get (ne_of_none h f) h
theorem Same.thenBut (x : Same H H1) (y : But p H1 H2) (f : H p = none) : Same H H2 := fun b u h => y.get (ne_of_none h f) (x b u h)
theorem Same.up (x : Same H H1) (y : Up H1 p o H2) (f : H p = none) : Same H H2 := Same.thenBut x y.but f
theorem Same.new (x : Same H H1) (y : New H1 p o H2) : Same H H2 := fun b u h => y.get (x b u h)
theorem But.new (x : But a H H1) (y : New H1 p o H2) : But a H H2 := ⟨fun b u ne h => y.get (x.get ne h)⟩
theorem But.up (x : But a H H1) (y : Up H1 a o H2) : But a H H2 := x.trans y.but
theorem But.upNew (x : But a H H1) (y : Up H1 p o H2) (f : H p = none) : But a H H2 := ⟨fun b u ne h => y.get (ne_of_none h f) (x.get ne h)⟩
theorem But.same (x : But a H H1) (y : Same H1 H2) : But a H H2 := x.trans (.ofSame y)
theorem free_back (s : Same H H') (h : H' p = none) : H p = none := Same.free s h
theorem But.free (s : But a H H') (h : H' p = none) (ne : p ≠ a) : H p = none := by
  cases e : H p with
  | none => rfl
  | some u => rw [s.get ne e] at h; cases h
end
section
variable {H H1 H2 : Hp} {a p : Addr} {o : HO}
theorem fr_new (y : New H1 p o H2) (x : Same H H1) : Same H H2 := Same.new x y
theorem fr_same (y : Same H1 H2) (x : Same H H1) : Same H H2 := x.trans y
theorem fr_up (y : Up H1 p o H2) (x : Same H H1) (f : H p = none) : Same H H2 := Same.up x y f
theorem fr_but (y : But p H1 H2) (x : Same H H1) (f : H p = none) : Same H H2 := Same.thenBut x y f
theorem fb_new (y : New H1 p o H2) (x : But a H H1) : But a H H2 := x.new y
theorem fb_same (y : Same H1 H2) (x : But a H H1) : But a H H2 := x.same y
theorem fb_but (y : But a H1 H2) (x : But a H H1) : But a H H2 := x.trans y
theorem fb_up (y : Up H1 a o H2) (x : But a H H1) : But a H H2 := x.up y
theorem fb_upn (y : Up H1 p o H2) (x : But a H H1) (f : H p = none) : But a H H2 := x.upNew y f
theorem fb_butn (y : But p H1 H2) (x : But a H H1) (f : H p = none) : But a H H2 := ⟨fun b u ne h => y.get (ne_of_none h f) (x.get ne h)⟩
theorem fresh_by (n : New H1 p o H2) (s : Same H H1) : H p = none := free_back s n.fr
theorem fresh_at (n : H1 p = none) (s : Same H H1) : H p = none := free_back s n
theorem fresh_but (n : New H1 p o H2) (s : But a H H1) (ne : p ≠ a) : H p = none := s.free n.fr ne
end
theorem ne_fr {H : Hp} {a b : Addr} {u : HO} (f : H b = none) (h : H a = some u) : a ≠ b := ne_of_none h f
theorem ne_fr' {H : Hp} {a b : Addr} {u : HO} (f : H b = none) (h : H a = some u) : b ≠ a := (ne_of_none h f).symm
theorem sq_same {K : PySem.W.Frag} {H H' : Hp} {a : Addr} {xs : List V} (s : Same H H') (h : SqL K H a xs) : SqL K H' a xs := s.seq h
theorem sq_new {K : PySem.W.Frag} {H H' : Hp} {a p : Addr} {o : HO} {xs : List V} (n : New H p o H') (h : SqL K H a xs) : SqL K H' a xs := Same.seq n.same h
theorem i_wipe {σ σ2 : L2.St} {vs : List Nat} {G : Prop} (e : wipe σ2 vs = wipe σ vs) (h : G) : wipe σ2 vs = wipe σ vs ∧ G := ⟨e, h⟩
theorem in_new {G : V → Hp → Prop} {H : Hp} {o : HO} (h : ∀ p H', New H p o H' → G (.ref p) H') : ∀ p, H p = none → G (.ref p) (upd H p o) := fun p f => h p _ ⟨f, rfl⟩
theorem in_newA {G : Addr → Hp → Prop} {H : Hp} {o : HO} (h : ∀ p H', New H p o H' → G p H') : ∀ p, H p = none → G p (upd H p o) := fun p f => h p _ ⟨f, rfl⟩
theorem in_up {G : Hp → Prop} {H : Hp} {p : Addr} {o u : HO} (w : H p = some u) (h : ∀ H', Up H p o H' → G H') : G (upd H p o) := h _ ⟨⟨u, w⟩, rfl⟩

/-! ### statements: nx, what a return wants, break, continue, slots, heap -/
abbrev TZ := (L2.St → Hp → Prop) → VK → (L2.St → Hp → Prop) → (L2.St → Hp → Prop) → L2.St → Hp → Prop
def zS (t : TZ) : TS := fun D => t D.nx D.rt D.bk D.ct
section
variable {X : Cx} {st : Stmt} {rest : List Stmt} {t u : TZ} {pos : Pos} {e : Expr} {te : TE}
def zNext : TZ := fun nx _ _ _ σ H => nx σ H
def zSeq (t u : TZ) : TZ := fun nx rt bk ct σ H => t (fun σ H => u nx rt bk ct σ H) rt bk ct σ H
def zDrop (te : TE) : TZ := fun nx _ _ _ σ H => te σ H fun _ H1 => nx σ H1
def zRet (te : TE) : TZ := fun _ rt _ _ σ H => te σ H rt
def zRetN : TZ := fun _ rt _ _ _ H => rt .non H
def zBreak : TZ := fun _ _ bk _ σ H => bk σ H
def zCont : TZ := fun _ _ _ ct σ H => ct σ H
def zIf (c : TT) (t u : TZ) : TZ := fun nx rt bk ct σ H => c σ H fun b H1 => if b = true then t nx rt bk ct σ H1 else u nx rt bk ct σ H1
def zAsg (te : TE) (g : TG) : TZ := fun nx _ _ _ σ H => te σ H fun x H1 => g x σ H1 nx
def zAug (i : Nat) (te : TE) (ti : TIp) : TZ := fun nx _ _ _ σ H => ∃ x, σ[i]? = some (some x) ∧ te σ H fun y H1 => ti x y H1 fun z H2 => nx (σ.set i (some z)) H2
def zPar (i j : Nat) (ta : TA) : TZ := fun nx _ _ _ σ H => ta σ H fun vs H1 => ∃ v w, vs = [v, w] ∧ nx ((σ.set i (some v)).set j (some w)) H1
def zPar3 (i j l : Nat) (ta : TA) : TZ := fun nx _ _ _ σ H => ta σ H fun vs H1 => ∃ u v w, vs = [u, v, w] ∧ nx (((σ.set i (some u)).set j (some v)).set l (some w)) H1
def zFld (K : PySem.W.Frag) (ta tv : TE) (f : Str) : TZ := fun nx rt bk ct σ H => sFld K ta tv f ⟨nx, rt, bk, ct⟩ σ H
def zAugS (to ti te : TE) (tget : V → V → Hp → VK → Prop) (tip : TIp) (tset : TSet) : TZ := fun nx _ _ _ σ H =>
  to σ H fun o H1 => ti σ H1 fun i H2 => tget o i H2 fun x H3 => te σ H3 fun y H4 => tip x y H4 fun z H5 => tset o i z H5 fun H6 => nx σ H6
def zFldAug (K : PySem.W.Frag) (ta tv : TE) (rd : V → V → Hp → VK → Prop) (f : Str) : TZ := fun nx rt bk ct σ H => sFldAug K ta tv rd f ⟨nx, rt, bk, ct⟩ σ H
def zNever : TZ := fun _ _ _ _ _ _ => False
/-- a loop behind its iterator -/
def zLoop (J : It) (g : TG) (tb : TZ) (nx : L2.St → Hp → Prop) (rt : VK) (σ : L2.St) (H1 : Hp) : Prop :=
  ∃ W : Nat → Nat → L2.St → Hp → Prop, (∃ m, W 0 m σ H1) ∧ ∀ i m σ H, W i m σ H → (J.stop i H ∧ nx σ H) ∨ (J.go i H ∧ ∃ N : L2.St → Hp → Prop, (∀ σ' H', N σ' H' → ∃ m', m' < m ∧ W (i + 1) m' σ' H') ∧
    ∀ x H', J.yld i H x H' → g x σ H' fun σ2 H2 => tb N rt nx N σ2 H2)
def zFor (wi : TI) (g : TG) (tb : TZ) : TZ := fun nx rt _ _ σ H => wi σ H fun J H1 => zLoop J g tb nx rt σ H1
/-- a while's body, from a state with so great a measure -/
def zBody (W : Nat → L2.St → Hp → Prop) (m : Nat) (tb : TZ) (nx : L2.St → Hp → Prop) (rt : VK) (σ : L2.St) (H : Hp) : Prop :=
  ∃ N : L2.St → Hp → Prop, (∀ σ' H', N σ' H' → ∃ m', m' < m ∧ W m' σ' H') ∧ tb N rt nx N σ H
def zWhile (c : TT) (tb : TZ) : TZ := fun nx rt _ _ σ H => ∃ W : Nat → L2.St → Hp → Prop, (∃ m, W m σ H) ∧ ∀ m σ H, W m σ H →
  c σ H fun b H1 => if b = true then zBody W m tb nx rt σ H1 else nx σ H1

theorem zs_nil : PSs X [] (zS zNext) := pss_nil
theorem zs_cons (h1 : PS X st (zS t)) (h2 : PSs X rest (zS u)) : PSs X (st :: rest) (zS (zSeq t u)) := pss_cons h1 h2
theorem zs_one (h : PS X st (zS t)) : PSs X [st] (zS t) := pss_one h
theorem z_expr (he : PE X e te) (hs : swapsWith e none pos.line X.env = pure false := by rfl) : PS X (.Expr e pos) (zS (zDrop te)) := ps_expr he hs
theorem z_ret (he : PE X e te) : PS X (.Return (some e) pos) (zS (zRet te)) := ps_ret he
theorem z_retN : PS X (.Return none pos) (zS zRetN) := ps_retN
theorem z_pass : PS X (.Pass pos) (zS zNext) := ps_pass
theorem z_break : PS X (.Break pos) (zS zBreak) := ps_break
theorem z_continue : PS X (.Continue pos) (zS zCont) := ps_continue
theorem z_never : PS X st (zS zNever) := ps_never
theorem z_if {c : Expr} {a b : List Stmt} {tc : TT} (hc : PT X c tc) (ha : PSs X a (zS t)) (hb : PSs X b (zS u)) : PS X (.If c a b pos) (zS (zIf tc t u)) := ps_if hc ha hb
theorem z_asg {tg : Expr} {g : TG} (he : PE X e te) (hg : PG X tg g) (hs : swapsWithSole [tg] e pos.line X.env = pure false := by rfl) (hw : swappedStores [tg] e X.env = pure none := by rfl)
    (h1 : (assignEach [tg] X.env).map (·.2) = [assign tg X.env] := by rfl) : PS X (.Assign [tg] e pos) (zS (zAsg te g)) := ps_asg he hg hs hw h1
theorem z_set {i : Nat} {x : Str} {pos' : Pos} (hN : X.N.Nodup) (hi : X.N[i]? = some x) (hx : Loc X.env.scope x) (he : PE X e te) (hs : swapsWith e (some (.Name x pos')) pos.line X.env = pure false := by rfl)
    (hf : X.fn x = true ∨ X.env.scope.names.lookup x = some .local := by first | exact .inl rfl | exact .inr rfl | assumption) : PS X (.Assign [.Name x pos'] e pos) (zS (zAsg te (gName i))) := ps_set hN hi hx he hs hf
theorem z_aug {i : Nat} {x : Str} {op : Operator} {ti : TIp} {pos' : Pos} (hN : X.N.Nodup) (hi : X.N[i]? = some x) (hx : Loc X.env.scope x) (he : PE X e te) (ho : PIp X op ti)
    (hf : X.fn x = true ∨ X.env.scope.names.lookup x = some .local := by first | exact .inl rfl | exact .inr rfl | assumption) : PS X (.AugAssign (.Name x pos') op e pos) (zS (zAug i te ti)) := ps_aug hN hi hx he ho hf
theorem z_augS {o i : Expr} {to ti : TE} {tget : V → V → Hp → VK → Prop} {tip : TIp} {tset : TSet} {op : Operator} {tpos : Pos} (ho : PE X o to) (hi : PE X i ti) (hg : PGet X tget) (he : PE X e te) (hp : PIp X op tip) (hs : PSet X tset)
    (ha : ∀ ov iv new, augStore i ov iv new = (do holding [new, ov, iv] (setItem ov iv new); release [new, ov, iv] []; pure .next) := by intros; rfl) : PS X (.AugAssign (.Subscript o i tpos) op e pos) (zS (zAugS to ti te tget tip tset)) := ps_augS ho hi hg he hp hs ha
theorem z_fld {o : Expr} {ta : TE} {f : Str} {pos' : Pos} (ha : PE X o ta) (hv : PE X e te) (hs : swapsWith e (some (.Attribute o f pos')) pos.line X.env = pure false := by rfl) :
    PS X (.Assign [.Attribute o f pos'] e pos) (zS (zFld X.K ta te f)) := ps_fld ha hv hs
theorem z_fldaug {o : Expr} {ta : TE} {f : Str} {op : Operator} {rd : V → V → Hp → VK → Prop} {tpos : Pos} (ha : PE X o ta) (hv : PE X e te) (hop : InOp X op rd) : PS X (.AugAssign (.Attribute o f tpos) op e pos) (zS (zFldAug X.K ta te rd f)) := ps_fldaug ha hv hop
theorem z_par {i j : Nat} {x y : Str} {a b : Expr} {ta : TA} {px py pt : Pos} {kt k2 pt2} (hc : X.calm = true) (hN : X.N.Nodup) (hi : X.N[i]? = some x) (hj : X.N[j]? = some y) (hij : i ≠ j)
    (hx : X.env.scope.names.lookup x = some .local) (hy : X.env.scope.names.lookup y = some .local) (ha : PA X [a, b] ta)
    (hp : swappedStores [.Tuple [.Name x px, .Name y py] kt pt] (.Tuple [a, b] k2 pt2) X.env = pure (some [x, y])) :
    PS X (.Assign [.Tuple [.Name x px, .Name y py] kt pt] (.Tuple [a, b] k2 pt2) pos) (zS (zPar i j ta)) := ps_par hc hN hi hj hij hx hy ha hp
theorem z_par3 {i j l : Nat} {x y z : Str} {a b c : Expr} {ta : TA} {px py pz pt : Pos} {kt k2 pt2} (hc : X.calm = true) (hN : X.N.Nodup) (hi : X.N[i]? = some x) (hj : X.N[j]? = some y) (hl : X.N[l]? = some z)
    (h1 : i ≠ j) (h2 : i ≠ l) (h3 : j ≠ l) (hx : X.env.scope.names.lookup x = some .local) (hy : X.env.scope.names.lookup y = some .local) (hz : X.env.scope.names.lookup z = some .local) (ha : PA X [a, b, c] ta)
    (hp : swappedStores [.Tuple [.Name x px, .Name y py, .Name z pz] kt pt] (.Tuple [a, b, c] k2 pt2) X.env = pure (some [x, y, z])) :
    PS X (.Assign [.Tuple [.Name x px, .Name y py, .Name z pz] kt pt] (.Tuple [a, b, c] k2 pt2) pos) (zS (zPar3 i j l ta)) := ps_par3 hc hN hi hj hl h1 h2 h3 hx hy hz ha hp
theorem z_setLc {i : Nat} {y : Str} {py : Pos} {elt tg iter : Expr} {ifs : List Expr} {scope : Scope} {own : List (Str × Nat)} {spos : Pos} {wi : TI} {g : TG} {tt : TT} (hc : X.calm = true) (hN : X.N.Nodup) (hy : X.N[i]? = some y) (hyl : X.env.scope.names.lookup y = some .local)
    (hsw : swapsWith (.ListComp elt [⟨tg, iter, ifs, 0⟩] scope pos) (some (.Name y py)) spos.line X.env = pure true) (hi : PI X tg iter wi) (ok : BlkOk X.N X.env.scope scope own)
    (hg : ∀ (s : Shared) (H : Hp) (C : Addr) (cl : List (Str × Addr)) (fp : List Addr), PG (X.blk s H scope (compEnvC scope cl C X.env) fp) tg g)
    (ht : ∀ (s : Shared) (H : Hp) (C : Addr) (cl : List (Str × Addr)) (fp : List Addr), PTs (X.blk s H scope (compEnvC scope cl C X.env) fp) ifs tt)
    (he : ∀ (s : Shared) (H : Hp) (C : Addr) (cl : List (Str × Addr)) (fp : List Addr), PE (X.blk s H scope (compEnvC scope cl C X.env) fp) elt te) (hs : ∀ x, foldedSetIterable iter X.env x = pure x := by intro _; rfl) :
    PS X (.Assign [.Name y py] (.ListComp elt [⟨tg, iter, ifs, 0⟩] scope pos) spos) (zS (zAsg (tLc wi g tt te (own.map (·.2))) (gName i))) := ps_setLc hc hN hy hyl hsw hi ok hg ht he hs
theorem z_for {tg iter : Expr} {body : List Stmt} {wi : TI} {g : TG} {tb : TZ} (hp : PassesOwn (model X.prog X.w) X.A X.env X.xe) (hc : X.calm = true) (hi : PI X tg iter wi) (hg : PG X tg g) (hb : PSs X body (zS tb))
    (hs : ∀ x, foldedSetIterable iter X.env x = pure x := by intro _; rfl) : PS X (.For tg iter body [] pos) (zS (zFor wi g tb)) := ps_for hp hc hi hg hb hs
theorem z_while {c : Expr} {body : List Stmt} {tc : TT} {tb : TZ} (hp : PassesOwn (model X.prog X.w) X.A X.env X.xe) (hc : PT X c tc) (hb : PSs X body (zS tb)) : PS X (.While c body [] pos) (zS (zWhile tc tb)) := ps_while hp hc hb
end

/-! ### their readings, from the front -/
section
variable {nx bk ct : L2.St → Hp → Prop} {rt : VK} {σ : L2.St} {H : Hp} {t u : TZ} {te ta tb : TE} {g : TG} {Q : VK} {QA : List V → Hp → Prop} {QB : Bool → Hp → Prop} {x y v : V} {vs : List V} {r : R2} {i j l : Nat} {c d : TT} {tr tk : TA} {K : PySem.W.Frag}
theorem i_next (h : nx σ H) : zNext nx rt bk ct σ H := h
theorem i_seq (h : t (fun σ H => u nx rt bk ct σ H) rt bk ct σ H) : zSeq t u nx rt bk ct σ H := h
theorem i_drop (h : te σ H fun _ H1 => nx σ H1) : zDrop te nx rt bk ct σ H := h
theorem i_ret (h : te σ H rt) : zRet te nx rt bk ct σ H := h
theorem i_retN (h : rt .non H) : zRetN nx rt bk ct σ H := h
theorem i_break (h : bk σ H) : zBreak nx rt bk ct σ H := h
theorem i_cont (h : ct σ H) : zCont nx rt bk ct σ H := h
theorem i_if (h : c σ H fun b H1 => if b = true then t nx rt bk ct σ H1 else u nx rt bk ct σ H1) : zIf c t u nx rt bk ct σ H := h
theorem i_asg (h : te σ H fun x H1 => g x σ H1 nx) : zAsg te g nx rt bk ct σ H := h
theorem i_aug {ti : TIp} (e : σ[i]? = some (some x)) (h : te σ H fun y H1 => ti x y H1 fun z H2 => nx (σ.set i (some z)) H2) : zAug i te ti nx rt bk ct σ H := ⟨x, e, h⟩
theorem i_par (h : tr σ H fun vs H1 => ∃ v w, vs = [v, w] ∧ nx ((σ.set i (some v)).set j (some w)) H1) : zPar i j tr nx rt bk ct σ H := h
theorem i_par3 (h : tr σ H fun vs H1 => ∃ u v w, vs = [u, v, w] ∧ nx (((σ.set i (some u)).set j (some v)).set l (some w)) H1) : zPar3 i j l tr nx rt bk ct σ H := h
theorem i_two {v w : V} {G : V → V → Prop} (h : G v w) : ∃ v' w', [v, w] = [v', w'] ∧ G v' w' := ⟨v, w, rfl, h⟩
theorem i_three {z v w : V} {G : V → V → V → Prop} (h : G z v w) : ∃ z' v' w', [z, v, w] = [z', v', w'] ∧ G z' v' w' := ⟨z, v, w, rfl, h⟩
theorem i_name {Q : L2.St → Hp → Prop} (h : Q (σ.set i (some v)) H) : gName i v σ H Q := h
theorem i_tupT {n : Nat} {a : Addr} {gs : TGs} {Q : L2.St → Hp → Prop} (h : H a = some (.tup vs)) (hn : vs.length = n) (q : gs vs σ H Q) : gTup K n gs (.ref a) σ H Q := ⟨a, vs, rfl, SqT.of h, hn, q⟩
theorem i_gcons {t : TG} {u : TGs} {Q : L2.St → Hp → Prop} (h : t v σ H fun σ' H' => u vs σ' H' Q) : gCons t u (v :: vs) σ H Q := ⟨v, vs, rfl, h⟩
theorem i_gnil {Q : L2.St → Hp → Prop} (h : Q σ H) : gNil [] σ H Q := ⟨rfl, h⟩
theorem i_gsub {to ti : TE} {t : TSet} {Q : L2.St → Hp → Prop} (h : to σ H fun o H1 => ti σ H1 fun i H2 => t o i v H2 fun H3 => Q σ H3) : gSub to ti t v σ H Q := h
theorem i_augS {to ti te : TE} {tget : V → V → Hp → VK → Prop} {tip : TIp} {tset : TSet} (h : to σ H fun o H1 => ti σ H1 fun i H2 => tget o i H2 fun x H3 => te σ H3 fun y H4 => tip x y H4 fun z H5 => tset o i z H5 fun H6 => nx σ H6) :
    zAugS to ti te tget tip tset nx rt bk ct σ H := h
theorem i_for {wi : TI} {tb : TZ} (h : wi σ H fun J H1 => zLoop J g tb nx rt σ H1) : zFor wi g tb nx rt bk ct σ H := h
-- expressions
theorem i_var (e : σ[i]? = some (some v)) (q : Q v H) : tVar i σ H Q := ⟨v, e, q⟩
theorem i_c (q : Q v H) : tC v σ H Q := q
theorem i_op (h : ta σ H fun x H1 => tb σ H1 fun y H2 => r x y H2 Q) : tOp r ta tb σ H Q := h
theorem i_un {r : V → Hp → VK → Prop} (h : ta σ H fun x H1 => r x H1 Q) : tUn r ta σ H Q := h
theorem i_nil (q : QA [] H) : tNil σ H QA := q
theorem i_cons (h : ta σ H fun x H1 => tr σ H1 fun xs H2 => QA (x :: xs) H2) : tCons ta tr σ H QA := h
theorem i_cb {r : List V → Hp → VK → Prop} (h : tr σ H fun vs H1 => r vs H1 Q) : tCB r tr σ H Q := h
theorem i_ifE (h : c σ H fun b H1 => if b = true then ta σ H1 Q else tb σ H1 Q) : tIf c ta tb σ H Q := h
theorem i_ifEJ (k : ∀ z : Int, Q (.int z) H) (h : ∀ Q' : VK, (∀ z : Int, Q' (.int z) H) → c σ H fun b H1 => if b = true then ta σ H1 Q' else tb σ H1 Q') : tIf c ta tb σ H Q := h Q k
theorem i_test (h : te σ H fun x H1 => ∃ k, x = .bl k ∧ QB k H1) : tTest te σ H QB := h
theorem i_b (h : te σ H fun x H1 => ∃ k, x = .bl k ∧ QB k H1) : tB te σ H QB := h
theorem i_and (h : c σ H fun b H1 => if b = true then d σ H1 QB else QB false H1) : tAnd c d σ H QB := h
theorem i_or (h : c σ H fun b H1 => if b = true then QB true H1 else d σ H1 QB) : tOr c d σ H QB := h
theorem i_not (h : c σ H fun b H1 => QB (!b) H1) : tNot c σ H QB := h
theorem i_andV (h : ta σ H fun x H1 => ∃ k, x = .bl k ∧ if k = true then tb σ H1 Q else Q (.bl false) H1) : tAndV ta tb σ H Q := h
theorem i_orV (h : ta σ H fun x H1 => ∃ k, x = .bl k ∧ if k = true then Q (.bl true) H1 else tb σ H1 Q) : tOrV ta tb σ H Q := h
theorem i_blV {b : Bool} {G : Bool → Prop} (q : G b) : ∃ k, V.bl b = .bl k ∧ G k := ⟨b, rfl, q⟩
theorem i_tup (h : tr σ H fun xs H1 => xs.length ≤ sizeLine ∧ ∀ p H', New H1 p (.tup xs) H' → Q (.ref p) H') : tTup tr σ H Q := by
  show tr σ H _
  exact cast (by congr 1; funext xs H1; exact propext ⟨fun h => ⟨h.1, fun p f => h.2 p _ ⟨f, rfl⟩⟩, fun h => ⟨h.1, fun p H' n => n.eq ▸ h.2 p n.fr⟩⟩) h
theorem i_lst (h : tr σ H fun xs H1 => xs.length ≤ sizeLine ∧ ∀ p H', New H1 p (.lst xs) H' → Q (.ref p) H') : tLst tr σ H Q := by
  show tr σ H _
  exact cast (by congr 1; funext xs H1; exact propext ⟨fun h => ⟨h.1, fun p f => h.2 p _ ⟨f, rfl⟩⟩, fun h => ⟨h.1, fun p H' n => n.eq ▸ h.2 p n.fr⟩⟩) h
theorem i_sz {n : Nat} {G : Prop} (hn : n ≤ 1000) (h : G) : n ≤ sizeLine ∧ G := ⟨Nat.le_trans hn (by rw [sizeLine_eq]; decide), h⟩
theorem i_call {n m : Nat} {gV : PySem.W.Frag → List V → List V → List V} {sp : Sp} {E : XK} (h : tr σ H fun vs H1 => tk σ H1 fun zs H2 => vs.length = n ∧ zs.length = m ∧ sp (gV K vs zs) H2 Q E) : zCall K n m gV sp E tr tk σ H Q := h
theorem i_len2 {n m : Nat} {zs : List V} {G : Prop} (e1 : vs.length = n) (e2 : zs.length = m) (h : G) : vs.length = n ∧ zs.length = m ∧ G := ⟨e1, e2, h⟩
end
end Z

/-! Z: tuple * int. -/
namespace Z
open PySem PySem.Spec PyProof.Rows L2
/-! ### tuple * int: one time, no time -/
theorem tuple_mulZ1 (l : Addr) (items : Array Value) (n : Nat) (dd : Option Addr) (sl : Array (Option Value)) (x : Int) (u : Tok) (c0 : (decide (x < -(2 ^ 63)) || decide (x ≥ 2 ^ 63)) = false) (c1 : (items.isEmpty || x == 1) = true) :
    Meets (Builtin.«tuple.__mul__» ⟨[.ref l, .int x u], []⟩) (fun _ R s => s.heap.get? l = some { cls := .type "tuple", dict := dd, data := .seq items n, slots := sl } ∧
      R (.ok (.ret (Value.ref l))) { s with heap := s.heap, toks := s.toks }) :=
  .of_wp fun prog w A R s h => by
    obtain ⟨hp, g, d, tk, os⟩ := s
    obtain ⟨hl, h⟩ := h
    have f1 := AutoSeq1.idx_int
    wp_walk using wpAny_loadPart' hl
    repeat (first
      | (refine wpAny_ite_false (decide_eq_false (by rw [c0]; exact Bool.false_ne_true)) ?_; wp_walk using wpAny_loadPart' hl)
      | (refine wpAny_ite_true (decide_eq_true c1) ?_; wp_walk using wpAny_loadPart' hl))
    exact ⟨_, rfl, h⟩
theorem tuple_mulZ0 (l : Addr) (items : Array Value) (n : Nat) (dd : Option Addr) (sl : Array (Option Value)) (x : Int) (u : Tok) (c0 : (decide (x < -(2 ^ 63)) || decide (x ≥ 2 ^ 63)) = false) (c1 : (items.isEmpty || x == 1) = false) (c2 : (decide (x ≤ 0) || items.isEmpty) = true) :
    Meets (Builtin.«tuple.__mul__» ⟨[.ref l, .int x u], []⟩) (fun _ R s => s.heap.get? l = some { cls := .type "tuple", dict := dd, data := .seq items n, slots := sl } ∧
      R (.ok (.ret (Value.ref s.heap.objs.size))) { s with heap := s.heap.push { cls := Value.type "tuple", data := Data.seq #[] }, toks := s.toks }) :=
  .of_wp fun prog w A R s h => by
    obtain ⟨hp, g, d, tk, os⟩ := s
    obtain ⟨hl, h⟩ := h
    have f1 := AutoSeq1.idx_int
    wp_walk using wpAny_loadPart' hl
    repeat (first
      | (refine wpAny_ite_false (decide_eq_false (by rw [c0]; exact Bool.false_ne_true)) ?_; wp_walk using wpAny_loadPart' hl)
      | (refine wpAny_ite_false (decide_eq_false (by rw [c1]; exact Bool.false_ne_true)) ?_; wp_walk using wpAny_loadPart' hl)
      | (refine wpAny_ite_true (decide_eq_true c2) ?_; wp_walk using wpAny_loadPart' hl))
    exact ⟨_, rfl, h⟩
/-- a tuple that isn't empty, so many times -/
def rRepZ (K : PySem.W.Frag) : R2 := fun x y H Q => ∃ l k xs, x = .ref l ∧ y = .int k ∧ SqT K H l xs ∧ xs ≠ [] ∧ -1000 ≤ k ∧ k ≤ 1000 ∧ xs.length ≤ 1000 ∧ (k = 1 → Q (.ref l) H) ∧ (k ≠ 1 → ∀ p, H p = none → Q (.ref p) (upd H p (.tup (List.replicate k.toNat xs).flatten)))
theorem op_repZ {X : Cx} : OpR X (binaryOp .Mult) (rRepZ X.K) := by
  intro pins s σ H x y v u Q I rx ry h
  obtain ⟨l, k, xs, rfl, rfl, hT, hne, h1, h2, hz, q1, q2⟩ := h
  by_cases hk : 2 ≤ k
  · exact op_repT pins s σ H _ _ v u Q I rx ry ⟨l, k, xs, rfl, rfl, hT, hne, hk, h2, hz, q2 (by omega)⟩
  cases rx
  obtain ⟨t, rfl⟩ := ry
  obtain ⟨its, r, ⟨⟨cls, dd, data, sl⟩, ho, hc, n, hd⟩, hs⟩ := I.tuple hT
  simp only at hc hd
  subst hc hd
  have hle : its.length = xs.length := r.length.symm
  have hn : its ≠ [] := fun e => hne (by
    rw [e] at hle
    exact List.eq_nil_of_length_eq_zero hle.symm)
  have hi : its.toArray.isEmpty = false := by
    cases its with
    | nil => exact absurd rfl hn
    | cons a b => rfl
  have c0 : (decide (k < -(2 ^ 63)) || decide (k ≥ 2 ^ 63)) = false := by
    rw [decide_eq_false (by omega), decide_eq_false (by omega)] <;> rfl
  by_cases e1 : k = 1
  · subst e1
    refine wpAny_binaryOp_repeat_ref (T := "tuple") (U := "int") (by decide) ⟨_, ho, rfl⟩ (fun s' => typeIs_int s' 1 t) noFill_tuple_mul F.fills_int_mul F.slot_int_rmul repeat_tuple F.slot_int_index.lookup
      (call_meets F.slot_int_rmul (typeIs_int s 1 t) F.entry_int_rmul (F.args_int_rmul_2 _ _) (int_rmul_tuple 1 t l its.toArray n dd sl)
        ⟨ho, rfl, ⟨_, ho, rfl⟩, call_meets F.slot_tuple_mul ⟨_, ho, rfl⟩ F.entry_tuple_mul (F.args_tuple_mul_2 _ _) (tuple_mulZ1 l its.toArray n dd sl 1 t c0 (by simp)) ⟨ho, ?_⟩⟩)
    exact ⟨.ref l, H, I, rfl, q1 rfl⟩
  · have c1 : (its.toArray.isEmpty || k == 1) = false := by
      rw [hi, Bool.false_or]
      exact beq_eq_false_iff_ne.mpr e1
    have c2 : (decide (k ≤ 0) || its.toArray.isEmpty) = true := by
      rw [decide_eq_true (by omega), Bool.true_or]
    have e0 : k.toNat = 0 := by omega
    have q := q2 e1
    rw [e0] at q
    refine wpAny_binaryOp_repeat_ref (T := "tuple") (U := "int") (by decide) ⟨_, ho, rfl⟩ (fun s' => typeIs_int s' k t) noFill_tuple_mul F.fills_int_mul F.slot_int_rmul repeat_tuple F.slot_int_index.lookup
      (call_meets F.slot_int_rmul (typeIs_int s k t) F.entry_int_rmul (F.args_int_rmul_2 _ _) (int_rmul_tuple k t l its.toArray n dd sl)
        ⟨ho, rfl, ⟨_, ho, rfl⟩, call_meets F.slot_tuple_mul ⟨_, ho, rfl⟩ F.entry_tuple_mul (F.args_tuple_mul_2 _ _) (tuple_mulZ0 l its.toArray n dd sl k t c0 c1 c2) ⟨ho, ?_⟩⟩)
    refine ⟨.ref s.heap.objs.size, _, I.laid (t' := s.toks) (o := .tup ([] : List V)) (fun b ob q => Heap.get?_push_of_some _ q) (Nat.le_refl _) ?_, rfl, q _ (I.hok.fresh (Nat.le_refl _))⟩
    exact ⟨Nat.zero_le _, [], .nil, IsTup.new _ _⟩
end Z

/-! Z, part three: operations by values, loops, comprehensions. -/
namespace Z
open PySem PySem.Spec PyProof.Rows L2

/-! ### + -/
def rAdd (K : PySem.W.Frag) : R2 := fun x y H Q => (∃ i j, x = .int i ∧ y = .int j ∧ Q (.int (i + j)) H) ∨ (∃ i j, x = .str i ∧ y = .str j ∧ i.length + j.length ≤ sizeLine ∧ Q (.str (i ++ j)) H) ∨ rCat x y H Q ∨ rCatA K x y H Q
theorem opAdd {X : Cx} : OpR X (binaryOp .Add) (rAdd X.K) := op_add.or (op_add_str.or (op_cat.or op_catA))
section
variable {K : PySem.W.Frag} {H : Hp} {Q : VK} {i j : Int} {a b : Str} {p q : Addr} {xs ys : List V} {v : V}
theorem i_addI (h : Q (.int (i + j)) H) : rAdd K (.int i) (.int j) H Q := .inl ⟨i, j, rfl, rfl, h⟩
theorem i_addS (z : a.length + b.length ≤ sizeLine) (h : Q (.str (a ++ b)) H) : rAdd K (.str a) (.str b) H Q := .inr (.inl ⟨a, b, rfl, rfl, z, h⟩)
theorem i_addL (h1 : H p = some (.lst xs)) (h2 : H q = some (.lst ys)) (z : xs.length + ys.length ≤ sizeLine) (h : ∀ r H', New H r (.lst (xs ++ ys)) H' → Q (.ref r) H') : rAdd K (.ref p) (.ref q) H Q :=
  .inr (.inr (.inl ⟨p, q, xs, ys, rfl, rfl, h1, h2, z, fun r f => h r _ ⟨f, rfl⟩⟩))
/-! ### * -/
def rMul (K : PySem.W.Frag) : R2 := fun x y H Q => (∃ i j, x = .int i ∧ y = .int j ∧ CMulX i j ∧ Q (.int (i * j)) H) ∨ (∃ i j, x = .int i ∧ y = .int j ∧ CMul i j ∧ Q (.int (i * j)) H) ∨ rRep x y H Q ∨ rRepZ K x y H Q
theorem opMul {X : Cx} : OpR X (binaryOp .Mult) (rMul X.K) := op_mulX.or (op_mul.or (op_rep.or op_repZ))
theorem i_mulI (c : CMulX i j) (h : Q (.int (i * j)) H) : rMul K (.int i) (.int j) H Q := .inl ⟨i, j, rfl, rfl, c, h⟩
theorem i_mulR (c : -(2 ^ 64) < j ∧ j < 2 ^ 64) (h : Q (.int (i * j)) H) : rMul K (.int i) (.int j) H Q := .inr (.inl ⟨i, j, rfl, rfl, .inr c, h⟩)
theorem i_mulJ (c : -(2 ^ 64) < i ∧ i < 2 ^ 64) (h : Q (.int (i * j)) H) : rMul K (.int i) (.int j) H Q := .inr (.inl ⟨i, j, rfl, rfl, .inl c, h⟩)
theorem i_mulL (h1 : H p = some (.lst xs)) (z1 : -(2 ^ 63) ≤ j) (z2 : j < 2 ^ 63) (z : xs.length * j.toNat ≤ sizeLine) (h : ∀ r H', New H r (.lst (List.replicate j.toNat xs).flatten) H' → Q (.ref r) H') : rMul K (.ref p) (.int j) H Q :=
  .inr <| .inr <| .inl ⟨p, j, xs, rfl, rfl, h1, z1, z2, z, fun r f => h r _ ⟨f, rfl⟩⟩
theorem i_mulT (h1 : H p = some (.tup xs)) (hne : xs ≠ []) (z : -1000 ≤ j ∧ j ≤ 1000) (l : xs.length ≤ 1000) (q1 : j = 1 → Q (.ref p) H) (q2 : j ≠ 1 → ∀ r H', New H r (.tup (List.replicate j.toNat xs).flatten) H' → Q (.ref r) H') : rMul K (.ref p) (.int j) H Q :=
  .inr <| .inr <| .inr ⟨p, j, xs, rfl, rfl, SqT.of h1, hne, z.1, z.2, l, q1, fun e r f => q2 e r _ ⟨f, rfl⟩⟩
/-- (a,) * j: some tuple of so many a -/
theorem i_mulTI {a : V} (h1 : H p = some (.tup [a])) (z : -1000 ≤ j ∧ j ≤ 1000) (q : ∀ r H', Same H H' → H' r = some (.tup (List.replicate j.toNat a)) → Q (.ref r) H') : rMul K (.ref p) (.int j) H Q := by
  refine i_mulT h1 (by simp) z (by simp) (fun e => ?_) fun e r H' n => ?_
  · subst e
    exact q p H (Same.refl _) h1
  · refine q r H' n.same ?_
    rw [n.at]
    congr 2
    induction j.toNat with
    | zero => rfl
    | succ m ih => rw [List.replicate_succ, List.flatten_cons, ih, List.replicate_succ]; rfl
/-! ### other operations on ints -/
theorem i_I {C : Int → Int → Prop} {f : Int → Int → V} (c : C i j) (h : Q (f i j) H) : rI C f (.int i) (.int j) H Q := ⟨i, j, rfl, rfl, c, h⟩
theorem i_I0 {f : Int → Int → V} (h : Q (f i j) H) : rI0 f (.int i) (.int j) H Q := ⟨i, j, rfl, rfl, h⟩
theorem i_U {f : Int → V} (h : Q (f i) H) : rU f (.int i) H Q := ⟨i, rfl, h⟩
theorem i_ipI {f : Int → Int → Int} (h : Q (.int (f i j)) H) : ipI f (.int i) (.int j) H Q := ⟨i, j, rfl, rfl, h⟩
/-! ### == and != -/
def rEqU (K : PySem.W.Frag) : R2 := fun x y H Q => rEq x y H Q ∨ rEqD K x y H Q
def rNeU (K : PySem.W.Frag) : R2 := fun x y H Q => rNe x y H Q ∨ rNeD K x y H Q
theorem opEq {X : Cx} (hu : X.A.units + 64 < cLine) : OpR X (compareOp .Eq) (rEqU X.K) := op_eq.or (op_eqD hu)
theorem opNe {X : Cx} (hu : X.A.units + 64 < cLine) : OpR X (compareOp .NotEq) (rNeU X.K) := op_ne.or (op_neD hu)
theorem i_eqI (h : Q (.bl (decide (i = j))) H) : rEqU K (.int i) (.int j) H Q := .inl ⟨rfl, by rw [show decide (V.int i = V.int j) = decide (i = j) from decide_eq_decide.mpr ⟨fun e => V.int.inj e, fun e => e ▸ rfl⟩]; exact h⟩
theorem i_neI (h : Q (.bl (!decide (i = j))) H) : rNeU K (.int i) (.int j) H Q := .inl ⟨rfl, by rw [show decide (V.int i = V.int j) = decide (i = j) from decide_eq_decide.mpr ⟨fun e => V.int.inj e, fun e => e ▸ rfl⟩]; exact h⟩
theorem i_eqS (h : Q (.bl (decide (a = b))) H) : rEqU K (.str a) (.str b) H Q := .inl ⟨rfl, by rw [show decide (V.str a = V.str b) = decide (a = b) from decide_eq_decide.mpr ⟨fun e => V.str.inj e, fun e => e ▸ rfl⟩]; exact h⟩
theorem i_neS (h : Q (.bl (!decide (a = b))) H) : rNeU K (.str a) (.str b) H Q := .inl ⟨rfl, by rw [show decide (V.str a = V.str b) = decide (a = b) from decide_eq_decide.mpr ⟨fun e => V.str.inj e, fun e => e ▸ rfl⟩]; exact h⟩
/-! deep data -/
/-- ints, texts, truths, none, lists and tuples of such; the model's own == is that of D here -/
inductive D where
  | non | bl (b : Bool) | int (i : Int) | str (x : Str) | lst (l : List D) | tup (l : List D)
mutual
def D.py : D → PyData
  | .non => .none
  | .bl b => .bool b
  | .int i => .int i
  | .str x => .str x
  | .lst l => .list (D.pys l)
  | .tup l => .tuple (D.pys l)
def D.pys : List D → List PyData
  | [] => []
  | d :: l => d.py :: D.pys l
end
end
/-- v is the data d, in the heap H -/
abbrev Is (K : PySem.W.Frag) (H : Hp) (v : V) (d : D) : Prop := Dp K H v d.py
abbrev Iss (K : PySem.W.Frag) (H : Hp) (vs : List V) (ds : List D) : Prop := DpAll K H vs (D.pys ds)
mutual
theorem dp_same {K : PySem.W.Frag} {H H' : Hp} (s : Same H H') : ∀ {v : V} {d : PyData}, Dp K H v d → Dp K H' v d
  | _, _, .non => .non
  | _, _, .bl b => .bl b
  | _, _, .int i => .int i
  | _, _, .str x => .str x
  | _, _, .lst h a => .lst (s.seq h) (dpa_same s a)
  | _, _, .tup h a => .tup (by
      rcases h with (h | ⟨o, h⟩) | h
      · exact .inl (.inl (s _ _ h))
      · exact .inl (.inr ⟨o, s _ _ h⟩)
      · exact .inr h) (dpa_same s a)
theorem dpa_same {K : PySem.W.Frag} {H H' : Hp} (s : Same H H') : ∀ {v : List V} {d : List PyData}, DpAll K H v d → DpAll K H' v d
  | _, _, .nil => .nil
  | _, _, .cons h a => .cons (dp_same s h) (dpa_same s a)
end
section
variable {K : PySem.W.Frag} {H H' : Hp} {Q : VK} {i j : Int} {a b : Str} {p q : Addr} {xs ys : List V} {v x y : V} {d e : PyData} {ds : List PyData}
theorem dp_ints (ns : List Int) : DpAll K H (ns.map V.int) (ns.map PyData.int) := by
  induction ns with
  | nil => exact .nil
  | cons n r ih => exact .cons (.int n) ih
theorem dp_lints {ns : List Int} (h : H p = some (.lst (ns.map V.int))) : Dp K H (.ref p) (.list (ns.map PyData.int)) := .lst (SqL.of h) (dp_ints ns)
theorem dp_lst (h : H p = some (.lst xs)) (hd : DpAll K H xs ds) : Dp K H (.ref p) (.list ds) := .lst (SqL.of h) hd
theorem dp_tup (h : H p = some (.tup xs)) (hd : DpAll K H xs ds) : Dp K H (.ref p) (.tuple ds) := .tup (SqT.of h) hd
theorem i_eqD (h1 : Dp K H x d) (h2 : Dp K H y e) (s1 : SeqAt.shaped d = true) (s2 : SeqAt.shaped e = true) (h : Q (.bl (PyData.eqv d e)) H) : rEqU K x y H Q := .inr ⟨d, e, h1, h2, s1, s2, h⟩
theorem i_neD (h1 : Dp K H x d) (h2 : Dp K H y e) (s1 : SeqAt.shaped d = true) (s2 : SeqAt.shaped e = true) (h : Q (.bl (!PyData.eqv d e)) H) : rNeU K x y H Q := .inr ⟨d, e, h1, h2, s1, s2, h⟩

/-! ### subscripts, slices -/
theorem ixU {X : Cx} : IxR X (rIx X.K) := ix_seq
theorem i_ixL (h : H p = some (.lst xs)) (e : atI xs i = some v) (q : Q v H) : rIx K (.ref p) (.int i) H Q := .inl ⟨p, xs, i, v, rfl, rfl, SqL.of h, e, q⟩
theorem i_ixQ (h : SqL K H p xs) (e : atI xs i = some v) (q : Q v H) : rIx K (.ref p) (.int i) H Q := .inl ⟨p, xs, i, v, rfl, rfl, h, e, q⟩
theorem i_ixT (h : H p = some (.tup xs)) (e : atI xs i = some v) (q : Q v H) : rIx K (.ref p) (.int i) H Q := .inr (.inl ⟨p, xs, i, v, rfl, rfl, SqT.of h, e, q⟩)
theorem i_ixS {c : Nat} (h : a.length ≤ sizeLine) (e : atI a.cps.toList i = some c) (q : Q (.str ⟨#[c]⟩) H) : rIx K (.str a) (.int i) H Q := .inr (.inr ⟨a, i, c, rfl, rfl, h, e, q⟩)
def rGetL (K : PySem.W.Frag) : V → V → Hp → VK → Prop := fun x y H Q => ∃ p xs i v, x = .ref p ∧ y = .int i ∧ SqL K H p xs ∧ 0 ≤ i ∧ i < 2 ^ 62 ∧ xs[i.toNat]? = some v ∧ Q v H
theorem getL {X : Cx} : PGet X (rGetL X.K) := by
  intro pins s σ H o i ov iv Q I r1 r2 h
  obtain ⟨p, xs, k, v, rfl, rfl, hq, h0, h1, e, q⟩ := h
  cases r1
  obtain ⟨t, rfl⟩ := r2
  obtain ⟨its, r, pl, hz⟩ := I.list hq
  obtain ⟨u, eu, ru⟩ := r.get e
  exact wpAny_getItem_list pl.isList h0 (by omega) (by simpa using eu) ⟨v, H, I, ru, q⟩
theorem i_getL (h : H p = some (.lst xs)) (h0 : 0 ≤ i) (h1 : i < 2 ^ 62) (e : xs[i.toNat]? = some v) (q : Q v H) : rGetL K (.ref p) (.int i) H Q := ⟨p, xs, i, v, rfl, rfl, SqL.of h, h0, h1, e, q⟩
def rSlU (K : PySem.W.Frag) : V → Option Int → Option Int → Hp → VK → Prop := fun x lo hi H Q => rSlL K x lo hi H Q ∨ rSlA K x lo hi H Q
theorem slU {X : Cx} : SlR X (rSlU X.K) := sl_list.or sl_tupA
theorem i_slL {lo hi : Option Int} (h : H p = some (.lst xs)) (k : ∀ r H', New H r (.lst (cutV xs lo hi)) H' → Q (.ref r) H') : rSlU K (.ref p) lo hi H Q := .inl ⟨p, xs, rfl, SqL.of h, fun r f => k r _ ⟨f, rfl⟩⟩
theorem i_slQ {lo hi : Option Int} (h : SqL K H p xs) (k : ∀ r H', New H r (.lst (cutV xs lo hi)) H' → Q (.ref r) H') : rSlU K (.ref p) lo hi H Q := .inl ⟨p, xs, rfl, h, fun r f => k r _ ⟨f, rfl⟩⟩
theorem i_sl {r : V → Option Int → Option Int → Hp → VK → Prop} {te : TE} {tl th : TO} {σ : L2.St} (h : te σ H fun x H1 => tl σ H1 fun l H2 => th σ H2 fun u H3 => r x l u H3 Q) : tSl r te tl th σ H Q := h
theorem i_nopart {σ : L2.St} {QO : Option Int → Hp → Prop} (h : QO none H) : tNoPart σ H QO := h
theorem i_part {te : TE} {σ : L2.St} {QO : Option Int → Hp → Prop} (h : te σ H fun x H1 => ∃ i, x = .int i ∧ QO (some i) H1) : tPart te σ H QO := h
theorem i_partI {G : Int → Prop} (h : G i) : ∃ k, V.int i = .int k ∧ G k := ⟨i, rfl, h⟩
theorem i_setL {j : Nat} {QH : Hp → Prop} (h : H p = some (.lst xs)) (e : ixN xs.length i = some j) (k : ∀ H', Up H p (.lst (xs.set j v)) H' → QH H') : rSetL (.ref p) (.int i) v H QH :=
  ⟨p, xs, i, j, rfl, rfl, h, e, k _ ⟨⟨_, h⟩, rfl⟩⟩

/-! ### built-in functions -/
def rLenU (K : PySem.W.Frag) : List V → Hp → VK → Prop := fun xs H Q => ∃ x n, xs = [x] ∧ LenV K x H n ∧ Q (.int n) H
theorem clen {X : Cx} : CallR X (.builtin "len") (rLenU X.K) := call_len
theorem i_lenL (h : H p = some (.lst xs)) (q : Q (.int (xs.length : Nat)) H) : rLenU K [V.ref p] H Q := ⟨_, _, rfl, .inl ⟨xs, SqL.of h, rfl⟩, q⟩
theorem i_lenQ (h : SqL K H p xs) (q : Q (.int (xs.length : Nat)) H) : rLenU K [V.ref p] H Q := ⟨_, _, rfl, .inl ⟨xs, h, rfl⟩, q⟩
theorem i_lenT (h : H p = some (.tup xs)) (q : Q (.int (xs.length : Nat)) H) : rLenU K [V.ref p] H Q := ⟨_, _, rfl, .inr ⟨xs, SqT.of h, rfl⟩, q⟩
def rMax2 : List V → Hp → VK → Prop := fun xs H Q => ∃ i j, xs = [.int i, .int j] ∧ Q (.int (if j > i then j else i)) H
def rMin2 : List V → Hp → VK → Prop := fun xs H Q => ∃ i j, xs = [.int i, .int j] ∧ Q (.int (if j < i then j else i)) H
theorem cmax2 {X : Cx} (hc : X.calm = true) : CallR X (.builtin "max") rMax2 := call_max2 hc
theorem cmin2 {X : Cx} (hc : X.calm = true) : CallR X (.builtin "min") rMin2 := call_min2 hc
theorem i_max2 (q : Q (.int (max i j)) H) : rMax2 [V.int i, V.int j] H Q := ⟨i, j, rfl, by rw [show (if j > i then j else i) = max i j by omega]; exact q⟩
theorem i_min2 (q : Q (.int (min i j)) H) : rMin2 [V.int i, V.int j] H Q := ⟨i, j, rfl, by rw [show (if j < i then j else i) = min i j by omega]; exact q⟩
def rDivmod : List V → Hp → VK → Prop := fun xs H Q => ∃ i j, xs = [.int i, .int j] ∧ CDivP i j ∧ ∀ p, H p = none → Q (.ref p) (upd H p (.tup [.int (i / j), .int (i % j)]))
theorem cdivmod {X : Cx} : CallR X (.builtin "divmod") rDivmod := call_divmodW
theorem divP {i j : Int} {b : Nat} (h : 0 < j) (hb : j.natAbs < 2 ^ b) (h0 : 0 < b) (h9 : b ≤ 9000) : CDivP i j := ⟨h, PyProof.noPylong_of_log2 (Nat.lt_of_lt_of_le (PySem.Flt.log2_lt_of h0 hb) h9)⟩
theorem i_divmod (c : CDivP i j) (k : ∀ r H', New H r (.tup [.int (i / j), .int (i % j)]) H' → Q (.ref r) H') : rDivmod [V.int i, V.int j] H Q := ⟨i, j, rfl, c, fun r f => k r _ ⟨f, rfl⟩⟩
def rListU (K : PySem.W.Frag) : List V → Hp → VK → Prop := fun xs H Q => ∃ p ys, xs = [.ref p] ∧ (SqL K H p ys ∨ SqT K H p ys) ∧ ∀ l, H l = none → Q (.ref l) (upd H l (.lst ys))
theorem clist {X : Cx} : CallR X (.type "list") (rListU X.K) := call_list_of
theorem i_listL (h : H p = some (.lst xs)) (k : ∀ r H', New H r (.lst xs) H' → Q (.ref r) H') : rListU K [V.ref p] H Q := ⟨p, xs, rfl, .inl (SqL.of h), fun r f => k r _ ⟨f, rfl⟩⟩
theorem i_listT (h : H p = some (.tup xs)) (k : ∀ r H', New H r (.lst xs) H' → Q (.ref r) H') : rListU K [V.ref p] H Q := ⟨p, xs, rfl, .inr (SqT.of h), fun r f => k r _ ⟨f, rfl⟩⟩
def rTupU (K : PySem.W.Frag) : List V → Hp → VK → Prop := fun xs H Q => ∃ p ys, xs = [.ref p] ∧ ((SqL K H p ys ∧ ∀ l, H l = none → Q (.ref l) (upd H l (.tup ys))) ∨ (SqT K H p ys ∧ Q (.ref p) H))
theorem ctuple {X : Cx} : CallR X (.type "tuple") (rTupU X.K) := call_tuple_of
theorem i_tupleL (h : H p = some (.lst xs)) (k : ∀ r H', New H r (.tup xs) H' → Q (.ref r) H') : rTupU K [V.ref p] H Q := ⟨p, xs, rfl, .inl ⟨SqL.of h, fun r f => k r _ ⟨f, rfl⟩⟩⟩
def rInt1 : List V → Hp → VK → Prop := fun xs H Q => (∃ i, xs = [.int i] ∧ Q (.int i) H) ∨ ∃ k, xs = [.bl k] ∧ Q (.int (if k then 1 else 0)) H
theorem cint {X : Cx} : CallR X (.type "int") rInt1 := call_int1
theorem i_intI (q : Q (.int i) H) : rInt1 [V.int i] H Q := .inl ⟨i, rfl, q⟩
theorem i_intB {k : Bool} (q : Q (.int (if k then 1 else 0)) H) : rInt1 [V.bl k] H Q := .inr ⟨k, rfl, q⟩
def rAbs : List V → Hp → VK → Prop := fun xs H Q => ∃ i, xs = [.int i] ∧ Q (.int (if i < 0 then -i else i)) H
theorem cabs {X : Cx} : CallR X (.builtin "abs") rAbs := call_abs
theorem i_abs (q : Q (.int (if i < 0 then -i else i)) H) : rAbs [V.int i] H Q := ⟨i, rfl, q⟩
theorem i_sum {ns : List Int} (h : H p = some (.lst (ns.map V.int))) (q : Q (.int ns.sum) H) : rSum K [.ref p] H Q := ⟨p, ns, rfl, SqL.of h, q⟩
theorem i_all {bs : List Bool} (h : H p = some (.lst (bs.map V.bl))) (q : Q (.bl (bs.all id)) H) : rAll K [.ref p] H Q := ⟨p, bs, rfl, SqL.of h, q⟩
theorem i_any {bs : List Bool} (h : H p = some (.lst (bs.map V.bl))) (q : Q (.bl (bs.any id)) H) : rAny K [.ref p] H Q := ⟨p, bs, rfl, SqL.of h, q⟩
/-! ### list methods -/
theorem i_bm {T : String} {r : V → List V → Hp → VK → Prop} {to : TE} {t : TA} {σ : L2.St} (h : to σ H fun x H1 => tyV K T x H1 ∧ t σ H1 fun xs H2 => r x xs H2 Q) : tBM K T r to t σ H Q := h
theorem i_bm0 {T : String} {r : V → List V → Hp → VK → Prop} {to : TE} {σ : L2.St} (h : to σ H fun x H1 => tyV K T x H1 ∧ r x [] H1 Q) : tBM0 K T r to σ H Q := h
theorem i_tyL {G : Prop} (h : H p = some (.lst xs)) (g : G) : tyV K "list" (.ref p) H ∧ G := ⟨.inl ⟨rfl, _, SqL.of h⟩, g⟩
theorem i_append (h : H p = some (.lst xs)) (z : xs.length < sizeLine) (k : ∀ H', Up H p (.lst (xs ++ [v])) H' → Q .non H') : rAppend (.ref p) [v] H Q := ⟨p, xs, v, rfl, rfl, h, z, k _ ⟨⟨_, h⟩, rfl⟩⟩
theorem i_extend (h : H p = some (.lst xs)) (h2 : H q = some (.lst ys)) (z : xs.length + ys.length ≤ sizeLine) (k : ∀ H', Up H p (.lst (xs ++ ys)) H' → Q .non H') : rExtend (.ref p) [.ref q] H Q := ⟨p, q, xs, ys, rfl, rfl, h, h2, z, k _ ⟨⟨_, h⟩, rfl⟩⟩
theorem i_reverse (h : H p = some (.lst xs)) (k : ∀ H', Up H p (.lst xs.reverse) H' → Q .non H') : rReverse (.ref p) [] H Q := ⟨p, xs, rfl, rfl, h, k _ ⟨⟨_, h⟩, rfl⟩⟩
theorem i_clear (h : H p = some (.lst xs)) (k : ∀ H', Up H p (.lst []) H' → Q .non H') : rClear (.ref p) [] H Q := ⟨p, xs, rfl, rfl, h, k _ ⟨⟨_, h⟩, rfl⟩⟩
end

/-! ### branches -/
theorem ite2' {p A B : Prop} [Decidable p] (h1 : p → A) (h2 : ¬ p → B) : if decide p = true then A else B := by
  by_cases h : p
  · rw [if_pos (decide_eq_true h)]; exact h1 h
  · rw [if_neg (by rw [decide_eq_false h]; exact Bool.false_ne_true)]; exact h2 h
theorem iten' {p A B : Prop} [Decidable p] (h1 : ¬ p → A) (h2 : p → B) : if (!decide p) = true then A else B := by
  by_cases h : p
  · rw [decide_eq_true h]; rw [if_neg (by decide)]; exact h2 h
  · rw [decide_eq_false h]; rw [if_pos (by decide)]; exact h1 h
theorem itT {p A B : Prop} [Decidable p] (h : p) (a : A) : if decide p = true then A else B := ite2' (fun _ => a) fun z => absurd h z
theorem itF {p A B : Prop} [Decidable p] (h : ¬ p) (b : B) : if decide p = true then A else B := ite2' (fun z => absurd z h) fun _ => b
theorem itnT {p A B : Prop} [Decidable p] (h : ¬ p) (a : A) : if (!decide p) = true then A else B := iten' (fun _ => a) fun z => absurd z h
theorem itnF {p A B : Prop} [Decidable p] (h : p) (b : B) : if (!decide p) = true then A else B := iten' (fun z => absurd h z) fun _ => b

/-! ### loops -/
section
variable {K : PySem.W.Frag} {H : Hp} {a : Addr} {xs : List V} {g : TG} {tb : TZ} {nx bk ct : L2.St → Hp → Prop} {rt : VK} {σ : L2.St} {R : It → Hp → Prop} {n : Nat} {lo : Int}
/-- a loop of n turns by its invariant -/
theorem loop_by {J : It} (n : Nat) (Pv : Nat → L2.St → Hp → Prop) (h0 : Pv 0 σ H) (hgo : ∀ i σ H, i < n → Pv i σ H → J.go i H) (hst : ∀ σ H, Pv n σ H → J.stop n H)
    (hs : ∀ i x σ H H', i < n → Pv i σ H → J.yld i H x H' → g x σ H' fun σ2 H2 => tb (Pv (i + 1)) rt nx (Pv (i + 1)) σ2 H2) (hd : ∀ σ H, Pv n σ H → nx σ H) : zLoop J g tb nx rt σ H := by
  refine ⟨fun i m σ H => m = n - i ∧ i ≤ n ∧ Pv i σ H, ⟨n, rfl, Nat.zero_le _, h0⟩, ?_⟩
  rintro i m σ H ⟨rfl, hi, p⟩
  by_cases hlt : i < n
  · exact .inr ⟨hgo i σ H hlt p, Pv (i + 1), fun σ' H' p' => ⟨n - (i + 1), by omega, rfl, hlt, p'⟩, fun x H' y => hs i x σ H H' hlt p y⟩
  · have e : i = n := by omega
    subst e
    exact .inl ⟨hst σ H p, hd σ H p⟩
theorem loop_list (Pv : Nat → L2.St → Hp → Prop) (h0 : Pv 0 σ H) (hl : ∀ i σ H, i ≤ xs.length → Pv i σ H → SqL K H a xs)
    (hs : ∀ i x σ H, xs[i]? = some x → Pv i σ H → g x σ H fun σ2 H2 => tb (Pv (i + 1)) rt nx (Pv (i + 1)) σ2 H2) (hd : ∀ σ H, Pv xs.length σ H → nx σ H) : zLoop (Itl K a) g tb nx rt σ H := by
  refine loop_by xs.length Pv h0 (fun i σ H hi p => ⟨xs, xs[i], hl i σ H (Nat.le_of_lt hi) p, by simp [hi]⟩) (fun σ H p => ⟨xs, hl _ σ H (Nat.le_refl _) p, Nat.le_refl _⟩) (fun i x σ H H' hi p y => ?_) hd
  obtain ⟨e, y⟩ := y
  subst e
  exact hs i x σ _ (y xs (hl i σ _ (Nat.le_of_lt hi) p)) p
theorem loop_tup (Pv : Nat → L2.St → Hp → Prop) (h0 : Pv 0 σ H) (hl : ∀ i σ H, i ≤ xs.length → Pv i σ H → SqT K H a xs)
    (hs : ∀ i x σ H, xs[i]? = some x → Pv i σ H → g x σ H fun σ2 H2 => tb (Pv (i + 1)) rt nx (Pv (i + 1)) σ2 H2) (hd : ∀ σ H, Pv xs.length σ H → nx σ H) : zLoop (Itt K a) g tb nx rt σ H := by
  refine loop_by xs.length Pv h0 (fun i σ H hi p => ⟨xs, xs[i], hl i σ H (Nat.le_of_lt hi) p, by simp [hi]⟩) (fun σ H p => ⟨xs, hl _ σ H (Nat.le_refl _) p, Nat.le_refl _⟩) (fun i x σ H H' hi p y => ?_) hd
  obtain ⟨e, y⟩ := y
  subst e
  exact hs i x σ _ (y xs (hl i σ _ (Nat.le_of_lt hi) p)) p
theorem loop_range (Pv : Nat → L2.St → Hp → Prop) (h0 : Pv 0 σ H) (hs : ∀ i σ H, i < n → Pv i σ H → g (.int (lo + (i : Nat))) σ H fun σ2 H2 => tb (Pv (i + 1)) rt nx (Pv (i + 1)) σ2 H2) (hd : ∀ σ H, Pv n σ H → nx σ H) :
    zLoop (Itr lo n) g tb nx rt σ H := by
  refine loop_by n Pv h0 (fun i σ H hi p => hi) (fun σ H p => Nat.le_refl _) (fun i x σ H H' hi p y => ?_) hd
  obtain ⟨e, y⟩ := y
  subst e y
  exact hs i σ _ hi p
def zItL (K : PySem.W.Frag) (x : V) (H1 : Hp) (R : It → Hp → Prop) : Prop := ∃ a, x = .ref a ∧ (∃ xs, SqL K H1 a xs) ∧ R (Itl K a) H1
def zItT (K : PySem.W.Frag) (x : V) (H1 : Hp) (R : It → Hp → Prop) : Prop := ∃ a, x = .ref a ∧ (∃ xs, SqT K H1 a xs) ∧ R (Itt K a) H1
theorem i_iList {tl : TE} (h : tl σ H fun x H1 => zItL K x H1 R) : iList K tl σ H R := h
theorem i_iTup {tl : TE} (h : tl σ H fun x H1 => zItT K x H1 R) : iTup K tl σ H R := h
theorem i_itL (h : H a = some (.lst xs)) (q : R (Itl K a) H) : zItL K (.ref a) H R := ⟨a, rfl, ⟨xs, SqL.of h⟩, q⟩
theorem i_itQ (h : SqL K H a xs) (q : R (Itl K a) H) : zItL K (.ref a) H R := ⟨a, rfl, ⟨xs, h⟩, q⟩
theorem i_itT (h : H a = some (.tup xs)) (q : R (Itt K a) H) : zItT K (.ref a) H R := ⟨a, rfl, ⟨xs, SqT.of h⟩, q⟩
def zR1 (vs : List V) (H1 : Hp) (R : It → Hp → Prop) : Prop := ∃ j : Int, vs = [.int j] ∧ -(2 ^ 62) ≤ j ∧ j < 2 ^ 62 ∧ R (Itr 0 j.toNat) H1
def zR2 (vs : List V) (H1 : Hp) (R : It → Hp → Prop) : Prop := ∃ i j : Int, vs = [.int i, .int j] ∧ (-(2 ^ 62) ≤ i ∧ i < 2 ^ 62 ∧ -(2 ^ 62) ≤ j ∧ j < 2 ^ 62) ∧ R (Itr i (j - i).toNat) H1
theorem i_rng1 {ta : TA} (h : ta σ H fun vs H1 => zR1 vs H1 R) : iRng1 ta σ H R := h
theorem i_rng1I {j : Int} (h1 : -(2 ^ 62) ≤ j) (h2 : j < 2 ^ 62) (q : R (Itr 0 j.toNat) H) : zR1 [V.int j] H R := ⟨j, rfl, h1, h2, q⟩
theorem i_rng1N {n : Nat} (h : n ≤ 1000000) (q : R (Itr 0 n) H) : zR1 [V.int (n : Nat)] H R := ⟨n, rfl, by omega, by omega, q⟩
theorem i_rng2 {ta : TA} (h : ta σ H fun vs H1 => zR2 vs H1 R) : iRng2 ta σ H R := h
theorem i_rng2I {i j : Int} (h : -(2 ^ 62) ≤ i ∧ i < 2 ^ 62 ∧ -(2 ^ 62) ≤ j ∧ j < 2 ^ 62) (q : R (Itr i (j - i).toNat) H) : zR2 [V.int i, V.int j] H R := ⟨i, j, rfl, h, q⟩
def zEn (K : PySem.W.Frag) (vs : List V) (H1 : Hp) (R : It → Hp → Prop) : Prop := ∃ a xs, vs = [.ref a] ∧ SqL K H1 a xs ∧ R (Ite K a) H1
theorem i_enum {ta : TA} (h : ta σ H fun vs H1 => zEn K vs H1 R) : iEnum K ta σ H R := h
theorem i_enumL (h : SqL K H a xs) (q : R (Ite K a) H) : zEn K [V.ref a] H R := ⟨a, xs, rfl, h, q⟩
def zZi (K : PySem.W.Frag) (vs : List V) (H1 : Hp) (R : It → Hp → Prop) : Prop := ∃ a b xs ys, vs = [.ref a, .ref b] ∧ SqL K H1 a xs ∧ SqL K H1 b ys ∧ R (Itz K a b) H1
theorem i_zip {ta : TA} (h : ta σ H fun vs H1 => zZi K vs H1 R) : iZip K ta σ H R := h
theorem i_zipL {b : Addr} {ys : List V} (h : SqL K H a xs) (h2 : SqL K H b ys) (q : R (Itz K a b) H) : zZi K [V.ref a, V.ref b] H R := ⟨a, b, xs, ys, rfl, h, h2, q⟩
/-- while, by an invariant and a measure -/
theorem i_while {c : TT} (Pv : L2.St → Hp → Prop) (μ : L2.St → Hp → Nat) (h0 : Pv σ H)
    (hs : ∀ σ H, Pv σ H → c σ H fun b H1 => if b = true then zBody (fun m σ H => m = μ σ H ∧ Pv σ H) (μ σ H) tb nx rt σ H1 else nx σ H1) : zWhile c tb nx rt bk ct σ H := by
  refine ⟨fun m σ H => m = μ σ H ∧ Pv σ H, ⟨_, rfl, h0⟩, ?_⟩
  rintro m σ H ⟨rfl, p⟩
  exact hs σ H p
theorem i_body {Pv : L2.St → Hp → Prop} {μ : L2.St → Hp → Nat} {m : Nat} (h : tb (fun σ' H' => Pv σ' H' ∧ μ σ' H' < m) rt nx (fun σ' H' => Pv σ' H' ∧ μ σ' H' < m) σ H) : zBody (fun m σ H => m = μ σ H ∧ Pv σ H) m tb nx rt σ H :=
  ⟨_, fun σ' H' z => ⟨_, z.2, rfl, z.1⟩, h⟩
end

/-! ### comprehensions -/
section
variable {K : PySem.W.Frag} {H : Hp} {a : Addr} {xs : List V} {g : TG} {tt : TT} {te : TE} {vs : List Nat} {σ : L2.St} {Q : VK} {n : Nat} {lo : Int} {wi : TI}
/-- behind the iterator -/
def zComp (J : It) (g : TG) (tt : TT) (te : TE) (vs : List Nat) (σ : L2.St) (H1 : Hp) (Q : VK) : Prop := ∀ D, H1 D = none → ∃ W : Nat → Nat → Hp → Prop, (∃ m, W 0 m (upd H1 D (.lst []))) ∧ ∀ i m H, W i m H →
  (J.stop i H ∧ Q (.ref D) H) ∨ (J.go i H ∧ ∃ Nx : Hp → Prop, (∀ H', Nx H' → ∃ m', m' < m ∧ W (i + 1) m' H') ∧ ∀ x H', J.yld i H x H' → g x (wipe σ vs) H' fun σ2 H2 => wipe σ2 vs = wipe σ vs ∧ tt σ2 H2 fun b H3 =>
    if b = true then te σ2 H3 fun y H4 => ∃ acc, H4 D = some (.lst acc) ∧ acc.length < sizeLine ∧ Nx (upd H4 D (.lst (acc ++ [y]))) else Nx H3)
theorem i_lc (h : wi σ H fun J H1 => zComp J g tt te vs σ H1 Q) : tLc wi g tt te vs σ H Q := h
/-- what an element's end asks; what a left out one's does -/
def zEnd (D : Addr) (G : List V → Hp → Prop) (y : V) (H4 : Hp) : Prop := ∃ ac, H4 D = some (.lst ac) ∧ ac.length < sizeLine ∧ ∃ a2, upd H4 D (.lst (ac ++ [y])) D = some (.lst a2) ∧ G a2 (upd H4 D (.lst (ac ++ [y])))
def zSkip (D : Addr) (G : List V → Hp → Prop) (H4 : Hp) : Prop := ∃ a2, H4 D = some (.lst a2) ∧ G a2 H4
theorem i_end {D : Addr} {G : List V → Hp → Prop} {acc : List V} {y : V} {H4 : Hp} (h : H4 D = some (.lst acc)) (z : acc.length < sizeLine) (k : ∀ H6, Up H4 D (.lst (acc ++ [y])) H6 → G (acc ++ [y]) H6) : zEnd D G y H4 :=
  ⟨acc, h, z, acc ++ [y], upd_same, k _ ⟨⟨_, h⟩, rfl⟩⟩
theorem i_skip {D : Addr} {G : List V → Hp → Prop} {acc : List V} {H4 : Hp} (h : H4 D = some (.lst acc)) (k : G acc H4) : zSkip D G H4 := ⟨acc, h, k⟩
/-- a comprehension of n turns: G i acc H speaks of the list so far; the list's own place D is new for H -/
theorem comp_by {J : It} (n : Nat) (G : Nat → List V → Hp → Prop) (h0 : ∀ D H', New H D (.lst []) H' → G 0 [] H')
    (hgo : ∀ i acc H, i < n → G i acc H → J.go i H) (hst : ∀ acc H, G n acc H → J.stop n H)
    (hs : ∀ D i acc x H2 H', H D = none → i < n → H2 D = some (.lst acc) → G i acc H2 → J.yld i H2 x H' → g x (wipe σ vs) H' fun σ2 H3 => wipe σ2 vs = wipe σ vs ∧ tt σ2 H3 fun b H4 =>
      if b = true then te σ2 H4 fun y H5 => zEnd D (G (i + 1)) y H5 else zSkip D (G (i + 1)) H4)
    (hd : ∀ D acc H2, H D = none → H2 D = some (.lst acc) → G n acc H2 → Q (.ref D) H2) : zComp J g tt te vs σ H Q := by
  intro D fD
  refine ⟨fun i m H2 => m = n - i ∧ i ≤ n ∧ ∃ acc, H2 D = some (.lst acc) ∧ G i acc H2, ⟨n, rfl, Nat.zero_le _, [], upd_same, h0 D _ ⟨fD, rfl⟩⟩, ?_⟩
  rintro i m H2 ⟨rfl, hi, acc, hD, p⟩
  by_cases hlt : i < n
  · exact .inr ⟨hgo i acc H2 hlt p, fun H6 => ∃ acc, H6 D = some (.lst acc) ∧ G (i + 1) acc H6, fun H' p' => ⟨n - (i + 1), by omega, rfl, hlt, p'⟩, fun x H' y => hs D i acc x H2 H' fD hlt hD p y⟩
  · have e : i = n := by omega
    subst e
    exact .inl ⟨hst acc H2 p, hd D acc H2 fD hD p⟩
/-- over a list -/
theorem comp_list (G : Nat → List V → Hp → Prop) (h0 : ∀ D H', New H D (.lst []) H' → G 0 [] H') (hl : ∀ i acc H, i ≤ xs.length → G i acc H → SqL K H a xs)
    (hs : ∀ D i acc x H2, H D = none → xs[i]? = some x → H2 D = some (.lst acc) → G i acc H2 → g x (wipe σ vs) H2 fun σ2 H3 => wipe σ2 vs = wipe σ vs ∧ tt σ2 H3 fun b H4 =>
      if b = true then te σ2 H4 fun y H5 => zEnd D (G (i + 1)) y H5 else zSkip D (G (i + 1)) H4)
    (hd : ∀ D acc H2, H D = none → H2 D = some (.lst acc) → G xs.length acc H2 → Q (.ref D) H2) : zComp (Itl K a) g tt te vs σ H Q := by
  refine comp_by xs.length G h0 (fun i acc H hi p => ⟨xs, xs[i], hl i acc H (Nat.le_of_lt hi) p, by simp [hi]⟩) (fun acc H p => ⟨xs, hl _ acc H (Nat.le_refl _) p, Nat.le_refl _⟩) (fun D i acc x H2 H' fD hi hD p y => ?_) hd
  obtain ⟨e, y⟩ := y
  subst e
  exact hs D i acc x _ fD (y xs (hl i acc _ (Nat.le_of_lt hi) p)) hD p
theorem comp_tup (G : Nat → List V → Hp → Prop) (h0 : ∀ D H', New H D (.lst []) H' → G 0 [] H') (hl : ∀ i acc H, i ≤ xs.length → G i acc H → SqT K H a xs)
    (hs : ∀ D i acc x H2, H D = none → xs[i]? = some x → H2 D = some (.lst acc) → G i acc H2 → g x (wipe σ vs) H2 fun σ2 H3 => wipe σ2 vs = wipe σ vs ∧ tt σ2 H3 fun b H4 =>
      if b = true then te σ2 H4 fun y H5 => zEnd D (G (i + 1)) y H5 else zSkip D (G (i + 1)) H4)
    (hd : ∀ D acc H2, H D = none → H2 D = some (.lst acc) → G xs.length acc H2 → Q (.ref D) H2) : zComp (Itt K a) g tt te vs σ H Q := by
  refine comp_by xs.length G h0 (fun i acc H hi p => ⟨xs, xs[i], hl i acc H (Nat.le_of_lt hi) p, by simp [hi]⟩) (fun acc H p => ⟨xs, hl _ acc H (Nat.le_refl _) p, Nat.le_refl _⟩) (fun D i acc x H2 H' fD hi hD p y => ?_) hd
  obtain ⟨e, y⟩ := y
  subst e
  exact hs D i acc x _ fD (y xs (hl i acc _ (Nat.le_of_lt hi) p)) hD p
theorem comp_range (G : Nat → List V → Hp → Prop) (h0 : ∀ D H', New H D (.lst []) H' → G 0 [] H')
    (hs : ∀ D i acc H2, H D = none → i < n → H2 D = some (.lst acc) → G i acc H2 → g (.int (lo + (i : Nat))) (wipe σ vs) H2 fun σ2 H3 => wipe σ2 vs = wipe σ vs ∧ tt σ2 H3 fun b H4 =>
      if b = true then te σ2 H4 fun y H5 => zEnd D (G (i + 1)) y H5 else zSkip D (G (i + 1)) H4)
    (hd : ∀ D acc H2, H D = none → H2 D = some (.lst acc) → G n acc H2 → Q (.ref D) H2) : zComp (Itr lo n) g tt te vs σ H Q := by
  refine comp_by n G h0 (fun i acc H hi p => hi) (fun acc H p => Nat.le_refl _) (fun D i acc x H2 H' fD hi hD p y => ?_) hd
  obtain ⟨e, y⟩ := y
  subst e y
  exact hs D i acc _ fD hi hD p
/-- over enumerate(list): each pair is a new tuple -/
theorem comp_enum (G : Nat → List V → Hp → Prop) (h0 : ∀ D H', New H D (.lst []) H' → G 0 [] H') (hl : ∀ i acc H, i ≤ xs.length → G i acc H → SqL K H a xs)
    (hs : ∀ D i acc x T H2 H2', H D = none → xs[i]? = some x → H2 D = some (.lst acc) → G i acc H2 → New H2 T (.tup [.int (i : Nat), x]) H2' → g (.ref T) (wipe σ vs) H2' fun σ2 H3 => wipe σ2 vs = wipe σ vs ∧ tt σ2 H3 fun b H4 =>
      if b = true then te σ2 H4 fun y H5 => zEnd D (G (i + 1)) y H5 else zSkip D (G (i + 1)) H4)
    (hd : ∀ D acc H2, H D = none → H2 D = some (.lst acc) → G xs.length acc H2 → Q (.ref D) H2) : zComp (Ite K a) g tt te vs σ H Q := by
  refine comp_by xs.length G h0 (fun i acc H hi p => ⟨xs, xs[i], hl i acc H (Nat.le_of_lt hi) p, by simp [hi]⟩) (fun acc H p => ⟨xs, hl _ acc H (Nat.le_refl _) p, Nat.le_refl _⟩) (fun D i acc x H2 H' fD hi hD p y => ?_) hd
  obtain ⟨T, v, rfl, fT, rfl, y⟩ := y
  exact hs D i acc v T H2 _ fD (y xs (hl i acc H2 (Nat.le_of_lt hi) p)) hD p ⟨fT, rfl⟩
/-- over zip(list, list) of one length -/
theorem comp_zip {b : Addr} {ys : List V} (he : xs.length = ys.length) (G : Nat → List V → Hp → Prop) (h0 : ∀ D H', New H D (.lst []) H' → G 0 [] H') (hl : ∀ i acc H, i ≤ xs.length → G i acc H → SqL K H a xs ∧ SqL K H b ys)
    (hs : ∀ D i acc x y T H2 H2', H D = none → xs[i]? = some x → ys[i]? = some y → H2 D = some (.lst acc) → G i acc H2 → New H2 T (.tup [x, y]) H2' → g (.ref T) (wipe σ vs) H2' fun σ2 H3 => wipe σ2 vs = wipe σ vs ∧ tt σ2 H3 fun b H4 =>
      if b = true then te σ2 H4 fun y H5 => zEnd D (G (i + 1)) y H5 else zSkip D (G (i + 1)) H4)
    (hd : ∀ D acc H2, H D = none → H2 D = some (.lst acc) → G xs.length acc H2 → Q (.ref D) H2) : zComp (Itz K a b) g tt te vs σ H Q := by
  refine comp_by xs.length G h0 (fun i acc H hi p => ⟨xs, ys, xs[i], ys[i]'(he ▸ hi), (hl i acc H (Nat.le_of_lt hi) p).1, (hl i acc H (Nat.le_of_lt hi) p).2, by simp [hi], by simp [he ▸ hi]⟩)
    (fun acc H p => ⟨xs, ys, (hl _ acc H (Nat.le_refl _) p).1, (hl _ acc H (Nat.le_refl _) p).2, .inl (Nat.le_refl _)⟩) (fun D i acc x H2 H' fD hi hD p y => ?_) hd
  obtain ⟨T, v, u, rfl, fT, rfl, y1, y2⟩ := y
  have q := hl i acc H2 (Nat.le_of_lt hi) p
  exact hs D i acc v u T H2 _ fD (y1 xs q.1) (y2 ys q.2) hD p ⟨fT, rfl⟩
theorem i_yes {Q2 : Bool → Hp → Prop} (h : Q2 true H) : tYes σ H Q2 := h
end
/-! ### the same with the fragment written (in blocks the context's own is not at hand) -/
theorem opAddK {X : Cx} (K : PySem.W.Frag) (h : X.K = K) : OpR X (binaryOp .Add) (rAdd K) := h ▸ opAdd
theorem opMulK {X : Cx} (K : PySem.W.Frag) (h : X.K = K) : OpR X (binaryOp .Mult) (rMul K) := h ▸ opMul
theorem opEqK {X : Cx} (K : PySem.W.Frag) (h : X.K = K) (hu : X.A.units + 64 < cLine) : OpR X (compareOp .Eq) (rEqU K) := h ▸ opEq hu
theorem opNeK {X : Cx} (K : PySem.W.Frag) (h : X.K = K) (hu : X.A.units + 64 < cLine) : OpR X (compareOp .NotEq) (rNeU K) := h ▸ opNe hu
theorem ixUK {X : Cx} (K : PySem.W.Frag) (h : X.K = K) : IxR X (rIx K) := h ▸ ixU
theorem getLK {X : Cx} (K : PySem.W.Frag) (h : X.K = K) : PGet X (rGetL K) := h ▸ getL
theorem slUK {X : Cx} (K : PySem.W.Frag) (h : X.K = K) : SlR X (rSlU K) := h ▸ slU
theorem clenK {X : Cx} (K : PySem.W.Frag) (h : X.K = K) : CallR X (.builtin "len") (rLenU K) := h ▸ clen
theorem clistK {X : Cx} (K : PySem.W.Frag) (h : X.K = K) : CallR X (.type "list") (rListU K) := h ▸ clist
theorem ctupleK {X : Cx} (K : PySem.W.Frag) (h : X.K = K) : CallR X (.type "tuple") (rTupU K) := h ▸ ctuple
theorem csumK {X : Cx} (K : PySem.W.Frag) (h : X.K = K) (hc : X.calm = true) : CallR X (.builtin "sum") (rSum K) := h ▸ cr_sum hc
theorem callK {X : Cx} (K : PySem.W.Frag) (h : X.K = K) (hc : X.calm = true) : CallR X (.builtin "all") (rAll K) := h ▸ cr_all hc
theorem canyK {X : Cx} (K : PySem.W.Frag) (h : X.K = K) (hc : X.calm = true) : CallR X (.builtin "any") (rAny K) := h ▸ cr_any hc
end Z

/-! Z, part four: what the head tells; the law's end. -/
namespace Z
open PySem PySem.Spec PyProof.Rows L2

/-! ### the head's facts, and some of one's own -/
abbrev Fx : Type := PySem.W.Frag → Bool
def obsX (fa : List He.Fa) (fx : List Fx) (fn : List He.DefD) (K : PySem.W.Frag) : He.AlD := (((fa.all fun f => f.ok K) && fn.all fun d => d.ok K) && fx.all fun f => f K, fn.map fun d => He.fnW K d.at_)
def SaysX (fa : List He.Fa) (fx : List Fx) (fn : List He.DefD) (K : PySem.W.Frag) : Prop := obsX fa fx fn K = He.valD fn
def obsXG (n : Nat) (fa : List He.Fa) (fx : List Fx) (fn : List He.DefD) (g : Addr → Option Obj) : He.AlD := obsX fa fx fn (He.frG g (cStatics :: He.asD g n))
def hookX (n : Nat) (fa : List He.Fa) (fx : List Fx) (fn : List He.DefD) : PySem.W.Hook where
  α := He.AlD
  obs := fun s => obsXG n fa fx fn s.heap.get?
  val := fun _ => He.valD fn
  says := fun _ h => ∃ K : PySem.W.Frag, K.In h ∧ SaysX fa fx fn K
  of := fun _ _ e => ⟨_, He.frG_in, e⟩
  keeps := fun _ _ _ ⟨K, hK, c⟩ k => ⟨K, PySem.W.Frag.In.keeps hK k, c⟩
theorem obsXG_eq {n : Nat} {fa : List He.Fa} {fx : List Fx} {fn : List He.DefD} {g : Addr → Option Obj} {s : Shared} (h : ∀ a, g a = s.heap.get? a) : obsXG n fa fx fn g = (hookX n fa fx fn).obs s := by
  have e : g = s.heap.get? := funext h
  rw [e] <;> rfl
theorem SaysX.d {fa : List He.Fa} {fx : List Fx} {fn : List He.DefD} {K : PySem.W.Frag} (c : SaysX fa fx fn K) : He.SaysD fa fn K := by
  have e1 : (((fa.all fun f => f.ok K) && fn.all fun d => d.ok K) && fx.all fun f => f K) = true := congrArg (fun z : He.AlD => z.1) c
  have e2 : fn.map (fun d => He.fnW K d.at_) = fn.map He.DefD.val := congrArg (fun z : He.AlD => z.2) c
  rw [Bool.and_eq_true] at e1
  show (_, _) = (_, _)
  rw [e1.1, e2]
theorem SaysX.x {fa : List He.Fa} {fx : List Fx} {fn : List He.DefD} {K : PySem.W.Frag} (c : SaysX fa fx fn K) (i : Nat) {f : Fx} (h : fx[i]? = some f) : f K = true := by
  have e1 : (((fa.all fun f => f.ok K) && fn.all fun d => d.ok K) && fx.all fun f => f K) = true := congrArg (fun z : He.AlD => z.1) c
  rw [Bool.and_eq_true] at e1
  exact List.all_eq_true.mp e1.2 f (List.mem_of_getElem? h)
/-- what the head tells of the written part -/
structure Ev (fa : List He.Fa) (fx : List Fx) (fn : List He.DefD) (K : PySem.W.Frag) (mg : Str → Option Value) : Prop where
  y : SaysX fa fx fn K
  x : ∃ h : Heap, K.In h ∧ h.Ns mainGlobals mg
section
variable {fa : List He.Fa} {fx : List Fx} {dl : List He.DefD} {K : PySem.W.Frag} {mg : Str → Option Value} (E : Ev fa fx dl K mg)
include E
theorem Ev.c : He.SaysD fa dl K := E.y.d
theorem Ev.own (i : Nat) {f : Fx} (h : fx[i]? = some f := by rfl) : f K = true := E.y.x i h
theorem Ev.glo (i : Nat) {x : Str} (h : fa[i]? = some (.glo x) := by rfl) : mg x = some (.ref (He.ga K x)) := by
  obtain ⟨hp, a, b⟩ := E.x
  exact He.glo_ok a b (E.c.fact i h)
theorem Ev.free (i : Nat) {x : Str} (h : fa[i]? = some (.free x) := by rfl) : mg x = none := by
  obtain ⟨hp, a, b⟩ := E.x
  exact He.free_ok a b (E.c.fact i h)
theorem Ev.int (i : Nat) {x : Str} {z : Int} (h : fa[i]? = some (.int x z) := by rfl) : ∃ t, mg x = some (.int z t) := by
  obtain ⟨hp, a, b⟩ := E.x
  exact He.int_ok a b (E.c.fact i h)
theorem Ev.str (i : Nat) {x z : Str} (h : fa[i]? = some (.str x z) := by rfl) : ∃ t, mg x = some (.str z t) := by
  obtain ⟨hp, a, b⟩ := E.x
  exact He.str_ok a b (E.c.fact i h)
theorem Ev.cls (i : Nat) {x : Str} (h : fa[i]? = some (.cls x) := by rfl) : Cls K (He.ga K x) := He.cls_ok (E.c.fact i h)
theorem Ev.noat (i : Nat) {x f : Str} (h : fa[i]? = some (.noat x f) := by rfl) : NoAttr K (He.ga K x) f := He.noat_ok (E.c.fact i h)
theorem Ev.meth (i : Nat) {x m : Str} (h : fa[i]? = some (.meth x m) := by rfl) : Meth K (He.ga K x) m (He.ma K (He.ga K x) m) := He.meth_ok (E.c.fact i h)
theorem Ev.mkr (i : Nat) {x : Str} (h : fa[i]? = some (.mkr x) := by rfl) : L2.Mk K (He.ga K x) (He.ma K (He.ga K x) "__init__") := He.mkr_ok (E.c.fact i h)
theorem Ev.fn (i : Nat) {d : He.DefD} (h : dl[i]? = some d := by rfl) : ∃ fd, FunD K d.name d.qual d.params d.body d.scope (d.dvs K) (d.kws K) (He.fAd K d.at_) fd := E.c.def_ i h
end
theorem i_start {t : TZ} {Q : VK} {N : List Str} {vs : List V} {H : Hp} {σ : L2.St} (e : L2.start N vs = σ) (h : t (fun _ H' => Q .non H') Q (fun _ _ => False) (fun _ _ => False) σ H) :
    zS t { nx := fun _ H' => Q .non H', rt := Q } (L2.start N vs) H := e ▸ h
theorem cxK {CX : CXT} {P : Program} {w : World} {K : PySem.W.Frag} {mg : Str → Option Value} {base : Heap} {N : List Str} {qual : Str} {scope : Scope} {f : Addr} {cd : Value} {A : Around} {outer : List Env} {s : Shared} {H : Hp} {E : XK} :
    (cxOf CX P w K mg base N qual scope f cd A outer s H E).K = K := rfl
theorem pe_gint {X : Cx} {x : Str} {i : Int} {pos : Pos} (hg : Gl X x) (h : ∃ t, X.mg x = some (.int i t)) (hd : (x == ("__debug__" : Str)) = false := by decide) : PE X (.Name x pos) (tC (.int i)) := by
  obtain ⟨t, e⟩ := h
  exact pe_glob hg e ⟨t, rfl⟩ hd
theorem pe_gstr {X : Cx} {x z : Str} {pos : Pos} (hg : Gl X x) (h : ∃ t, X.mg x = some (.str z t)) (hd : (x == ("__debug__" : Str)) = false := by decide) : PE X (.Name x pos) (tC (.str z)) := by
  obtain ⟨t, e⟩ := h
  exact pe_glob hg e ⟨t, rfl⟩ hd

theorem FunD.uniq {K : PySem.W.Frag} {x qual : Str} {params : Arguments} {body : List Stmt} {scope : Scope} {dvs : List V} {kws : List (Str × V)} {f : Addr} {fd fd' : FuncData}
    (F : FunD K x qual params body scope dvs kws f fd) (F' : FunD K x qual params body scope dvs kws f fd') : fd = fd' := by
  obtain ⟨_, _, _, _, _, _, _, _, _, _, _, lk, _⟩ := F.ex
  obtain ⟨_, _, _, _, _, _, _, _, _, _, _, lk', _⟩ := F'.ex
  rw [lk] at lk'
  cases lk'
  rfl
/-! ### the law's end -/
section
variable {P : Program} {w : World} {K : PySem.W.Frag} {mg mb : Str → Option Value} {k : Nat} {fa a : Addr} {fd : FuncData} {x : Str} {sp : Sp} {s₁ : Shared} {vs : List Value} {ns : List Int}
/-- the law's call, from an abstract heap that tracks the script at most -/
theorem law_core (KX : K.In s₁.heap) (hns : s₁.heap.Ns mainGlobals mg) (hb : s₁.heap.Ns builtinsNs mb) (hbb : ∀ x : Str, x ≠ "__name__" → mb x = bootBuiltins x) (hlim : s₁.heap.NoLimit)
    (hgen : s₁.gens = #[]) (ha : s₁.heap.get? a = some { cls := .type "list", data := .seq vs.toArray }) (hr : Room k callerA)
    (F : ∀ base : Heap, K.In base → base.Ns mainGlobals mg → FnG True P w K mg base k fa fd [x] sp) (bnd : ∀ (s : Shared) (u : Value), BindsTo s fd ⟨[u], []⟩ [(x, u)])
    (H : Hp) (only : Only H) (hq : sp [.ref a] H (fun v _ => v = .bl true) fun _ _ _ => False) (hok : HOk P w H s₁.heap) (at_ : ∀ b, H b ≠ none → b = a) (nk : H a ≠ none → K.lookup a = none) :
    codeAny (model P w) callerA (.call (.ref fa) ⟨[.ref a], []⟩) (fun r s' => r = .ok (.ret (.bool true)) ∧ OldK s₁.heap s'.heap ∧ s'.os = s₁.os ∧ AllBare s'.gens) s₁ := by
  have isA : ∀ {b : Addr} {u : HO}, H b = some u → b = a := fun {b u} e => at_ b (by rw [e]; exact fun z => nomatch z)
  have hid : ∀ {b : Addr} {o : Obj}, s₁.heap.get? b = some o → H b = none → (hidT s₁.heap H).get? b = some o := fun e n => hidT_get e n
  have noDict : ∀ {b : Addr} {o : Obj} {es : Array DictEntry} {ep : Nat}, s₁.heap.get? b = some o → o.data = .dict es ep → H b = none := by
    intro b o es ep e d
    cases q : H b with
    | none => rfl
    | some u =>
      rw [isA q, ha] at e
      cases e
      exact absurd (show Data.seq vs.toArray _ = Data.dict es ep from d) (fun z => nomatch z)
  have nsK : ∀ {b : Addr} {m : Str → Option Value}, s₁.heap.Ns b m → (hidT s₁.heap H).Ns b m := fun {b m} z => by
    obtain ⟨o, es, ep, e, d, r⟩ := z
    exact ⟨o, es, ep, hid e (noDict e d), d, r⟩
  have kb : K.In (hidT s₁.heap H) := fun b o e => hid (KX b o e) (by
    cases q : H b with
    | none => rfl
    | some u =>
      have z := isA q
      subst z
      rw [nk (by rw [q]; exact fun z => nomatch z)] at e
      cases e)
  have lim : (hidT s₁.heap H).NoLimit := by
    obtain ⟨mc, h1, h2⟩ := hlim
    exact ⟨mc, nsK h1, h2⟩
  have none_in : ∀ b : Addr, b ∉ frs ([] : List Env) := fun b z => by cases (show b ∈ ([] : List Addr) from z)
  have e0 : Env0 P w K mg (hidT s₁.heap H) callerA [] s₁ H :=
    ⟨rfl, ⟨kb, nsK hns, ⟨mb, nsK hb, hbb⟩, lim⟩, fun b o e => of_hidT e, Nat.le_of_eq (hidT_size _ _), trivial, fun b z => absurd z (none_in b), hok, .of_eq hgen⟩
  refine codeAny_mono ((F _ kb (nsK hns)).run callerA [] s₁ H ⟨[.ref a], []⟩ [.ref a] [.ref a] _ _ hr (fun _ => rfl) e0 (bnd s₁ (.ref a)) (.cons rfl .nil) hq) fun r s' h => ?_
  match r, h with
  | .error e, h =>
    obtain ⟨_, _, _, _, _, _, _, _, _, _, _, _, z⟩ := (show L2.CX P w [] H s₁ (fun _ _ _ => False) e s' from h)
    exact z.elim
  | .ok .next, h => exact False.elim h
  | .ok .brk, h => exact False.elim h
  | .ok .cont, h => exact False.elim h
  | .ok (.ret u), h =>
    obtain ⟨v, H', os, bare, un, hok', r', q⟩ := h
    subst q
    obtain rfl : u = Value.bool true := r'
    refine ⟨rfl, OldK.of_keep fun b o e => ?_, os, bare⟩
    cases q : H b with
    | none => exact un.keep b o e q (none_in b) (by simp)
    | some u =>
      rcases only b with z | ⟨ob, xs, z⟩
      · rw [q] at z
        cases z
      · obtain ⟨e1, _⟩ := hok b _ z
        obtain ⟨e2, _⟩ := hok' b _ (un.frzs b ob _ z)
        rw [e] at e1
        cases e1
        exact e2
theorem law_callG (KX : K.In s₁.heap) (hns : s₁.heap.Ns mainGlobals mg) (hb : s₁.heap.Ns builtinsNs mb) (hbb : ∀ x : Str, x ≠ "__name__" → mb x = bootBuiltins x) (hlim : s₁.heap.NoLimit)
    (hgen : s₁.gens = #[]) (ha : s₁.heap.get? a = some { cls := .type "list", data := .seq vs.toArray }) (hi : IntsAre vs ns) (hl : ns.length ≤ sizeLine) (hr : Room k callerA)
    (F : ∀ base : Heap, K.In base → base.Ns mainGlobals mg → FnG True P w K mg base k fa fd [x] sp) (bnd : ∀ (s : Shared) (u : Value), BindsTo s fd ⟨[u], []⟩ [(x, u)])
    (hsp : ∀ H : Hp, Only H → SqL K H a (ns.map V.int) → sp [.ref a] H (fun v _ => v = .bl true) fun _ _ _ => False) :
    codeAny (model P w) callerA (.call (.ref fa) ⟨[.ref a], []⟩) (fun r s' => r = .ok (.ret (.bool true)) ∧ OldK s₁.heap s'.heap ∧ s'.os = s₁.os ∧ AllBare s'.gens) s₁ := by
  have rv := vals_ints hi
  have ln := hi.length
  cases hk : K.lookup a with
  | some o =>
    have e := KX a o hk
    rw [ha] at e
    cases e
    have S : SqL K (fun _ => none) a (ns.map V.int) := .inr ⟨_, vs.toArray, _, hk, rfl, rfl, rfl, by rw [List.size_toArray, ln]; exact hl, by simpa using rv⟩
    exact law_core KX hns hb hbb hlim hgen ha hr F bnd _ (fun _ => .inl rfl) (hsp _ (fun _ => .inl rfl) S) (fun b u z => nomatch (show (none : Option HO) = some u from z)) (fun b z => absurd rfl z) fun z => absurd rfl z
  | none =>
    let H : Hp := fun b => if b = a then some (.frz { cls := .type "list", data := .seq vs.toArray } (.lst (ns.map V.int))) else none
    have Ha : H a = some (.frz { cls := .type "list", data := .seq vs.toArray } (.lst (ns.map V.int))) := if_pos rfl
    have Hn : ∀ b, b ≠ a → H b = none := fun b z => if_neg z
    have only : Only H := fun b => by
      by_cases z : b = a
      · subst z
        exact .inr ⟨_, _, Ha⟩
      · exact .inl (Hn b z)
    refine law_core KX hns hb hbb hlim hgen ha hr F bnd H only (hsp H only (.inl (.inr ⟨_, Ha⟩))) (fun b u z => ?_) (fun b z => ?_) fun _ => hk
    · by_cases e : b = a
      · subst e
        rw [Ha] at z
        cases z
        exact ⟨ha, by rw [List.length_map]; exact hl, vs, _, rv, ha⟩
      · rw [Hn b e] at z
        cases z
    · by_cases e : b = a
      · exact e
      · exact absurd (Hn b e) z
end
/-- a law's row: the promise of its def for every script, with the script's bits -/
theorem walk_ofG {l : PySem.W.OpenLaw} {n k : Nat} {q : Program} {loose : List Str} {XP : (Str → Option Value) → Heap → Prop} {YP : World → Heap → Prop} {d : DefRec} {x : Str}
    (hn : l.most = some n) (hn2 : n ≤ sizeLine) (hdf : d.params.defaults = []) (hr : Room k callerA)
    (F : ∀ (w : World) (mg : Str → Option Value) (fa : Addr) (h : Heap), YP w h → h.Ns mainGlobals mg → mg d.name = some (.ref fa) →
      ∃ (K : PySem.W.Frag) (fd : FuncData) (sp : Sp), K.In h ∧ (∀ (s : Shared) (u : Value), BindsTo s fd ⟨[u], []⟩ [(x, u)]) ∧
        (∀ (H : Hp) (a : Addr) (ns : List Int), ns.length ≤ n → (∀ z ∈ ns, Builtin.Int.intBits z ≤ 1048576) → Only H → SqL K H a (ns.map V.int) → sp [.ref a] H (fun v _ => v = .bl true) fun _ _ _ => False) ∧
        ∀ base : Heap, K.In base → base.Ns mainGlobals mg → FnG True l.prog w K mg base k fa fd [x] sp) :
    PySem.W.WalkO q loose XP YP l.row.toRowW d [] (fun f vs => PySem.call f vs) := by
  refine Att.attach_callB hn hdf fun w s₀ s₁ mg mb fa o pm cd doc a vs ns G Y ho hd hcd hmg hobj hints hlen hbits hgn => ?_
  obtain ⟨K, fd, sp, KX, bnd, hsp, hF⟩ := F w mg fa _ Y G.T.g hmg
  exact law_callG KX G.T.g G.T.b G.T.builtins G.T.nolimit hgn hobj hints (Nat.le_trans hlen hn2) hr hF bnd fun H hO hS => hsp H a ns hlen hbits hO hS
end Z

/-! Z, part five: data: equality and repr. -/
namespace Z
open PySem PySem.Spec PyProof.Rows L2

/-- greater than what the laws draw -/
def big : Nat := 2 ^ 1200
/-! ### data that is fine: ints that aren't too great, texts, no dicts -/
mutual
def fine : PyData → Bool
  | .none | .bool _ => true
  | .int i => decide (i.natAbs < big)
  | .str x => PyData.canLay0 (.str x) && x.cps.toList.all fun c => decide (c < 16 ^ 8)
  | .list l | .tuple l => fines l
  | .dict _ => false
def fines : List PyData → Bool
  | [] => true
  | d :: l => fine d && fines l
end
theorem fines_iff : ∀ {l : List PyData}, fines l = true ↔ ∀ d ∈ l, fine d = true
  | [] => by simp [fines]
  | d :: l => by
    rw [fines, Bool.and_eq_true, fines_iff (l := l)]
    simp
theorem fines_ints {ns : List Int} (h : ∀ n ∈ ns, n.natAbs < big) : fines (ns.map PyData.int) = true := by
  rw [fines_iff]
  intro d hd
  obtain ⟨n, hn, rfl⟩ := List.mem_map.mp hd
  exact decide_eq_true (h n hn)
mutual
theorem fine_lay : ∀ d : PyData, fine d = true → d.canLay0 = true
  | .none, _ | .bool _, _ | .int _, _ => rfl
  | .str x, h => by
    simp only [fine, Bool.and_eq_true] at h
    exact h.1
  | .list l, h | .tuple l, h => by
    simp only [fine] at h
    simpa only [PyData.canLay0] using fines_lay l h
  | .dict _, h => by simp only [fine] at h; cases h
theorem fines_lay : ∀ l : List PyData, fines l = true → PyData.canLayAll0 l = true
  | [], _ => rfl
  | d :: l, h => by
    simp only [fines, Bool.and_eq_true] at h
    simp only [PyData.canLayAll0, Bool.and_eq_true]
    exact ⟨fine_lay d h.1, fines_lay l h.2⟩
end
theorem two_ten : big < 10 ^ 398 := by decide +kernel
mutual
theorem fine_show : ∀ d : PyData, fine d = true → d.showable = true
  | .none, _ | .bool _, _ | .str _, _ => by simp only [PyData.showable]
  | .int i, h => by
    simp only [fine, decide_eq_true_eq] at h
    simp only [PyData.showable, decide_eq_true_eq]
    exact Nat.lt_trans (PySem.Flt.log2_lt_of (k := 1200) (by decide) h) (by decide)
  | .list l, h | .tuple l, h => by
    simp only [fine] at h
    simpa only [PyData.showable] using fines_show l h
  | .dict _, h => by simp only [fine] at h; cases h
theorem fines_show : ∀ l : List PyData, fines l = true → PyData.showableAll l = true
  | [], _ => rfl
  | d :: l, h => by
    simp only [fines, Bool.and_eq_true] at h
    simp only [PyData.showableAll, Bool.and_eq_true]
    exact ⟨fine_show d h.1, fines_show l h.2⟩
end
mutual
theorem fine_dict : ∀ d : PyData, fine d = true → d.hasDict = false
  | .none, _ | .bool _, _ | .str _, _ | .int _, _ => by simp only [PyData.hasDict]
  | .list l, h | .tuple l, h => by
    simp only [fine] at h
    simpa only [PyData.hasDict] using fines_dict l h
  | .dict _, h => by simp only [fine] at h; cases h
theorem fines_dict : ∀ l : List PyData, fines l = true → PyData.hasDictAll l = false
  | [], _ => rfl
  | d :: l, h => by
    simp only [fines, Bool.and_eq_true] at h
    simp only [PyData.hasDictAll, fine_dict d h.1, fines_dict l h.2, Bool.or_false]
end
theorem int_len {i : Int} (h : i.natAbs < big) : (PyData.shown (.int i)).length ≤ 400 := by
  have e := int_text_length_le10 (k := 398) (by decide) (Nat.lt_trans h two_ten)
  show (Str.ofString (toString i)).length ≤ 400
  rw [PySem.ofString_length]
  omega
mutual
theorem fine_short : ∀ d : PyData, fine d = true → d.leavesShort 400 = true
  | .none, _ | .bool _, _ => by simp only [PyData.leavesShort]
  | .int i, h => by
    simp only [fine, decide_eq_true_eq] at h
    simp only [PyData.leavesShort, decide_eq_true_eq]
    exact int_len h
  | .str x, h => by
    simp only [fine, Bool.and_eq_true] at h
    simpa only [PyData.leavesShort] using h.2
  | .list l, h | .tuple l, h => by
    simp only [fine] at h
    simpa only [PyData.leavesShort] using fines_short l h
  | .dict _, h => by simp only [fine] at h; cases h
theorem fines_short : ∀ l : List PyData, fines l = true → PyData.leavesShortAll 400 l = true
  | [], _ => by simp only [PyData.leavesShortAll]
  | d :: l, h => by
    simp only [fines, Bool.and_eq_true] at h
    simp only [PyData.leavesShortAll, Bool.and_eq_true]
    exact ⟨fine_short d h.1, fines_short l h.2⟩
end
/-- fine, not too deep, not too much -/
structure Neat (d : PyData) : Prop where
  f : fine d = true
  dp : d.depth ≤ 40
  bk : d.bulk ≤ 40000
theorem Neat.shaped {d : PyData} (h : Neat d) : SeqAt.shaped d = true := by
  unfold SeqAt.shaped
  rw [Bool.and_eq_true, decide_eq_true_eq]
  exact ⟨fine_lay d h.f, Nat.le_trans h.dp (by decide)⟩
theorem Neat.fits {d : PyData} (h : Neat d) : d.shown.length ≤ sizeLine := by
  have z := PyData.shown_le_bulk 400 (by decide) d (fine_short d h.f)
  have k := h.bk
  rw [sizeLine_eq]
  omega
theorem Neat.refl {d : PyData} (h : Neat d) : PyData.eqv d d = true := SeqAt.eqv_refl d (fine_lay d h.f)
theorem depth_ints (ns : List Int) : PyData.depthAll (ns.map PyData.int) = 0 := by
  induction ns with
  | nil => simp [PyData.depthAll]
  | cons n r ih => simp [PyData.depthAll, PyData.depth, ih]
theorem bulk_ints (ns : List Int) : PyData.bulkAll (ns.map PyData.int) = ns.length := by
  induction ns with
  | nil => simp [PyData.bulkAll]
  | cons n r ih => simp [PyData.bulkAll, PyData.bulk, ih]; omega
theorem neat_ints {ns : List Int} (h : ∀ n ∈ ns, n.natAbs < big) (l : ns.length ≤ 40000) : Neat (.list (ns.map PyData.int)) :=
  ⟨by simp only [fine]; exact fines_ints h, by simp only [PyData.depth, depth_ints]; omega, by simp only [PyData.bulk, bulk_ints]; exact l⟩
theorem shaped_ints (ns : List Int) : SeqAt.shaped (.list (ns.map PyData.int)) = true := by
  unfold SeqAt.shaped
  rw [Bool.and_eq_true, decide_eq_true_eq]
  refine ⟨?_, by simp only [PyData.depth, depth_ints]; omega⟩
  simp only [PyData.canLay0]
  induction ns with
  | nil => rfl
  | cons n r ih => simp only [List.map_cons, PyData.canLayAll0, PyData.canLay0, Bool.true_and]; exact ih
theorem eqv_ints : ∀ ns ms : List Int, PyData.eqv (.list (ns.map PyData.int)) (.list (ms.map PyData.int)) = decide (ns = ms) := by
  have key : ∀ ns ms : List Int, PyData.eqvAll (ns.map PyData.int) (ms.map PyData.int) = decide (ns = ms) := by
    intro ns
    induction ns with
    | nil => intro ms; cases ms <;> simp [PyData.eqvAll]
    | cons n r ih =>
      intro ms
      cases ms with
      | nil => simp [PyData.eqvAll]
      | cons m q =>
        simp only [List.map_cons, PyData.eqvAll, PyData.eqv, ih q, List.cons.injEq, Bool.decide_and]
        rfl
  intro ns ms
  simp only [PyData.eqv]
  exact key ns ms
section
variable {K : PySem.W.Frag} {H : Hp} {Q : VK} {p q : Addr} {ns ms : List Int} {d e : PyData} {x y : V}
theorem i_neLI (h1 : H p = some (.lst (ns.map V.int))) (h2 : H q = some (.lst (ms.map V.int))) (k : Q (.bl (!decide (ns = ms))) H) : rNeU K (.ref p) (.ref q) H Q :=
  i_neD (dp_lints h1) (dp_lints h2) (shaped_ints ns) (shaped_ints ms) (by rw [eqv_ints]; exact k)
theorem i_eqLI (h1 : H p = some (.lst (ns.map V.int))) (h2 : H q = some (.lst (ms.map V.int))) (k : Q (.bl (decide (ns = ms))) H) : rEqU K (.ref p) (.ref q) H Q :=
  i_eqD (dp_lints h1) (dp_lints h2) (shaped_ints ns) (shaped_ints ms) (by rw [eqv_ints]; exact k)
/-- the same data on both sides -/
theorem i_neDD (h1 : Dp K H x d) (h2 : Dp K H y d) (n : Neat d) (k : Q (.bl false) H) : rNeU K x y H Q := i_neD h1 h2 n.shaped n.shaped (by rw [n.refl]; exact k)
theorem i_eqDD (h1 : Dp K H x d) (h2 : Dp K H y d) (n : Neat d) (k : Q (.bl true) H) : rEqU K x y H Q := i_eqD h1 h2 n.shaped n.shaped (by rw [n.refl]; exact k)
end

/-! ### repr -/
def rRepr (K : PySem.W.Frag) : List V → Hp → VK → Prop := fun vs H Q => ∃ x d, vs = [x] ∧ Dp K H x d ∧ Neat d ∧ Q (.str d.shown) H
theorem crepr {X : Cx} {k : Nat} {g : Prop} (hr : Room k X.A) (gd : Gd g X.A) (hg : g) : CallR X (.builtin "repr") (rRepr X.K) := by
  intro pins s σ H vs us Q I r h
  obtain ⟨x, d, rfl, hd, n, q⟩ := h
  obtain ⟨u, rfl, rx⟩ := Vals.one r
  obtain ⟨as, hr'⟩ := Dp.reads I d x u hd rx
  have l1 : d.shown.length ≤ sizeLine := n.fits
  cases hd with
  | non =>
    cases rx
    exact PySem.P.repr_of_none ⟨.str _, H, I.tok _, ⟨_, rfl⟩, q⟩
  | bl b =>
    cases rx
    exact PySem.P.repr_of_bool ⟨.str _, H, I.tok _, ⟨_, rfl⟩, q⟩
  | int i =>
    obtain ⟨t, rfl⟩ := rx
    have f := n.f
    simp only [fine, decide_eq_true_eq] at f
    exact PySem.P.repr_of_int (Nat.lt_trans (PySem.Flt.log2_lt_of (k := 1200) (by decide) f) (by decide)) ⟨.str _, H, I.tok _, ⟨_, rfl⟩, q⟩
  | str z =>
    obtain ⟨t, rfl⟩ := rx
    exact PySem.P.repr_of_str ⟨.str _, H, I.tok _, ⟨_, rfl⟩, q⟩ l1
  | lst hs ha =>
    cases rx
    exact repr_of_reads' hr' (fine_show _ n.f) (fun z => by rw [fine_dict _ n.f] at z; cases z) (gd hg) (by have := n.dp; have := hr.un; omega) (fun _ _ e => e)
      (fun h' u tk hk => ⟨.str _, H, I.kept (t' := tk) hk, ⟨_, rfl⟩, q⟩) n.fits
  | tup hs ha =>
    cases rx
    exact repr_of_reads' hr' (fine_show _ n.f) (fun z => by rw [fine_dict _ n.f] at z; cases z) (gd hg) (by have := n.dp; have := hr.un; omega) (fun _ _ e => e)
      (fun h' u tk hk => ⟨.str _, H, I.kept (t' := tk) hk, ⟨_, rfl⟩, q⟩) n.fits
theorem creprK {X : Cx} {k : Nat} {g : Prop} (K : PySem.W.Frag) (h : X.K = K) (hr : Room k X.A) (gd : Gd g X.A) (hg : g) : CallR X (.builtin "repr") (rRepr K) := h ▸ crepr hr gd hg
end Z

/-! Z, part six: lists of ints; rows of like things. -/
namespace Z
open PySem PySem.Spec PyProof.Rows L2

section
variable {K : PySem.W.Frag} {H : Hp} {Q : VK} {i j a : Int} {p q : Addr} {ns ms : List Int}
theorem i_addLI (h1 : H p = some (.lst (ns.map V.int))) (h2 : H q = some (.lst (ms.map V.int))) (z : ns.length + ms.length ≤ 1000000) (h : ∀ r H', New H r (.lst ((ns ++ ms).map V.int)) H' → Q (.ref r) H') : rAdd K (.ref p) (.ref q) H Q :=
  i_addL h1 h2 (by rw [List.length_map, List.length_map, sizeLine_eq]; omega) (by rw [← List.map_append]; exact h)
theorem i_addL1 (h1 : H p = some (.lst (ns.map V.int))) (h2 : H q = some (.lst [V.int a])) (z : ns.length + 1 ≤ 1000000) (h : ∀ r H', New H r (.lst ((ns ++ [a]).map V.int)) H' → Q (.ref r) H') : rAdd K (.ref p) (.ref q) H Q :=
  i_addLI (ms := [a]) h1 h2 z h
theorem i_mulLI (h1 : H p = some (.lst [V.int a])) (z : -1000000 ≤ j ∧ j ≤ 1000000) (h : ∀ r H', New H r (.lst ((List.replicate j.toNat a).map V.int)) H' → Q (.ref r) H') : rMul K (.ref p) (.int j) H Q := by
  refine i_mulL h1 (by omega) (by omega) (by rw [sizeLine_eq, List.length_singleton]; omega) ?_
  have e : (List.replicate j.toNat [V.int a]).flatten = (List.replicate j.toNat a).map V.int := by
    induction j.toNat with
    | zero => rfl
    | succ n ih => rw [List.replicate_succ, List.flatten_cons, ih, List.replicate_succ]; rfl
  rw [e]; exact h
end
theorem i_lenLI {K : PySem.W.Frag} {H : Hp} {Q : VK} {p : Addr} {ns : List Int} (h : H p = some (.lst (ns.map V.int))) (q : Q (.int (ns.length : Nat)) H) : rLenU K [V.ref p] H Q := i_lenL h (by rw [List.length_map]; exact q)
theorem i_lenQI {K : PySem.W.Frag} {H : Hp} {Q : VK} {p : Addr} {ns : List Int} (h : SqL K H p (ns.map V.int)) (q : Q (.int (ns.length : Nat)) H) : rLenU K [V.ref p] H Q := i_lenQ h (by rw [List.length_map]; exact q)
/-- item by item -/
def All2 {α β : Type} (R : α → β → Prop) (xs : List α) (ys : List β) : Prop := xs.length = ys.length ∧ ∀ (i : Nat) x y, xs[i]? = some x → ys[i]? = some y → R x y
section
variable {α β : Type} {R S : α → β → Prop} {xs xs' : List α} {ys ys' : List β} {x : α} {y : β} {i : Nat}
theorem All2.nil : All2 R [] [] := ⟨rfl, fun _ _ _ h => by simp at h⟩
theorem All2.len (h : All2 R xs ys) : xs.length = ys.length := h.1
theorem All2.mono (h : All2 R xs ys) (m : ∀ x y, R x y → S x y) : All2 S xs ys := ⟨h.1, fun i x y a b => m x y (h.2 i x y a b)⟩
theorem All2.app (h : All2 R xs ys) (h' : All2 R xs' ys') : All2 R (xs ++ xs') (ys ++ ys') := by
  refine ⟨by rw [List.length_append, List.length_append, h.1, h'.1], fun i x y a b => ?_⟩
  by_cases l : i < xs.length
  · rw [List.getElem?_append_left l] at a
    rw [List.getElem?_append_left (h.1 ▸ l)] at b
    exact h.2 i x y a b
  · rw [List.getElem?_append_right (by omega)] at a
    rw [List.getElem?_append_right (by have := h.1; omega), ← h.1] at b
    exact h'.2 _ x y a b
theorem All2.one (h : R x y) : All2 R [x] [y] := by
  refine ⟨rfl, fun i a b e e' => ?_⟩
  cases i with
  | zero => cases e; cases e'; exact h
  | succ n => simp at e
theorem All2.snoc (h : All2 R xs ys) (h' : R x y) : All2 R (xs ++ [x]) (ys ++ [y]) := h.app (.one h')
theorem All2.cons (h' : R x y) (h : All2 R xs ys) : All2 R (x :: xs) (y :: ys) := (All2.one h').app h
theorem All2.get (h : All2 R xs ys) (e : xs[i]? = some x) : ∃ y, ys[i]? = some y ∧ R x y := by
  have l := (List.getElem?_eq_some_iff.mp e).1
  have e' : ys[i]? = some (ys[i]'(h.1 ▸ l)) := by simp
  exact ⟨_, e', h.2 i _ _ e e'⟩
theorem All2.get' (h : All2 R xs ys) (e : ys[i]? = some y) : ∃ x, xs[i]? = some x ∧ R x y := by
  have l := (List.getElem?_eq_some_iff.mp e).1
  have e' : xs[i]? = some (xs[i]'(h.1 ▸ l)) := by simp
  exact ⟨_, e', h.2 i _ _ e' e⟩
theorem All2.uncons (h : All2 R (x :: xs) (y :: ys)) : R x y ∧ All2 R xs ys :=
  ⟨h.2 0 x y rfl rfl, by have := h.1; simp at this; exact this, fun i a b e e' => h.2 (i + 1) a b (by simpa using e) (by simpa using e')⟩
theorem All2.nil_of (h : All2 R xs ([] : List β)) : xs = [] := List.eq_nil_of_length_eq_zero h.1
theorem All2.cons_of (h : All2 R xs (y :: ys)) : ∃ x xs', xs = x :: xs' ∧ R x y ∧ All2 R xs' ys := by
  cases xs with
  | nil => cases h.1
  | cons x xs' => exact ⟨x, xs', rfl, h.uncons.1, h.uncons.2⟩
theorem All2.mem (h : All2 R xs ys) (e : x ∈ xs) : ∃ y, y ∈ ys ∧ R x y := by
  obtain ⟨i, hi⟩ := List.getElem?_of_mem e
  obtain ⟨y, hy, r⟩ := h.get hi
  exact ⟨y, List.mem_of_getElem? hy, r⟩
end
/-- objects of unlike kinds stand apart -/
theorem ne_tl {H : Hp} {a b : Addr} {xs ys : List V} (h : H a = some (.tup xs)) (h' : H b = some (.lst ys)) : a ≠ b := fun e => by subst e; rw [h] at h'; cases h'
theorem ne_lt {H : Hp} {a b : Addr} {xs ys : List V} (h : H a = some (.lst xs)) (h' : H b = some (.tup ys)) : a ≠ b := fun e => by subst e; rw [h] at h'; cases h'
theorem ne_il {H : Hp} {a b C dx : Addr} {fs : List (Str × V)} {ys : List V} (h : H a = some (.ins C dx fs)) (h' : H b = some (.lst ys)) : a ≠ b := fun e => by subst e; rw [h] at h'; cases h'
theorem ne_it {H : Hp} {a b C dx : Addr} {fs : List (Str × V)} {ys : List V} (h : H a = some (.ins C dx fs)) (h' : H b = some (.tup ys)) : a ≠ b := fun e => by subst e; rw [h] at h'; cases h'
/-- a tuple of a count and a number -/
def IsPair (H : Hp) (v : V) (t : Nat × Int) : Prop := ∃ r, v = .ref r ∧ H r = some (.tup [.int (t.1 : Nat), .int t.2])
section
variable {H H' : Hp} {v : V} {t : Nat × Int} {D : Addr} {o : HO} {xs : List V}
theorem IsPair.same (h : IsPair H v t) (s : Same H H') : IsPair H' v t := by
  obtain ⟨r, e, h⟩ := h
  exact ⟨r, e, s _ _ h⟩
theorem IsPair.up (h : IsPair H v t) (u : Up H D o H') (hD : H D = some (.lst xs)) : IsPair H' v t := by
  obtain ⟨r, e, h⟩ := h
  exact ⟨r, e, u.get (ne_tl h hD) h⟩
end
end Z
namespace Z
open PySem PySem.Spec PyProof.Rows L2
theorem IsPair.but {H H' : Hp} {v : V} {t : Nat × Int} {D : Addr} {xs : List V} (h : IsPair H v t) (b : But D H H') (hD : H D = some (.lst xs)) : IsPair H' v t := by
  obtain ⟨r, e, h⟩ := h
  exact ⟨r, e, b.get (ne_tl h hD) h⟩
/-- the list of f's values -/
def fl (f : Nat → Int) (n : Nat) : List V := ((List.range n).map f).map V.int
theorem fl_len (f : Nat → Int) (n : Nat) : (fl f n).length = n := by unfold fl; rw [List.length_map, List.length_map, List.length_range]
theorem fl_get (f : Nat → Int) {n i : Nat} (h : i < n) : (fl f n)[i]? = some (.int (f i)) := by
  unfold fl
  rw [List.getElem?_map, List.getElem?_map, List.getElem?_range h]; rfl
theorem fl_congr {f g : Nat → Int} {n : Nat} (h : ∀ i, i < n → f i = g i) : fl f n = fl g n := by
  unfold fl
  congr 1
  exact List.map_congr_left fun k hk => h k (List.mem_range.mp hk)
theorem fl_set (f : Nat → Int) (n i : Nat) (c : Int) : (fl f n).set i (.int c) = fl (fun p => if p = i then c else f p) n := by
  refine List.ext_getElem? fun j => ?_
  by_cases l : j < n
  · rw [fl_get _ l, List.getElem?_set]
    by_cases e : i = j
    · subst e
      rw [if_pos rfl, if_pos (by rw [fl_len]; exact l), if_pos rfl]
    · rw [if_neg e, fl_get _ l, if_neg (Ne.symm e)]
  · rw [List.getElem?_eq_none (by rw [List.length_set, fl_len]; omega), List.getElem?_eq_none (by rw [fl_len]; omega)]
theorem fl_zero (n : Nat) : (List.replicate n (0 : Int)).map V.int = fl (fun _ => 0) n := by
  unfold fl
  rw [List.map_const', List.length_range]
end Z
namespace Z
open PySem PySem.Spec PyProof.Rows L2
theorem ixN_nat {n k : Nat} (h : k < n) : ixN n (k : Int) = some k := by
  unfold ixN
  rw [if_pos (by omega)]
  rw [if_pos (by omega)]
  exact congrArg some (by omega)
end Z
namespace Z
open PySem PySem.Spec PyProof.Rows L2
section
variable {K : PySem.W.Frag} {H : Hp} {g : TG} {tb : TZ} {tt : TT} {te : TE} {vs : List Nat} {nx : L2.St → Hp → Prop} {rt : VK} {σ : L2.St} {Q : VK} {n : Nat}
theorem loop_range0 (Pv : Nat → L2.St → Hp → Prop) (h0 : Pv 0 σ H) (hs : ∀ i σ H, i < n → Pv i σ H → g (.int (i : Nat)) σ H fun σ2 H2 => tb (Pv (i + 1)) rt nx (Pv (i + 1)) σ2 H2) (hd : ∀ σ H, Pv n σ H → nx σ H) :
    zLoop (Itr 0 n) g tb nx rt σ H := loop_range Pv h0 (fun i σ H a b => by rw [Int.zero_add]; exact hs i σ H a b) hd
theorem comp_range0 (G : Nat → List V → Hp → Prop) (h0 : ∀ D H', New H D (.lst []) H' → G 0 [] H')
    (hs : ∀ D i acc H2, H D = none → i < n → H2 D = some (.lst acc) → G i acc H2 → g (.int (i : Nat)) (wipe σ vs) H2 fun σ2 H3 => wipe σ2 vs = wipe σ vs ∧ tt σ2 H3 fun b H4 =>
      if b = true then te σ2 H4 fun y H5 => zEnd D (G (i + 1)) y H5 else zSkip D (G (i + 1)) H4)
    (hd : ∀ D acc H2, H D = none → H2 D = some (.lst acc) → G n acc H2 → Q (.ref D) H2) : zComp (Itr 0 n) g tt te vs σ H Q :=
  comp_range G h0 (fun D i acc H2 a b c d => by rw [Int.zero_add]; exact hs D i acc H2 a b c d) hd
end
theorem fl_snoc (f : Nat → Int) (n : Nat) : fl f n ++ [.int (f n)] = fl f (n + 1) := by
  unfold fl
  rw [List.range_succ, List.map_append, List.map_append]; rfl
end Z
namespace Z
open PySem PySem.Spec PyProof.Rows L2
/-! ### isinstance of built-in kinds -/
theorem cisi {X : Cx} : CallR X (.builtin "isinstance") (rIsi X.K) := call_isi
theorem cisiK {X : Cx} (K : PySem.W.Frag) (h : X.K = K) : CallR X (.builtin "isinstance") (rIsi K) := h ▸ cisi
def rIsiG (K : PySem.W.Frag) : List V → Hp → VK → Prop := rIsi K
theorem i_isi0 {K : PySem.W.Frag} {H : Hp} {Q : VK} {xs : List V} (h : rIsiG K xs H Q) : rIsi K xs H Q := h
theorem i_isi {K : PySem.W.Frag} {H : Hp} {Q : VK} {x : V} {a n : String} {b : Bool} (ty : TyX K H x (.type a)) (e : kitB a n = some b) (q : Q (.bl b) H) : rIsi K [x, .ty n] H Q := ⟨x, .ty n, .type a, .type n, b, rfl, .ty n, ty, kit_ty e, q⟩
theorem kb_I_int : kitB "int" "int" = some true := by decide +kernel
theorem isi_I_int {K : PySem.W.Frag} {H : Hp} {Q : VK} {i : Int} (q : Q (.bl true) H) : rIsiG K [V.int i, .ty "int"] H Q := i_isi (TyX.base (TyOf.int i)) kb_I_int q
theorem kb_I_bool : kitB "int" "bool" = some false := by decide +kernel
theorem isi_I_bool {K : PySem.W.Frag} {H : Hp} {Q : VK} {i : Int} (q : Q (.bl false) H) : rIsiG K [V.int i, .ty "bool"] H Q := i_isi (TyX.base (TyOf.int i)) kb_I_bool q
theorem kb_I_str : kitB "int" "str" = some false := by decide +kernel
theorem isi_I_str {K : PySem.W.Frag} {H : Hp} {Q : VK} {i : Int} (q : Q (.bl false) H) : rIsiG K [V.int i, .ty "str"] H Q := i_isi (TyX.base (TyOf.int i)) kb_I_str q
theorem kb_I_list : kitB "int" "list" = some false := by decide +kernel
theorem isi_I_list {K : PySem.W.Frag} {H : Hp} {Q : VK} {i : Int} (q : Q (.bl false) H) : rIsiG K [V.int i, .ty "list"] H Q := i_isi (TyX.base (TyOf.int i)) kb_I_list q
theorem kb_I_tuple : kitB "int" "tuple" = some false := by decide +kernel
theorem isi_I_tuple {K : PySem.W.Frag} {H : Hp} {Q : VK} {i : Int} (q : Q (.bl false) H) : rIsiG K [V.int i, .ty "tuple"] H Q := i_isi (TyX.base (TyOf.int i)) kb_I_tuple q
theorem kb_I_dict : kitB "int" "dict" = some false := by decide +kernel
theorem isi_I_dict {K : PySem.W.Frag} {H : Hp} {Q : VK} {i : Int} (q : Q (.bl false) H) : rIsiG K [V.int i, .ty "dict"] H Q := i_isi (TyX.base (TyOf.int i)) kb_I_dict q
theorem kb_B_int : kitB "bool" "int" = some true := by decide +kernel
theorem isi_B_int {K : PySem.W.Frag} {H : Hp} {Q : VK} {k : Bool} (q : Q (.bl true) H) : rIsiG K [V.bl k, .ty "int"] H Q := i_isi (TyX.base (TyOf.bl k)) kb_B_int q
theorem kb_B_bool : kitB "bool" "bool" = some true := by decide +kernel
theorem isi_B_bool {K : PySem.W.Frag} {H : Hp} {Q : VK} {k : Bool} (q : Q (.bl true) H) : rIsiG K [V.bl k, .ty "bool"] H Q := i_isi (TyX.base (TyOf.bl k)) kb_B_bool q
theorem kb_B_str : kitB "bool" "str" = some false := by decide +kernel
theorem isi_B_str {K : PySem.W.Frag} {H : Hp} {Q : VK} {k : Bool} (q : Q (.bl false) H) : rIsiG K [V.bl k, .ty "str"] H Q := i_isi (TyX.base (TyOf.bl k)) kb_B_str q
theorem kb_B_list : kitB "bool" "list" = some false := by decide +kernel
theorem isi_B_list {K : PySem.W.Frag} {H : Hp} {Q : VK} {k : Bool} (q : Q (.bl false) H) : rIsiG K [V.bl k, .ty "list"] H Q := i_isi (TyX.base (TyOf.bl k)) kb_B_list q
theorem kb_B_tuple : kitB "bool" "tuple" = some false := by decide +kernel
theorem isi_B_tuple {K : PySem.W.Frag} {H : Hp} {Q : VK} {k : Bool} (q : Q (.bl false) H) : rIsiG K [V.bl k, .ty "tuple"] H Q := i_isi (TyX.base (TyOf.bl k)) kb_B_tuple q
theorem kb_B_dict : kitB "bool" "dict" = some false := by decide +kernel
theorem isi_B_dict {K : PySem.W.Frag} {H : Hp} {Q : VK} {k : Bool} (q : Q (.bl false) H) : rIsiG K [V.bl k, .ty "dict"] H Q := i_isi (TyX.base (TyOf.bl k)) kb_B_dict q
theorem kb_S_int : kitB "str" "int" = some false := by decide +kernel
theorem isi_S_int {K : PySem.W.Frag} {H : Hp} {Q : VK} {a : Str} (q : Q (.bl false) H) : rIsiG K [V.str a, .ty "int"] H Q := i_isi (TyX.base (TyOf.str a)) kb_S_int q
theorem kb_S_bool : kitB "str" "bool" = some false := by decide +kernel
theorem isi_S_bool {K : PySem.W.Frag} {H : Hp} {Q : VK} {a : Str} (q : Q (.bl false) H) : rIsiG K [V.str a, .ty "bool"] H Q := i_isi (TyX.base (TyOf.str a)) kb_S_bool q
theorem kb_S_str : kitB "str" "str" = some true := by decide +kernel
theorem isi_S_str {K : PySem.W.Frag} {H : Hp} {Q : VK} {a : Str} (q : Q (.bl true) H) : rIsiG K [V.str a, .ty "str"] H Q := i_isi (TyX.base (TyOf.str a)) kb_S_str q
theorem kb_S_list : kitB "str" "list" = some false := by decide +kernel
theorem isi_S_list {K : PySem.W.Frag} {H : Hp} {Q : VK} {a : Str} (q : Q (.bl false) H) : rIsiG K [V.str a, .ty "list"] H Q := i_isi (TyX.base (TyOf.str a)) kb_S_list q
theorem kb_S_tuple : kitB "str" "tuple" = some false := by decide +kernel
theorem isi_S_tuple {K : PySem.W.Frag} {H : Hp} {Q : VK} {a : Str} (q : Q (.bl false) H) : rIsiG K [V.str a, .ty "tuple"] H Q := i_isi (TyX.base (TyOf.str a)) kb_S_tuple q
theorem kb_S_dict : kitB "str" "dict" = some false := by decide +kernel
theorem isi_S_dict {K : PySem.W.Frag} {H : Hp} {Q : VK} {a : Str} (q : Q (.bl false) H) : rIsiG K [V.str a, .ty "dict"] H Q := i_isi (TyX.base (TyOf.str a)) kb_S_dict q
theorem kb_N_int : kitB "NoneType" "int" = some false := by decide +kernel
theorem isi_N_int {K : PySem.W.Frag} {H : Hp} {Q : VK} (q : Q (.bl false) H) : rIsiG K [V.non, .ty "int"] H Q := i_isi (TyX.base TyOf.non) kb_N_int q
theorem kb_N_bool : kitB "NoneType" "bool" = some false := by decide +kernel
theorem isi_N_bool {K : PySem.W.Frag} {H : Hp} {Q : VK} (q : Q (.bl false) H) : rIsiG K [V.non, .ty "bool"] H Q := i_isi (TyX.base TyOf.non) kb_N_bool q
theorem kb_N_str : kitB "NoneType" "str" = some false := by decide +kernel
theorem isi_N_str {K : PySem.W.Frag} {H : Hp} {Q : VK} (q : Q (.bl false) H) : rIsiG K [V.non, .ty "str"] H Q := i_isi (TyX.base TyOf.non) kb_N_str q
theorem kb_N_list : kitB "NoneType" "list" = some false := by decide +kernel
theorem isi_N_list {K : PySem.W.Frag} {H : Hp} {Q : VK} (q : Q (.bl false) H) : rIsiG K [V.non, .ty "list"] H Q := i_isi (TyX.base TyOf.non) kb_N_list q
theorem kb_N_tuple : kitB "NoneType" "tuple" = some false := by decide +kernel
theorem isi_N_tuple {K : PySem.W.Frag} {H : Hp} {Q : VK} (q : Q (.bl false) H) : rIsiG K [V.non, .ty "tuple"] H Q := i_isi (TyX.base TyOf.non) kb_N_tuple q
theorem kb_N_dict : kitB "NoneType" "dict" = some false := by decide +kernel
theorem isi_N_dict {K : PySem.W.Frag} {H : Hp} {Q : VK} (q : Q (.bl false) H) : rIsiG K [V.non, .ty "dict"] H Q := i_isi (TyX.base TyOf.non) kb_N_dict q
theorem kb_L_int : kitB "list" "int" = some false := by decide +kernel
theorem isi_L_int {K : PySem.W.Frag} {H : Hp} {Q : VK} {p : Addr} {xs : List V} (h : H p = some (.lst xs)) (q : Q (.bl false) H) : rIsiG K [V.ref p, .ty "int"] H Q := i_isi (TyX.base (TyOf.lst h)) kb_L_int q
theorem kb_L_bool : kitB "list" "bool" = some false := by decide +kernel
theorem isi_L_bool {K : PySem.W.Frag} {H : Hp} {Q : VK} {p : Addr} {xs : List V} (h : H p = some (.lst xs)) (q : Q (.bl false) H) : rIsiG K [V.ref p, .ty "bool"] H Q := i_isi (TyX.base (TyOf.lst h)) kb_L_bool q
theorem kb_L_str : kitB "list" "str" = some false := by decide +kernel
theorem isi_L_str {K : PySem.W.Frag} {H : Hp} {Q : VK} {p : Addr} {xs : List V} (h : H p = some (.lst xs)) (q : Q (.bl false) H) : rIsiG K [V.ref p, .ty "str"] H Q := i_isi (TyX.base (TyOf.lst h)) kb_L_str q
theorem kb_L_list : kitB "list" "list" = some true := by decide +kernel
theorem isi_L_list {K : PySem.W.Frag} {H : Hp} {Q : VK} {p : Addr} {xs : List V} (h : H p = some (.lst xs)) (q : Q (.bl true) H) : rIsiG K [V.ref p, .ty "list"] H Q := i_isi (TyX.base (TyOf.lst h)) kb_L_list q
theorem kb_L_tuple : kitB "list" "tuple" = some false := by decide +kernel
theorem isi_L_tuple {K : PySem.W.Frag} {H : Hp} {Q : VK} {p : Addr} {xs : List V} (h : H p = some (.lst xs)) (q : Q (.bl false) H) : rIsiG K [V.ref p, .ty "tuple"] H Q := i_isi (TyX.base (TyOf.lst h)) kb_L_tuple q
theorem kb_L_dict : kitB "list" "dict" = some false := by decide +kernel
theorem isi_L_dict {K : PySem.W.Frag} {H : Hp} {Q : VK} {p : Addr} {xs : List V} (h : H p = some (.lst xs)) (q : Q (.bl false) H) : rIsiG K [V.ref p, .ty "dict"] H Q := i_isi (TyX.base (TyOf.lst h)) kb_L_dict q
theorem kb_T_int : kitB "tuple" "int" = some false := by decide +kernel
theorem isi_T_int {K : PySem.W.Frag} {H : Hp} {Q : VK} {p : Addr} {xs : List V} (h : H p = some (.tup xs)) (q : Q (.bl false) H) : rIsiG K [V.ref p, .ty "int"] H Q := i_isi (TyX.base (TyOf.tup h)) kb_T_int q
theorem kb_T_bool : kitB "tuple" "bool" = some false := by decide +kernel
theorem isi_T_bool {K : PySem.W.Frag} {H : Hp} {Q : VK} {p : Addr} {xs : List V} (h : H p = some (.tup xs)) (q : Q (.bl false) H) : rIsiG K [V.ref p, .ty "bool"] H Q := i_isi (TyX.base (TyOf.tup h)) kb_T_bool q
theorem kb_T_str : kitB "tuple" "str" = some false := by decide +kernel
theorem isi_T_str {K : PySem.W.Frag} {H : Hp} {Q : VK} {p : Addr} {xs : List V} (h : H p = some (.tup xs)) (q : Q (.bl false) H) : rIsiG K [V.ref p, .ty "str"] H Q := i_isi (TyX.base (TyOf.tup h)) kb_T_str q
theorem kb_T_list : kitB "tuple" "list" = some false := by decide +kernel
theorem isi_T_list {K : PySem.W.Frag} {H : Hp} {Q : VK} {p : Addr} {xs : List V} (h : H p = some (.tup xs)) (q : Q (.bl false) H) : rIsiG K [V.ref p, .ty "list"] H Q := i_isi (TyX.base (TyOf.tup h)) kb_T_list q
theorem kb_T_tuple : kitB "tuple" "tuple" = some true := by decide +kernel
theorem isi_T_tuple {K : PySem.W.Frag} {H : Hp} {Q : VK} {p : Addr} {xs : List V} (h : H p = some (.tup xs)) (q : Q (.bl true) H) : rIsiG K [V.ref p, .ty "tuple"] H Q := i_isi (TyX.base (TyOf.tup h)) kb_T_tuple q
theorem kb_T_dict : kitB "tuple" "dict" = some false := by decide +kernel
theorem isi_T_dict {K : PySem.W.Frag} {H : Hp} {Q : VK} {p : Addr} {xs : List V} (h : H p = some (.tup xs)) (q : Q (.bl false) H) : rIsiG K [V.ref p, .ty "dict"] H Q := i_isi (TyX.base (TyOf.tup h)) kb_T_dict q
theorem kb_D_int : kitB "dict" "int" = some false := by decide +kernel
theorem isi_D_int {K : PySem.W.Frag} {H : Hp} {Q : VK} {p : Addr} {xs : List (Key × V)} (h : H p = some (.dK xs)) (q : Q (.bl false) H) : rIsiG K [V.ref p, .ty "int"] H Q := i_isi (TyX.base (TyOf.dK h)) kb_D_int q
theorem kb_D_bool : kitB "dict" "bool" = some false := by decide +kernel
theorem isi_D_bool {K : PySem.W.Frag} {H : Hp} {Q : VK} {p : Addr} {xs : List (Key × V)} (h : H p = some (.dK xs)) (q : Q (.bl false) H) : rIsiG K [V.ref p, .ty "bool"] H Q := i_isi (TyX.base (TyOf.dK h)) kb_D_bool q
theorem kb_D_str : kitB "dict" "str" = some false := by decide +kernel
theorem isi_D_str {K : PySem.W.Frag} {H : Hp} {Q : VK} {p : Addr} {xs : List (Key × V)} (h : H p = some (.dK xs)) (q : Q (.bl false) H) : rIsiG K [V.ref p, .ty "str"] H Q := i_isi (TyX.base (TyOf.dK h)) kb_D_str q
theorem kb_D_list : kitB "dict" "list" = some false := by decide +kernel
theorem isi_D_list {K : PySem.W.Frag} {H : Hp} {Q : VK} {p : Addr} {xs : List (Key × V)} (h : H p = some (.dK xs)) (q : Q (.bl false) H) : rIsiG K [V.ref p, .ty "list"] H Q := i_isi (TyX.base (TyOf.dK h)) kb_D_list q
theorem kb_D_tuple : kitB "dict" "tuple" = some false := by decide +kernel
theorem isi_D_tuple {K : PySem.W.Frag} {H : Hp} {Q : VK} {p : Addr} {xs : List (Key × V)} (h : H p = some (.dK xs)) (q : Q (.bl false) H) : rIsiG K [V.ref p, .ty "tuple"] H Q := i_isi (TyX.base (TyOf.dK h)) kb_D_tuple q
theorem kb_D_dict : kitB "dict" "dict" = some true := by decide +kernel
theorem isi_D_dict {K : PySem.W.Frag} {H : Hp} {Q : VK} {p : Addr} {xs : List (Key × V)} (h : H p = some (.dK xs)) (q : Q (.bl true) H) : rIsiG K [V.ref p, .ty "dict"] H Q := i_isi (TyX.base (TyOf.dK h)) kb_D_dict q
end Z
namespace Z
open PySem PySem.Spec PyProof.Rows L2
theorem i_repr {K : PySem.W.Frag} {H : Hp} {Q : VK} {x : V} {d : PyData} (h : Dp K H x d) (n : Neat d) (q : Q (.str d.shown) H) : rRepr K [x] H Q := ⟨x, d, rfl, h, n, q⟩
theorem lay_ints (ns : List Int) : PyData.canLay0 (.list (ns.map PyData.int)) = true := by
  have h := shaped_ints ns
  unfold SeqAt.shaped at h
  rw [Bool.and_eq_true] at h
  exact h.1
theorem shaped_two (ns ms : List Int) : SeqAt.shaped (.list [.list (ns.map PyData.int), .list (ms.map PyData.int)]) = true := by
  unfold SeqAt.shaped
  rw [Bool.and_eq_true, decide_eq_true_eq]
  refine ⟨?_, by simp only [PyData.depth, PyData.depthAll, depth_ints]; omega⟩
  simp only [PyData.canLay0, PyData.canLayAll0, Bool.and_eq_true, and_true]
  exact ⟨by simpa only [PyData.canLay0] using lay_ints ns, by simpa only [PyData.canLay0] using lay_ints ms⟩
theorem shaped_refl {d : PyData} (h : SeqAt.shaped d = true) : PyData.eqv d d = true := by
  unfold SeqAt.shaped at h
  rw [Bool.and_eq_true] at h
  exact SeqAt.eqv_refl d h.1
theorem i_neDS {K : PySem.W.Frag} {H : Hp} {Q : VK} {x y : V} {d : PyData} (h1 : Dp K H x d) (h2 : Dp K H y d) (s : SeqAt.shaped d = true) (k : Q (.bl false) H) : rNeU K x y H Q := i_neD h1 h2 s s (by rw [shaped_refl s]; exact k)
theorem i_eqDS {K : PySem.W.Frag} {H : Hp} {Q : VK} {x y : V} {d : PyData} (h1 : Dp K H x d) (h2 : Dp K H y d) (s : SeqAt.shaped d = true) (k : Q (.bl true) H) : rEqU K x y H Q := i_eqD h1 h2 s s (by rw [shaped_refl s]; exact k)
theorem dp_two {K : PySem.W.Frag} {H : Hp} {p q r : Addr} {ns ms : List Int} (h : H r = some (.lst [.ref p, .ref q])) (h1 : H p = some (.lst (ns.map V.int))) (h2 : H q = some (.lst (ms.map V.int))) :
    Dp K H (.ref r) (.list [.list (ns.map PyData.int), .list (ms.map PyData.int)]) := dp_lst h (.cons (dp_lints h1) (.cons (dp_lints h2) .nil))
theorem neat_two {ns ms : List Int} (h1 : ∀ n ∈ ns, n.natAbs < big) (h2 : ∀ n ∈ ms, n.natAbs < big) (l1 : ns.length ≤ 10000) (l2 : ms.length ≤ 10000) : Neat (.list [.list (ns.map PyData.int), .list (ms.map PyData.int)]) :=
  ⟨by simp only [fine, fines, Bool.and_eq_true, and_true]; exact ⟨fines_ints h1, fines_ints h2⟩, by simp only [PyData.depth, PyData.depthAll, depth_ints]; omega,
    by simp only [PyData.bulk, PyData.bulkAll, bulk_ints]; omega⟩
end Z
namespace Z
open PySem PySem.Spec PyProof.Rows L2
theorem i_rng1L {H : Hp} {R : It → Hp → Prop} {j : Int} (n : Nat) (e : j = (n : Int)) (h : n ≤ 1000000) (q : R (Itr 0 n) H) : zR1 [V.int j] H R := by
  subst e
  exact i_rng1N h q
end Z
namespace Z
theorem ifT {b : Bool} {A B : Prop} (e : b = true) (a : A) : if b = true then A else B := by rw [if_pos e]; exact a
theorem ifF {b : Bool} {A B : Prop} (e : b = false) (a : B) : if b = true then A else B := by rw [if_neg (by rw [e]; decide)]; exact a
end Z
namespace Z
open PySem PySem.Spec PyProof.Rows L2
theorem dp_tints {K : PySem.W.Frag} {H : Hp} {p : Addr} {ns : List Int} (h : H p = some (.tup (ns.map V.int))) : Dp K H (.ref p) (.tuple (ns.map PyData.int)) := .tup (SqT.of h) (dp_ints ns)
theorem shaped_tints (ns : List Int) : SeqAt.shaped (.tuple (ns.map PyData.int)) = true := by
  have h := shaped_ints ns
  unfold SeqAt.shaped at h ⊢
  rw [Bool.and_eq_true, decide_eq_true_eq] at h ⊢
  exact ⟨by simpa only [PyData.canLay0] using h.1, by simpa only [PyData.depth] using h.2⟩
theorem eqv_tints (ns ms : List Int) : PyData.eqv (.tuple (ns.map PyData.int)) (.tuple (ms.map PyData.int)) = decide (ns = ms) := by
  have h := eqv_ints ns ms
  simp only [PyData.eqv] at h ⊢
  exact h
section
variable {K : PySem.W.Frag} {H : Hp} {Q : VK} {p q : Addr} {ns ms : List Int}
theorem i_neTI (h1 : H p = some (.tup (ns.map V.int))) (h2 : H q = some (.tup (ms.map V.int))) (k : Q (.bl (!decide (ns = ms))) H) : rNeU K (.ref p) (.ref q) H Q :=
  i_neD (dp_tints h1) (dp_tints h2) (shaped_tints ns) (shaped_tints ms) (by rw [eqv_tints]; exact k)
theorem i_eqTI (h1 : H p = some (.tup (ns.map V.int))) (h2 : H q = some (.tup (ms.map V.int))) (k : Q (.bl (decide (ns = ms))) H) : rEqU K (.ref p) (.ref q) H Q :=
  i_eqD (dp_tints h1) (dp_tints h2) (shaped_tints ns) (shaped_tints ms) (by rw [eqv_tints]; exact k)
/-- [row] against [row] -/
theorem dp_one {r : Addr} (h : H r = some (.lst [.ref p])) (h1 : H p = some (.lst (ns.map V.int))) : Dp K H (.ref r) (.list [.list (ns.map PyData.int)]) := dp_lst h (.cons (dp_lints h1) .nil)
end
theorem shaped_one (ns : List Int) : SeqAt.shaped (.list [.list (ns.map PyData.int)]) = true := by
  unfold SeqAt.shaped
  rw [Bool.and_eq_true, decide_eq_true_eq]
  refine ⟨?_, by simp only [PyData.depth, PyData.depthAll, depth_ints]; omega⟩
  simp only [PyData.canLay0, PyData.canLayAll0, Bool.and_eq_true, and_true]
  simpa only [PyData.canLay0] using lay_ints ns
end Z
namespace Z
open PySem PySem.Spec PyProof.Rows L2
theorem i_lenTI {K : PySem.W.Frag} {H : Hp} {Q : VK} {p : Addr} {ns : List Int} (h : H p = some (.tup (ns.map V.int))) (q : Q (.int (ns.length : Nat)) H) : rLenU K [V.ref p] H Q := i_lenT h (by rw [List.length_map]; exact q)
end Z

/-! Z: classes and their instances. -/
namespace Z
open PySem PySem.Spec PyProof.Rows L2

/-! ### a method by the receiver's class -/
structure MA where
  C : Addr
  n : Nat
  gV : PySem.W.Frag → List V → List V → List V
  sp : Sp
/-- the class at M.C has for the name m a def with this promise -/
abbrev MtM (g : Prop) (X : Cx) (m : Str) (ks : List Str) (M : MA) : Prop := Mt g X M.C m M.n ks M.gV M.sp
section
variable {g : Prop} {X : Cx} {m : Str} {ks : List Str}
theorem ms_nil : ∀ M ∈ ([] : List MA), MtM g X m ks M := fun _ h => by cases h
theorem ms_cons {C : Addr} {n : Nat} {gV : PySem.W.Frag → List V → List V → List V} {sp : Sp} {Ms : List MA} (h : Mt g X C m n ks gV sp) (r : ∀ M ∈ Ms, MtM g X m ks M) : ∀ M ∈ (⟨C, n, gV, sp⟩ : MA) :: Ms, MtM g X m ks M := fun M hM => by
  rcases List.mem_cons.mp hM with rfl | hM
  · exact h
  · exact r M hM
theorem mt_of {C f : Addr} {k n : Nat} {d : He.DefD} {ps : List Str} {gV : PySem.W.Frag → List V → List V → List V} {sp : Sp} (c : Cls X.K C) (me : Meth X.K C m f) (F : Pr g X.prog X.w X.K X.mg X.base k f d ps sp) (b : Bd d ps n ks gV) (hr : Room k X.A) (hgd : Gd g X.A) :
    Mt g X C m n ks gV sp := ⟨c, k, f, d, ps, me, F, b, hr, hgd⟩
end
/-- the reading, behind the receiver -/
def zM1 (K : PySem.W.Frag) (m : Str) (kn : Nat) (E : XK) (Ms : List MA) (t tk : TA) (x : V) (σ : L2.St) (H1 : Hp) (Q : VK) : Prop :=
  ∃ (M : MA) (a dx : Addr) (fs : List (Str × V)), M ∈ Ms ∧ x = .ref a ∧ H1 a = some (.ins M.C dx fs) ∧ fs.lookup m = none ∧ t σ H1 fun vs H2 => tk σ H2 fun zs H3 => (V.ref a :: vs).length = M.n ∧ zs.length = kn ∧ M.sp (M.gV K (.ref a :: vs) zs) H3 Q E
def zM (K : PySem.W.Frag) (m : Str) (kn : Nat) (E : XK) (Ms : List MA) (ta : TE) (t tk : TA) : TE := fun σ H Q => ta σ H fun x H1 => zM1 K m kn E Ms t tk x σ H1 Q
section
variable {g : Prop} {X : Cx} {m : Str} {ks : List Str} {Ms : List MA} {E : XK} {o e : Expr} {es : List Expr} {kws : List Keyword} {ta : TE} {t tk : TA} {apos pos : Pos}
theorem pe_M {pl : Sem Bool} (hM : ∀ M ∈ Ms, MtM g X m [] M) (hx : Passes (L2.CX X.prog X.w) X E) (he : PE X o ta) (ha : PA X (e :: es) t)
    (hst : starEach (e :: es) X.env = (false, eval e X.env) :: starEach es X.env := by rfl) (hpl : (backTo pos (starEach es X.env)).any (·.1) = false := by rfl)
    (ht : eval (.Call (.Attribute o m apos) (e :: es) [] pos) X.env = (do
      let ov ← eval o X.env; standAt apos.atName
      let (f, first) ← holding [ov] (getMethod ov m pl); callWith pos f first (backTo pos (starEach (e :: es) X.env)) (backToKw pos (keywordEach [] X.env))) := by rfl) :
    PE X (.Call (.Attribute o m apos) (e :: es) [] pos) (zM X.K m 0 E Ms ta t tNil) := by
  refine ⟨fun pins s σ H Q I h => ?_⟩
  refine PySem.W.methodCall_KW (pl := pl) (thn (he.run pins s σ H _ I h) fun u s1 ⟨x, H1, I1, rx, M, a, dx, fs, hm0, ex, ea, l, q⟩ => ?_) ht
  subst ex
  obtain rfl : u = Value.ref a := rx
  have M1 := hM M hm0
  obtain ⟨k, f, d, ps, hm, F, hb, hr, hgd⟩ := M1.ex
  obtain ⟨fd, FD, OK⟩ := F.ex
  obtain ⟨gg, B⟩ := hb _ _ _ FD
  refine getmeth_ok I1 ea M1.cl hm l ?_
  refine PySem.W.callWith_K (first := [.ref a]) (h₀ := X.base) I.ok.mod.kin hm.kp ?_ hst hpl
  refine thn (ha.run pos pins s1 σ H1 _ I1 q) fun us s2 ⟨vs, H2, I2, r, l1, l2, q2⟩ => ⟨I2.kIn, ?_⟩
  exact run_g (us := .ref a :: us) (vs := .ref a :: vs) (ws := []) (zs := []) (ks := []) OK hr hgd B hx I2 (.cons rfl r) .nil l1 l2 q2
theorem pe_M0 {pl : Sem Bool} (hM : ∀ M ∈ Ms, MtM g X m [] M) (hx : Passes (L2.CX X.prog X.w) X E) (he : PE X o ta)
    (ht : eval (.Call (.Attribute o m apos) [] [] pos) X.env = (do
      let ov ← eval o X.env; standAt apos.atName
      let (f, first) ← holding [ov] (getMethod ov m pl); callWith pos f first (backTo pos (starEach [] X.env)) (backToKw pos (keywordEach [] X.env))) := by rfl) :
    PE X (.Call (.Attribute o m apos) [] [] pos) (zM X.K m 0 E Ms ta tNil tNil) := by
  refine ⟨fun pins s σ H Q I h => ?_⟩
  refine PySem.W.methodCall_KW (pl := pl) (thn (he.run pins s σ H _ I h) fun u s1 ⟨x, H1, I1, rx, M, a, dx, fs, hm0, ex, ea, l, l1, l2, q⟩ => ?_) ht
  subst ex
  obtain rfl : u = Value.ref a := rx
  have M1 := hM M hm0
  obtain ⟨k, f, d, ps, hm, F, hb, hr, hgd⟩ := M1.ex
  obtain ⟨fd, FD, OK⟩ := F.ex
  obtain ⟨gg, B⟩ := hb _ _ _ FD
  refine getmeth_ok I1 ea M1.cl hm l ?_
  exact PySem.W.callWith_K0 (first := [.ref a]) I1.kIn hm.kp (run_g (us := [.ref a]) (vs := [.ref a]) (ws := []) (zs := []) (ks := []) OK hr hgd B hx I1 (.cons rfl .nil) .nil l1 l2 q)
theorem pe_Mk {pl : Sem Bool} (hM : ∀ M ∈ Ms, MtM g X m ks M) (hx : Passes (L2.CX X.prog X.w) X E) (he : PE X o ta) (ha : PA X (e :: es) t) (hkw : PK X kws tk)
    (hall : (backToKw pos (keywordEach kws X.env)).all (·.1.isSome) = true := by rfl) (hks : (backToKw pos (keywordEach kws X.env)).filterMap (·.1) = ks := by rfl)
    (hst : starEach (e :: es) X.env = (false, eval e X.env) :: starEach es X.env := by rfl)
    (hpl : ((backTo pos (starEach (e :: es) X.env)).any (·.1) || (backToKw pos (keywordEach kws X.env)).any (·.1.isNone)) = false := by rfl)
    (ht : eval (.Call (.Attribute o m apos) (e :: es) kws pos) X.env = (do
      let ov ← eval o X.env; standAt apos.atName
      let (f, first) ← holding [ov] (getMethod ov m pl); callWith pos f first (backTo pos (starEach (e :: es) X.env)) (backToKw pos (keywordEach kws X.env))) := by rfl) :
    PE X (.Call (.Attribute o m apos) (e :: es) kws pos) (zM X.K m ks.length E Ms ta t tk) := by
  refine ⟨fun pins s σ H Q I h => ?_⟩
  refine PySem.W.methodCall_KW (pl := pl) (thn (he.run pins s σ H _ I h) fun u s1 ⟨x, H1, I1, rx, M, a, dx, fs, hm0, ex, ea, l, q⟩ => ?_) ht
  subst ex
  obtain rfl : u = Value.ref a := rx
  have M1 := hM M hm0
  obtain ⟨k, f, d, ps, hm, F, hb, hr, hgd⟩ := M1.ex
  obtain ⟨fd, FD, OK⟩ := F.ex
  obtain ⟨gg, B⟩ := hb _ _ _ FD
  refine getmeth_ok I1 ea M1.cl hm l ?_
  refine PySem.W.callWith_KW (first := [.ref a]) (h₀ := X.base) I.ok.mod.kin hm.kp hall ?_ hpl hst
  refine thn (ha.run pos pins s1 σ H1 _ I1 q) fun us s2 ⟨vs, H2, I2, r, q2⟩ => ?_
  refine thn (hkw.run pos pins s2 σ H2 _ I2 q2) fun ws s3 ⟨zs, H3, I3, rz, l1, l2, q3⟩ => ⟨I3.kIn, ?_⟩
  rw [hks]
  exact run_g (us := .ref a :: us) (vs := .ref a :: vs) OK hr hgd B hx I3 (.cons rfl r) rz l1 l2 q3
theorem pe_Mk0 {pl : Sem Bool} (hM : ∀ M ∈ Ms, MtM g X m ks M) (hx : Passes (L2.CX X.prog X.w) X E) (he : PE X o ta) (hkw : PK X kws tk)
    (hall : (backToKw pos (keywordEach kws X.env)).all (·.1.isSome) = true := by rfl) (hks : (backToKw pos (keywordEach kws X.env)).filterMap (·.1) = ks := by rfl)
    (hpl : ((backTo pos (starEach [] X.env)).any (·.1) || (backToKw pos (keywordEach kws X.env)).any (·.1.isNone)) = false := by rfl)
    (ht : eval (.Call (.Attribute o m apos) [] kws pos) X.env = (do
      let ov ← eval o X.env; standAt apos.atName
      let (f, first) ← holding [ov] (getMethod ov m pl); callWith pos f first (backTo pos (starEach [] X.env)) (backToKw pos (keywordEach kws X.env))) := by rfl) :
    PE X (.Call (.Attribute o m apos) [] kws pos) (zM X.K m ks.length E Ms ta tNil tk) := by
  refine ⟨fun pins s σ H Q I h => ?_⟩
  refine PySem.W.methodCall_KW (pl := pl) (thn (he.run pins s σ H _ I h) fun u s1 ⟨x, H1, I1, rx, M, a, dx, fs, hm0, ex, ea, l, q⟩ => ?_) ht
  subst ex
  obtain rfl : u = Value.ref a := rx
  have M1 := hM M hm0
  obtain ⟨k, f, d, ps, hm, F, hb, hr, hgd⟩ := M1.ex
  obtain ⟨fd, FD, OK⟩ := F.ex
  obtain ⟨gg, B⟩ := hb _ _ _ FD
  refine getmeth_ok I1 ea M1.cl hm l ?_
  refine PySem.W.callWith_KW0 (first := [.ref a]) (h₀ := X.base) I.ok.mod.kin hm.kp hall ?_ hpl
  refine thn (hkw.run pos pins s1 σ H1 _ I1 q) fun ws s3 ⟨zs, H3, I3, rz, l1, l2, q3⟩ => ⟨I3.kIn, ?_⟩
  rw [hks]
  exact run_g (us := [.ref a]) (vs := [.ref a]) OK hr hgd B hx I3 (.cons rfl .nil) rz l1 l2 q3
end
section
variable {K : PySem.W.Frag} {m : Str} {kn : Nat} {E : XK} {Ms : List MA} {ta : TE} {t tk : TA} {σ : L2.St} {H : Hp} {Q : VK} {a dx : Addr} {fs : List (Str × V)}
theorem i_M (h : ta σ H fun x H1 => zM1 K m kn E Ms t tk x σ H1 Q) : zM K m kn E Ms ta t tk σ H Q := h
/-- the receiver's class is the i-th -/
theorem i_Mi (i : Nat) {M : MA} (h : H a = some (.ins M.C dx fs)) (l : fs.lookup m = none) (hi : Ms[i]? = some M)
    (q : t σ H fun vs H2 => tk σ H2 fun zs H3 => (V.ref a :: vs).length = M.n ∧ zs.length = kn ∧ M.sp (M.gV K (.ref a :: vs) zs) H3 Q E) : zM1 K m kn E Ms t tk (.ref a) σ H Q :=
  ⟨M, a, dx, fs, List.mem_of_getElem? hi, rfl, h, l, q⟩
end
/-! ### facts of classes -/
/-- x's m is the def that y's m is -/
def fxM (x m y : Str) : Fx := fun K => He.eqO (PySem.W.findIn K (.ref (He.ga K x)) m) (some (some (.ref (He.ma K (He.ga K y) m)))) && (PySem.W.isFn K (.ref (He.ma K (He.ga K y) m)) && PySem.W.keepIn K (.ref (He.ma K (He.ga K y) m)))
theorem fxM_ok {K : PySem.W.Frag} {x m y : Str} (h : fxM x m y K = true) : Meth K (He.ga K x) m (He.ma K (He.ga K y) m) := by
  obtain ⟨c1, c⟩ := He.ba h
  obtain ⟨c2, c3⟩ := He.ba c
  exact ⟨He.eqO_ok c1, c2, c3⟩
/-- x's m, read off the class, is its def -/
def fxC (x m : Str) : Fx := fun K => PySem.W.readsIn K (He.ga K x) (.type "type") && (He.eqO (PySem.W.specialIn K (.ref (He.ga K x)) "__getattribute__") (some (some (.builtin "type.__getattribute__"))) &&
  ((match PySem.W.findCls K (.ref (He.ga K x)) (.type "type") m with
    | some (.val (.ref f)) => decide (f = He.ma K (He.ga K x) m)
    | _ => false) && PySem.W.keepIn K (.ref (He.ma K (He.ga K x) m))))
structure CFn (K : PySem.W.Frag) (C : Addr) (m : Str) (f : Addr) : Prop where
  rd : ClX.CRead K C (.type "type")
  at_ : PySem.W.findCls K (.ref C) (.type "type") m = some (.val (.ref f))
  kp : PySem.W.keepIn K (.ref f) = true
theorem fxC_ok {K : PySem.W.Frag} {x m : Str} (h : fxC x m K = true) : CFn K (He.ga K x) m (He.ma K (He.ga K x) m) := by
  obtain ⟨c1, c⟩ := He.ba h
  obtain ⟨c2, c⟩ := He.ba c
  obtain ⟨c3, c4⟩ := He.ba c
  refine ⟨⟨c1, He.eqO_ok c2⟩, ?_, c4⟩
  split at c3
  · rename_i f e
    rw [e, of_decide_eq_true c3]
  · cases c3
section
variable {g : Prop} {X : Cx} {k n : Nat} {f C : Addr} {d : He.DefD} {ps : List Str} {gV : PySem.W.Frag → List V → List V → List V} {sp : Sp} {E : XK} {x m : Str} {p apos pos : Pos} {e : Expr} {es : List Expr} {t : TA}
/-- C.m(e, ..) -/
theorem pe_cm {pl : Sem Bool} (F : Pr g X.prog X.w X.K X.mg X.base k f d ps sp) (hr : Room k X.A) (hgd : Gd g X.A) (hg : Gl X x) (hm : X.mg x = some (.ref C)) (c : CFn X.K C m f) (hb : Bd d ps n [] gV) (hx : Passes (L2.CX X.prog X.w) X E)
    (ha : PA X (e :: es) t) (hdb : (x == ("__debug__" : Str)) = false := by decide)
    (hst : starEach (e :: es) X.env = (false, eval e X.env) :: starEach es X.env := by rfl) (hpl : (backTo pos (starEach es X.env)).any (·.1) = false := by rfl)
    (ht : eval (.Call (.Attribute (.Name x p) m apos) (e :: es) [] pos) X.env = (do
      let ov ← eval (.Name x p) X.env; standAt apos.atName
      let (f, first) ← holding [ov] (getMethod ov m pl); callWith pos f first (backTo pos (starEach (e :: es) X.env)) (backToKw pos (keywordEach [] X.env))) := by rfl) :
    PE X (.Call (.Attribute (.Name x p) m apos) (e :: es) [] pos) (zCall X.K n 0 gV sp E t tNil) := by
  obtain ⟨fd, FD, OK⟩ := F.ex
  obtain ⟨gg, B⟩ := hb _ _ _ FD
  refine ⟨fun pins s σ H Q I h => ?_⟩
  refine PySem.W.methodCall_KW (pl := pl) (thn ((pe_glob (v := .ref C) hg hm rfl hdb).run pins s σ H (fun v H1 => v = .ref C ∧ H1 = H) I ⟨rfl, rfl⟩) fun u s1 ⟨v, H1, I1, rx, ev, eh⟩ => ?_) ht
  subst ev eh
  obtain rfl : u = Value.ref C := rx
  refine PySem.W.method_cls I1.kIn c.rd.ga ?_
  refine PySem.W.cls_value I1.kIn c.rd.rd c.at_ (handed_of (v := .ref f) rfl) ?_
  have I2 : Inv X pins σ H1 { s1 with toks := s1.toks + 1 } := I1.tok _
  refine PySem.W.callWith_K (first := []) (h₀ := X.base) I.ok.mod.kin c.kp ?_ hst hpl
  refine thn (ha.run pos pins _ σ H1 _ I2 h) fun us s2 ⟨vs, H2, I3, r, l1, l2, q2⟩ => ⟨I3.kIn, ?_⟩
  exact run_g (ws := []) (zs := []) (ks := []) OK hr hgd B hx I3 r .nil l1 l2 q2
end
/-! ### new instances -/
structure Made (H : Hp) (x dx C : Addr) (H' : Hp) : Prop where
  fr : H x = none
  fd : H dx = none
  ne : dx ≠ x
  eq : H' = upd (upd H dx (.own x)) x (.ins C dx [])
section
variable {H H' : Hp} {x dx C a : Addr} {u : HO}
theorem Made.at (n : Made H x dx C H') : H' x = some (.ins C dx []) := by rw [n.eq]; exact upd_same
theorem Made.get (n : Made H x dx C H') (h : H a = some u) : H' a = some u := by rw [n.eq, upd_ne (ne_of_none h n.fr), upd_ne (ne_of_none h n.fd)]; exact h
theorem Made.same (n : Made H x dx C H') : Same H H' := fun _ _ h => n.get h
end
section
variable {K : PySem.W.Frag} {C : Addr} {n m : Nat} {gV : PySem.W.Frag → List V → List V → List V} {sp : Sp} {E : XK} {t tk : TA} {σ : L2.St} {H : Hp} {Q : VK}
def zMk1 (K : PySem.W.Frag) (C : Addr) (n m : Nat) (gV : PySem.W.Frag → List V → List V → List V) (sp : Sp) (E : XK) (vs zs : List V) (H2 : Hp) (Q : VK) : Prop :=
  vs.length + 1 = n ∧ zs.length = m ∧ ∀ x dx H3, Made H2 x dx C H3 → sp (gV K (.ref x :: vs) zs) H3 (fun v H4 => v = .non ∧ Q (.ref x) H4) E
theorem i_make (h : t σ H fun vs H1 => tk σ H1 fun zs H2 => zMk1 K C n m gV sp E vs zs H2 Q) : zMake K C n m gV sp E t tk σ H Q := by
  show t σ H _
  refine cast (congrArg (t σ H) (funext fun vs => funext fun H1 => congrArg (tk σ H1) (funext fun zs => funext fun H2 => propext ⟨?_, ?_⟩))) h
  · rintro ⟨a, b, c⟩
    exact ⟨a, b, fun x dx f1 f2 ne => c x dx _ ⟨f1, f2, ne, rfl⟩⟩
  · rintro ⟨a, b, c⟩
    exact ⟨a, b, fun x dx H3 z => z.eq ▸ c x dx z.fr z.fd z.ne⟩
theorem i_mk1 {vs zs : List V} (e1 : vs.length + 1 = n) (e2 : zs.length = m) (h : ∀ x dx H3, Made H x dx C H3 → sp (gV K (.ref x :: vs) zs) H3 (fun v H4 => v = .non ∧ Q (.ref x) H4) E) : zMk1 K C n m gV sp E vs zs H Q := ⟨e1, e2, h⟩
end
/-! ### fields -/
section
variable {K : PySem.W.Frag} {ta tv : TE} {f : Str} {nx bk ct : L2.St → Hp → Prop} {rt : VK} {σ : L2.St} {H : Hp} {Q : VK} {a C dx : Addr} {fs : List (Str × V)} {x y v : V}
def zFld1 (K : PySem.W.Frag) (f : Str) (x y : V) (nx : L2.St → Hp → Prop) (σ : L2.St) (H2 : Hp) : Prop := ∃ a C dx fs, x = .ref a ∧ H2 a = some (.ins C dx fs) ∧ Cls K C ∧ NoAttr K C f ∧ fs.length < 1000 ∧ nx σ (upd H2 a (.ins C dx (putF f y fs)))
theorem i_fldS (h : tv σ H fun y H1 => ta σ H1 fun x H2 => zFld1 K f x y nx σ H2) : zFld K ta tv f nx rt bk ct σ H := h
theorem i_fldS1 (h : H a = some (.ins C dx fs)) (c : Cls K C) (n : NoAttr K C f) (l : fs.length.blt 1000 = true) (k : ∀ H', Up H a (.ins C dx (putF f y fs)) H' → nx σ H') : zFld1 K f (.ref a) y nx σ H := ⟨a, C, dx, fs, rfl, h, c, n, by simpa [Nat.blt_eq] using l, k _ ⟨⟨_, h⟩, rfl⟩⟩
def tFld1 (K : PySem.W.Frag) (f : Str) (x : V) (H1 : Hp) (Q : VK) : Prop := ∃ a C dx fs v, x = .ref a ∧ H1 a = some (.ins C dx fs) ∧ Cls K C ∧ NoAttr K C f ∧ fs.lookup f = some v ∧ Q v H1
theorem i_fld (h : ta σ H fun x H1 => tFld1 K f x H1 Q) : tFld K ta f σ H Q := h
theorem i_fld1 (h : H a = some (.ins C dx fs)) (c : Cls K C) (n : NoAttr K C f) (l : fs.lookup f = some v) (q : Q v H) : tFld1 K f (.ref a) H Q := ⟨a, C, dx, fs, v, rfl, h, c, n, l, q⟩
end
/-! ### binding with defaults and keywords -/
/-- those at the places idx -/
def gP {α : Type} (idx : List Nat) (l : List α) : List α := idx.filterMap fun i => l[i]?
theorem vals_at {xs : List V} {us : List Value} (r : Vals xs us) (i : Nat) : (xs[i]? = none ∧ us[i]? = none) ∨ ∃ x u, xs[i]? = some x ∧ us[i]? = some u ∧ RelV x u := by
  cases e : xs[i]? with
  | none =>
    refine .inl ⟨rfl, ?_⟩
    rw [List.getElem?_eq_none_iff] at e ⊢
    rw [← r.length]
    exact e
  | some x =>
    obtain ⟨u, eu, ru⟩ := r.get e
    exact .inr ⟨x, u, rfl, eu, ru⟩
theorem gP_rel {xs : List V} {us : List Value} (r : Vals xs us) : ∀ idx : List Nat, Vals (gP idx xs) (gP idx us)
  | [] => .nil
  | i :: idx => by
    unfold gP
    rw [List.filterMap_cons, List.filterMap_cons]
    rcases vals_at r i with ⟨e1, e2⟩ | ⟨x, u, e1, e2, ru⟩
    · rw [e1, e2]; exact gP_rel r idx
    · rw [e1, e2]; exact .cons ru (gP_rel r idx)
section
variable {d : He.DefD} {ps : List Str} {n : Nat} {ks : List Str}
/-- no defaults at all, but keywords -/
theorem Bd.a (idx : List Nat) (hd : d.dfl = []) (h : ∀ (kV doc pm : Value) (an : Option Addr) (cdv ct : Value) (us ws : List Value), us.length = n → ws.length = ks.length →
      bindArgs (PySem.W.fnOf d.name d.qual d.params d.body d.scope .none kV doc pm an cdv ct) ⟨us, ks.zip ws⟩ = pure (ps.zip (gP idx (us ++ ws)))) : Bd d ps n ks (fun _ vs zs => gP idx (vs ++ zs)) := by
  intro K f fd F
  have e1 : d.dvs K = [] := by unfold He.DefD.dvs; rw [hd]; rfl
  rw [e1] at F
  obtain ⟨oc, od, dV, kV, doc, pm, an, cdv, ct, osl, rfl, lk, hcd, hD, hK⟩ := F.ex
  rcases hD with ⟨_, rfl⟩ | ⟨e, _⟩
  · exact ⟨_, ⟨fun s us ws X l1 l2 => BindsTo.of_looks fun M => PySem.W.Looks.of_pure (h kV doc pm an cdv ct us ws l1 l2), fun r1 r2 => gP_rel (r1.append r2) idx⟩⟩
  · exact absurd rfl e
/-- keyword-only defaults; ms: those that lack -/
theorem Bd.b (ms : List (Str × He.Dv)) (idx : List Nat) (hd : d.dfl = []) (hk : d.kwd ≠ []) (hms : ∀ q ∈ ms, q ∈ d.kwd)
    (h : ∀ (D : Addr) (doc pm : Value) (an : Option Addr) (cdv ct : Value) (us mv ws : List Value), us.length = n → mv.length = ms.length → ws.length = ks.length →
      KwChain D ((ms.map (·.1)).zip mv) (bindArgs (PySem.W.fnOf d.name d.qual d.params d.body d.scope .none (.ref D) doc pm an cdv ct) ⟨us, ks.zip ws⟩) (ps.zip (gP idx (us ++ (mv ++ ws))))) :
    Bd d ps n ks (fun K vs zs => gP idx (vs ++ (ms.map (fun q => q.2.v K) ++ zs))) := by
  intro K f fd F
  have e1 : d.dvs K = [] := by unfold He.DefD.dvs; rw [hd]; rfl
  rw [e1] at F
  have e2 : ((ms.map fun q => (q.1, q.2.v K)).map (·.1)) = ms.map (·.1) := by rw [List.map_map]; rfl
  have e3 : ((ms.map fun q => (q.1, q.2.v K)).map (·.2)) = ms.map fun q => q.2.v K := by rw [List.map_map]; rfl
  obtain ⟨mv, B⟩ := F.kbinds0 (ps := ps) n ks (ms.map fun q => (q.1, q.2.v K)) (fun us mv ws => gP idx (us ++ (mv ++ ws))) (by
      unfold He.DefD.kws
      intro e
      exact hk (List.map_eq_nil_iff.mp e)) (fun q hq => by
      obtain ⟨m, hm, rfl⟩ := List.mem_map.mp hq
      exact List.mem_map_of_mem (hms m hm)) (fun r1 r2 r3 => gP_rel (r1.append (r2.append r3)) idx)
      (fun D doc pm an cdv ct us mv ws l1 l2 l3 => by rw [e2]; exact h D doc pm an cdv ct us mv ws l1 (by rw [l2, List.length_map]) l3)
  rw [e3] at B
  exact ⟨_, B⟩
/-- defaults and keyword-only ones -/
theorem Bd.c (ms : List (Str × He.Dv)) (idx : List Nat) (hd : d.dfl ≠ []) (hk : d.kwd ≠ []) (hms : ∀ q ∈ ms, q ∈ d.kwd)
    (h : ∀ (T D : Addr) (doc pm : Value) (an : Option Addr) (cdv ct : Value) (us its mv ws : List Value), us.length = n → its.length = d.dfl.length → mv.length = ms.length → ws.length = ks.length →
      ∃ k, bindArgs (PySem.W.fnOf d.name d.qual d.params d.body d.scope (.ref T) (.ref D) doc pm an cdv ct) ⟨us, ks.zip ws⟩ = seqItems? (.ref T) >>= k ∧ KwChain D ((ms.map (·.1)).zip mv) (k (some its.toArray)) (ps.zip (gP idx (us ++ (its ++ (mv ++ ws)))))) :
    Bd d ps n ks (fun K vs zs => gP idx (vs ++ (d.dfl.map (fun q => q.v K) ++ (ms.map (fun q => q.2.v K) ++ zs)))) := by
  intro K f fd F
  have e2 : ((ms.map fun q => (q.1, q.2.v K)).map (·.1)) = ms.map (·.1) := by rw [List.map_map]; rfl
  have e3 : ((ms.map fun q => (q.1, q.2.v K)).map (·.2)) = ms.map fun q => q.2.v K := by rw [List.map_map]; rfl
  obtain ⟨its, mv, B⟩ := F.kbinds (ps := ps) n ks (ms.map fun q => (q.1, q.2.v K)) (fun us its mv ws => gP idx (us ++ (its ++ (mv ++ ws)))) (by
      unfold He.DefD.dvs
      intro e
      exact hd (List.map_eq_nil_iff.mp e)) (by
      unfold He.DefD.kws
      intro e
      exact hk (List.map_eq_nil_iff.mp e)) (fun q hq => by
      obtain ⟨m, hm, rfl⟩ := List.mem_map.mp hq
      exact List.mem_map_of_mem (hms m hm)) (fun r1 r2 r3 r4 => gP_rel (r1.append (r2.append (r3.append r4))) idx)
      (fun T D doc pm an cdv ct us its mv ws l1 l2 l3 l4 => by
        rw [e2]
        exact h T D doc pm an cdv ct us its mv ws l1 (by rw [l2]; unfold He.DefD.dvs; rw [List.length_map]) (by rw [l3, List.length_map]) l4)
  rw [e3] at B
  exact ⟨_, B⟩
end
end Z
namespace Z
open PySem PySem.Spec PyProof.Rows L2
section
variable {X : Cx} {K : PySem.W.Frag}
theorem pe_fldK (K : PySem.W.Frag) (h : X.K = K) {e : Expr} {f : Str} {pos : Pos} {ta : TE} (he : PE X e ta) (hb : attributeBase e f X.env (eval e X.env) = eval e X.env) : PE X (.Attribute e f pos) (tFld K ta f) := h ▸ pe_fld he hb
variable {g : Prop} {m : Str} {ks : List Str} {Ms : List MA} {E : XK} {o e : Expr} {es : List Expr} {kws : List Keyword} {ta : TE} {t tk : TA} {apos pos : Pos}
theorem pe_MK {pl : Sem Bool} (K : PySem.W.Frag) (h : X.K = K) (hM : ∀ M ∈ Ms, MtM g X m [] M) (hx : Passes (L2.CX X.prog X.w) X E) (he : PE X o ta) (ha : PA X (e :: es) t)
    (hst : starEach (e :: es) X.env = (false, eval e X.env) :: starEach es X.env := by rfl) (hpl : (backTo pos (starEach es X.env)).any (·.1) = false := by rfl)
    (ht : eval (.Call (.Attribute o m apos) (e :: es) [] pos) X.env = (do
      let ov ← eval o X.env; standAt apos.atName
      let (f, first) ← holding [ov] (getMethod ov m pl); callWith pos f first (backTo pos (starEach (e :: es) X.env)) (backToKw pos (keywordEach [] X.env))) := by rfl) :
    PE X (.Call (.Attribute o m apos) (e :: es) [] pos) (zM K m 0 E Ms ta t tNil) := h ▸ pe_M hM hx he ha hst hpl ht
theorem pe_M0K {pl : Sem Bool} (K : PySem.W.Frag) (h : X.K = K) (hM : ∀ M ∈ Ms, MtM g X m [] M) (hx : Passes (L2.CX X.prog X.w) X E) (he : PE X o ta)
    (ht : eval (.Call (.Attribute o m apos) [] [] pos) X.env = (do
      let ov ← eval o X.env; standAt apos.atName
      let (f, first) ← holding [ov] (getMethod ov m pl); callWith pos f first (backTo pos (starEach [] X.env)) (backToKw pos (keywordEach [] X.env))) := by rfl) :
    PE X (.Call (.Attribute o m apos) [] [] pos) (zM K m 0 E Ms ta tNil tNil) := h ▸ pe_M0 hM hx he ht
theorem pe_MkK {pl : Sem Bool} (K : PySem.W.Frag) (h : X.K = K) (hM : ∀ M ∈ Ms, MtM g X m ks M) (hx : Passes (L2.CX X.prog X.w) X E) (he : PE X o ta) (ha : PA X (e :: es) t) (hkw : PK X kws tk)
    (hall : (backToKw pos (keywordEach kws X.env)).all (·.1.isSome) = true := by rfl) (hks : (backToKw pos (keywordEach kws X.env)).filterMap (·.1) = ks := by rfl)
    (hst : starEach (e :: es) X.env = (false, eval e X.env) :: starEach es X.env := by rfl)
    (hpl : ((backTo pos (starEach (e :: es) X.env)).any (·.1) || (backToKw pos (keywordEach kws X.env)).any (·.1.isNone)) = false := by rfl)
    (ht : eval (.Call (.Attribute o m apos) (e :: es) kws pos) X.env = (do
      let ov ← eval o X.env; standAt apos.atName
      let (f, first) ← holding [ov] (getMethod ov m pl); callWith pos f first (backTo pos (starEach (e :: es) X.env)) (backToKw pos (keywordEach kws X.env))) := by rfl) :
    PE X (.Call (.Attribute o m apos) (e :: es) kws pos) (zM K m ks.length E Ms ta t tk) := h ▸ pe_Mk hM hx he ha hkw hall hks hst hpl ht
theorem pe_Mk0K {pl : Sem Bool} (K : PySem.W.Frag) (h : X.K = K) (hM : ∀ M ∈ Ms, MtM g X m ks M) (hx : Passes (L2.CX X.prog X.w) X E) (he : PE X o ta) (hkw : PK X kws tk)
    (hall : (backToKw pos (keywordEach kws X.env)).all (·.1.isSome) = true := by rfl) (hks : (backToKw pos (keywordEach kws X.env)).filterMap (·.1) = ks := by rfl)
    (hpl : ((backTo pos (starEach [] X.env)).any (·.1) || (backToKw pos (keywordEach kws X.env)).any (·.1.isNone)) = false := by rfl)
    (ht : eval (.Call (.Attribute o m apos) [] kws pos) X.env = (do
      let ov ← eval o X.env; standAt apos.atName
      let (f, first) ← holding [ov] (getMethod ov m pl); callWith pos f first (backTo pos (starEach [] X.env)) (backToKw pos (keywordEach kws X.env))) := by rfl) :
    PE X (.Call (.Attribute o m apos) [] kws pos) (zM K m ks.length E Ms ta tNil tk) := h ▸ pe_Mk0 hM hx he hkw hall hks hpl ht
theorem pi_zipK (K : PySem.W.Frag) (h : X.K = K) {e e2 : Expr} {ta : TA} {p pos tpos : Pos} {elts : List Expr} {kk : Nat} (hg : Gl X "zip") (hm : X.mg "zip" = none) (ha : PA X [e, e2] ta)
    (hs : starEach [e, e2] X.env = (false, eval e X.env) :: starEach [e2] X.env := by rfl) (hpl : (backTo pos (starEach [e2] X.env)).any (·.1) = false := by rfl) :
    PI X (.Tuple elts kk tpos) (.Call (.Name "zip" p) [e, e2] [] pos) (RZ.iZipA K ta) := h ▸ RZ.pi_zipA hg hm ha hs hpl
end
section
variable {K : PySem.W.Frag} {ta tb tc : TE} {r r' : R2} {σ : L2.St} {H : Hp} {Q : VK}
theorem i_chain (h : ta σ H fun x H1 => tb σ H1 fun y H2 => r x y H2 fun z H3 => ∃ k, z = .bl k ∧ (if k = true then tc σ H3 fun w' H4 => r' y w' H4 Q else Q (.bl false) H3)) : tChain r r' ta tb tc σ H Q := h
theorem i_notV (h : ta σ H fun x H1 => ∃ c, x = .bl c ∧ Q (.bl (!c)) H1) : tNotV ta σ H Q := h
theorem ifNT {A B : Prop} (b : B) : if (!true) = true then A else B := ifF rfl b
theorem ifNF {A B : Prop} (a : A) : if (!false) = true then A else B := ifT rfl a
/-! ### zip of two lists, of two tuples -/
def zZiA (K : PySem.W.Frag) (vs : List V) (H1 : Hp) (R : It → Hp → Prop) : Prop := ∃ a b xs ys, vs = [.ref a, .ref b] ∧ ((SqL K H1 a xs ∧ SqL K H1 b ys ∧ R (Itz K a b) H1) ∨ (SqT K H1 a xs ∧ SqT K H1 b ys ∧ R (RZ.ItzT K a b) H1))
theorem i_zipA {t : TA} {R : It → Hp → Prop} (h : t σ H fun vs H1 => zZiA K vs H1 R) : RZ.iZipA K t σ H R := h
theorem i_zipAL {a b : Addr} {xs ys : List V} {R : It → Hp → Prop} (h : SqL K H a xs) (h2 : SqL K H b ys) (q : R (Itz K a b) H) : zZiA K [V.ref a, V.ref b] H R := ⟨a, b, xs, ys, rfl, .inl ⟨h, h2, q⟩⟩
theorem i_zipAT {a b : Addr} {xs ys : List V} {R : It → Hp → Prop} (h : H a = some (.tup xs)) (h2 : H b = some (.tup ys)) (q : R (RZ.ItzT K a b) H) : zZiA K [V.ref a, V.ref b] H R := ⟨a, b, xs, ys, rfl, .inr ⟨SqT.of h, SqT.of h2, q⟩⟩
variable {g : TG} {tt : TT} {te : TE} {vs : List Nat} {a b : Addr} {xs ys : List V}
/-- over zip(tuple, tuple), as far as the shorter one goes -/
theorem comp_zipT (n : Nat) (hn : n = min xs.length ys.length) (G : Nat → List V → Hp → Prop) (h0 : ∀ D H', New H D (.lst []) H' → G 0 [] H') (hl : ∀ i acc H, i ≤ n → G i acc H → SqT K H a xs ∧ SqT K H b ys)
    (hs : ∀ D i acc x y T H2 H2', H D = none → xs[i]? = some x → ys[i]? = some y → H2 D = some (.lst acc) → G i acc H2 → New H2 T (.tup [x, y]) H2' → g (.ref T) (wipe σ vs) H2' fun σ2 H3 => wipe σ2 vs = wipe σ vs ∧ tt σ2 H3 fun b H4 =>
      if b = true then te σ2 H4 fun y H5 => zEnd D (G (i + 1)) y H5 else zSkip D (G (i + 1)) H4)
    (hd : ∀ D acc H2, H D = none → H2 D = some (.lst acc) → G n acc H2 → Q (.ref D) H2) : zComp (RZ.ItzT K a b) g tt te vs σ H Q := by
  refine comp_by n G h0 (fun i acc H hi p => ⟨xs, ys, xs[i]'(by omega), ys[i]'(by omega), (hl i acc H (Nat.le_of_lt hi) p).1, (hl i acc H (Nat.le_of_lt hi) p).2, by simp, by simp⟩)
    (fun acc H p => ⟨xs, ys, (hl _ acc H (Nat.le_refl _) p).1, (hl _ acc H (Nat.le_refl _) p).2, by omega⟩) (fun D i acc x H2 H' fD hi hD p y => ?_) hd
  obtain ⟨T, v, u, rfl, fT, rfl, y1, y2⟩ := y
  have q := hl i acc H2 (Nat.le_of_lt hi) p
  exact hs D i acc v u T H2 _ fD (y1 xs q.1) (y2 ys q.2) hD p ⟨fT, rfl⟩
end
end Z
namespace Z
open PySem PySem.Spec PyProof.Rows L2
theorem fr_made {H H1 H2 : Hp} {p dx C : Addr} (y : Made H1 p dx C H2) (x : Same H H1) : Same H H2 := x.trans y.same
theorem fresh_made {H H1 H2 : Hp} {p dx C : Addr} (n : Made H1 p dx C H2) (s : Same H H1) : H p = none := free_back s n.fr
theorem Made.nei {H H' : Hp} {x dx C a : Addr} {u : HO} (n : Made H x dx C H') (h : H a = some u) : a ≠ x := ne_of_none h n.fr
end Z
namespace Z
open PySem PySem.Spec PyProof.Rows L2
theorem upd_upd {H : Hp} {a : Addr} {o u : HO} : upd (upd H a o) a u = upd H a u := by
  funext b
  by_cases e : b = a
  · subst e; rw [upd_same, upd_same]
  · rw [upd_ne e, upd_ne e, upd_ne e]
end Z
namespace Z
open PySem PySem.Spec PyProof.Rows L2
/-! ### what is walked: a list or a tuple -/
def zItS (K : PySem.W.Frag) (x : V) (H1 : Hp) (R : It → Hp → Prop) : Prop := ∃ a, x = .ref a ∧ (((∃ xs, SqL K H1 a xs) ∧ R (Itl K a) H1) ∨ ((∃ xs, SqT K H1 a xs) ∧ R (Itt K a) H1))
def iSeqS (K : PySem.W.Frag) (tl : TE) : TI := fun σ H R => tl σ H fun x H1 => zItS K x H1 R
theorem pi_seq {X : Cx} {tg l : Expr} {tl : TE} (hl : PE X l tl) : PI X tg l (iSeqS X.K tl) := by
  refine ⟨fun pins s σ H R I h => ?_⟩
  refine thn (hl.run pins s σ H _ I h) fun v s1 ⟨x, H1, I1, r1, q1⟩ => ?_
  obtain ⟨a, e, q⟩ := q1
  subst e
  cases r1
  rcases q with ⟨⟨xs, hq⟩, q⟩ | ⟨⟨xs, hq⟩, q⟩
  · obtain ⟨its, rv, p, hz⟩ := I1.list hq
    refine wpAny_pyIter_list p.isList ?_
    refine ⟨s1.heap.objs.size, [s1.heap.objs.size], _, _, H1, rfl, I1.kept (t' := s1.toks) fun b o e => Heap.get?_push_of_some _ e, turn_list a _, ⟨_, Heap.get?_push_size _ rfl, rfl, rfl⟩, fun b hb => ?_, q⟩
    have e : b = s1.heap.objs.size := by simpa using hb
    subst e
    exact I1.fpOk (Nat.le_refl _) (I1.hok.fresh (Nat.le_refl _))
  · obtain ⟨its, rv, p, hz⟩ := I1.tuple hq
    refine wpAny_pyIter_tuple (show s1.heap.IsTuple a its.toArray from p) ?_
    refine ⟨s1.heap.objs.size, [s1.heap.objs.size], _, _, H1, rfl, I1.kept (t' := s1.toks) fun b o e => Heap.get?_push_of_some _ e, turn_tuple a _, ⟨_, Heap.get?_push_size _ rfl, rfl, rfl⟩, fun b hb => ?_, q⟩
    have e : b = s1.heap.objs.size := by simpa using hb
    subst e
    exact I1.fpOk (Nat.le_refl _) (I1.hok.fresh (Nat.le_refl _))
theorem pi_seqK {X : Cx} (K : PySem.W.Frag) (h : X.K = K) {tg l : Expr} {tl : TE} (hl : PE X l tl) : PI X tg l (iSeqS K tl) := h ▸ pi_seq hl
section
variable {K : PySem.W.Frag} {tl : TE} {σ : L2.St} {H : Hp} {R : It → Hp → Prop} {a : Addr} {xs : List V}
theorem i_iSeqS (h : tl σ H fun x H1 => zItS K x H1 R) : iSeqS K tl σ H R := h
theorem i_sL (h : H a = some (.lst xs)) (q : R (Itl K a) H) : zItS K (.ref a) H R := ⟨a, rfl, .inl ⟨⟨xs, SqL.of h⟩, q⟩⟩
theorem i_sQ (h : SqL K H a xs) (q : R (Itl K a) H) : zItS K (.ref a) H R := ⟨a, rfl, .inl ⟨⟨xs, h⟩, q⟩⟩
theorem i_sT (h : H a = some (.tup xs)) (q : R (Itt K a) H) : zItS K (.ref a) H R := ⟨a, rfl, .inr ⟨⟨xs, SqT.of h⟩, q⟩⟩
end
end Z

/-! Z: data that stands while some objects change. -/
namespace Z
open PySem PySem.Spec PyProof.Rows L2

/-- all but L stands -/
def ButL (L : List Addr) (H H' : Hp) : Prop := ∀ b u, b ∉ L → H b = some u → H' b = some u
/-- L's places are taken -/
def Al (L : List Addr) (H : Hp) : Prop := ∀ b ∈ L, ∃ u, H b = some u
section
variable {L : List Addr} {H H1 H2 H' : Hp} {p D a : Addr} {o u : HO}
theorem ButL.refl : ButL L H H := fun _ _ _ h => h
theorem ButL.trans (x : ButL L H H1) (y : ButL L H1 H2) : ButL L H H2 := fun b u n h => y b u n (x b u n h)
theorem ButL.ofSame (x : Same H H1) : ButL L H H1 := fun b u _ h => x b u h
theorem ButL.ofBut (x : But a H H1) (m : a ∈ L) : ButL L H H1 := fun b u n h => x.get (fun e => n (e ▸ m)) h
theorem ButL.ofUp (x : Up H D o H1) (m : D ∈ L) : ButL L H H1 := .ofBut x.but m
theorem ButL.same (x : ButL L H H1) (y : Same H1 H2) : ButL L H H2 := x.trans (.ofSame y)
theorem ButL.new (x : ButL L H H1) (y : New H1 p o H2) : ButL L H H2 := x.trans (.ofSame y.same)
theorem ButL.but (x : ButL L H H1) (y : But a H1 H2) (m : a ∈ L) : ButL L H H2 := x.trans (.ofBut y m)
theorem ButL.up (x : ButL L H H1) (y : Up H1 D o H2) (m : D ∈ L) : ButL L H H2 := x.trans (.ofUp y m)
theorem ButL.upn (x : ButL L H H1) (y : Up H1 D o H2) (f : H D = none) : ButL L H H2 := fun b u n h => y.get (ne_of_none h f) (x b u n h)
theorem ButL.butn (x : ButL L H H1) (y : But D H1 H2) (f : H D = none) : ButL L H H2 := fun b u n h => y.get (ne_of_none h f) (x b u n h)
theorem ButL.butL {L' : List Addr} (x : ButL L H H1) (y : ButL L' H1 H2) (f : ∀ b ∈ L', b ∈ L ∨ H b = none) : ButL L H H2 := fun b u n h => y b u (fun m => by
  rcases f b m with z | z
  · exact n z
  · rw [h] at z; cases z) (x b u n h)
theorem ButL.toSame (x : ButL L H H1) (f : ∀ b ∈ L, H b = none) : Same H H1 := fun b u h => x b u (fun m => by rw [f b m] at h; cases h) h
theorem ButL.toBut (x : ButL L H H1) (f : ∀ b ∈ L, b = a ∨ H b = none) : But a H H1 := ⟨fun b u n h => x b u (fun m => by
  rcases f b m with z | z
  · exact n z
  · rw [h] at z; cases z) h⟩
theorem Al.nin (x : Al L H) (f : H p = none) : p ∉ L := fun m => by
  obtain ⟨u, h⟩ := x p m
  rw [f] at h; cases h
theorem Al.same (x : Al L H) (s : Same H H1) : Al L H1 := fun b m => by
  obtain ⟨u, h⟩ := x b m
  exact ⟨u, s _ _ h⟩
theorem Al.up (x : Al L H) (s : Up H D o H1) : Al L H1 := fun b m => by
  obtain ⟨u, h⟩ := x b m
  by_cases e : b = D
  · subst e; exact ⟨_, s.at⟩
  · exact ⟨u, s.get e h⟩
theorem Al.but (x : Al L H) (s : But a H H1) (h : H1 a = some o) : Al L H1 := fun b m => by
  obtain ⟨u, hb⟩ := x b m
  by_cases e : b = a
  · subst e; exact ⟨_, h⟩
  · exact ⟨u, s.get e hb⟩
theorem Al.nil : Al [] H := fun _ m => by cases m
theorem Al.cons (h : H a = some o) (x : Al L H) : Al (a :: L) H := fun b m => by
  rcases List.mem_cons.mp m with rfl | m
  · exact ⟨_, h⟩
  · exact x b m
end
/-! ### data that keeps off L -/
mutual
def DA (L : List Addr) (H : Hp) : V → PyData → Prop
  | v, .none => v = .non
  | v, .bool b => v = .bl b
  | v, .int i => v = .int i
  | v, .str x => v = .str x
  | v, .list l => ∃ p vs, v = .ref p ∧ p ∉ L ∧ H p = some (.lst vs) ∧ DAs L H vs l
  | v, .tuple l => ∃ p vs, v = .ref p ∧ p ∉ L ∧ H p = some (.tup vs) ∧ DAs L H vs l
  | _, .dict _ => False
def DAs (L : List Addr) (H : Hp) : List V → List PyData → Prop
  | vs, [] => vs = []
  | vs, d :: ds => ∃ v r, vs = v :: r ∧ DA L H v d ∧ DAs L H r ds
end
section
variable {K : PySem.W.Frag} {L L' : List Addr} {H H' : Hp} {p : Addr} {v : V} {vs ws : List V} {d : PyData} {ds es : List PyData} {ns : List Int}
mutual
theorem DA.dp : ∀ {v : V} {d : PyData}, DA L H v d → Dp K H v d
  | _, .none, h => by simp only [DA] at h; subst h; exact .non
  | _, .bool b, h => by simp only [DA] at h; subst h; exact .bl b
  | _, .int i, h => by simp only [DA] at h; subst h; exact .int i
  | _, .str x, h => by simp only [DA] at h; subst h; exact .str x
  | _, .list l, h => by
    simp only [DA] at h
    obtain ⟨p, vs, rfl, _, h, a⟩ := h
    exact dp_lst h (DAs.dp a)
  | _, .tuple l, h => by
    simp only [DA] at h
    obtain ⟨p, vs, rfl, _, h, a⟩ := h
    exact dp_tup h (DAs.dp a)
  | _, .dict _, h => by simp only [DA] at h
theorem DAs.dp : ∀ {vs : List V} {ds : List PyData}, DAs L H vs ds → DpAll K H vs ds
  | _, [], h => by simp only [DAs] at h; subst h; exact .nil
  | _, d :: ds, h => by
    simp only [DAs] at h
    obtain ⟨v, r, rfl, h, a⟩ := h
    exact .cons (DA.dp h) (DAs.dp a)
end
mutual
theorem DA.mono (b : ButL L H H') : ∀ {v : V} {d : PyData}, DA L H v d → DA L H' v d
  | _, .none, h => by simpa only [DA] using h
  | _, .bool b, h => by simpa only [DA] using h
  | _, .int i, h => by simpa only [DA] using h
  | _, .str x, h => by simpa only [DA] using h
  | _, .list l, h => by
    simp only [DA] at h ⊢
    obtain ⟨p, vs, rfl, n, h, a⟩ := h
    exact ⟨p, vs, rfl, n, b _ _ n h, DAs.mono b a⟩
  | _, .tuple l, h => by
    simp only [DA] at h ⊢
    obtain ⟨p, vs, rfl, n, h, a⟩ := h
    exact ⟨p, vs, rfl, n, b _ _ n h, DAs.mono b a⟩
  | _, .dict _, h => by simp only [DA] at h
theorem DAs.mono (b : ButL L H H') : ∀ {vs : List V} {ds : List PyData}, DAs L H vs ds → DAs L H' vs ds
  | _, [], h => by simpa only [DAs] using h
  | _, d :: ds, h => by
    simp only [DAs] at h ⊢
    obtain ⟨v, r, rfl, h, a⟩ := h
    exact ⟨v, r, rfl, DA.mono b h, DAs.mono b a⟩
end
mutual
theorem DA.less (s : ∀ b ∈ L', b ∈ L) : ∀ {v : V} {d : PyData}, DA L H v d → DA L' H v d
  | _, .none, h => by simpa only [DA] using h
  | _, .bool b, h => by simpa only [DA] using h
  | _, .int i, h => by simpa only [DA] using h
  | _, .str x, h => by simpa only [DA] using h
  | _, .list l, h => by
    simp only [DA] at h ⊢
    obtain ⟨p, vs, rfl, n, h, a⟩ := h
    exact ⟨p, vs, rfl, fun m => n (s _ m), h, DAs.less s a⟩
  | _, .tuple l, h => by
    simp only [DA] at h ⊢
    obtain ⟨p, vs, rfl, n, h, a⟩ := h
    exact ⟨p, vs, rfl, fun m => n (s _ m), h, DAs.less s a⟩
  | _, .dict _, h => by simp only [DA] at h
theorem DAs.less (s : ∀ b ∈ L', b ∈ L) : ∀ {vs : List V} {ds : List PyData}, DAs L H vs ds → DAs L' H vs ds
  | _, [], h => by simpa only [DAs] using h
  | _, d :: ds, h => by
    simp only [DAs] at h ⊢
    obtain ⟨v, r, rfl, h, a⟩ := h
    exact ⟨v, r, rfl, DA.less s h, DAs.less s a⟩
end
theorem DA.same (s : Same H H') (h : DA L H v d) : DA L H' v d := h.mono (.ofSame s)
theorem DAs.same (s : Same H H') (h : DAs L H vs ds) : DAs L H' vs ds := h.mono (.ofSame s)
theorem DAs.nil : DAs L H [] [] := by simp only [DAs]
theorem DAs.cons (h : DA L H v d) (a : DAs L H vs ds) : DAs L H (v :: vs) (d :: ds) := by
  simp only [DAs]
  exact ⟨v, vs, rfl, h, a⟩
theorem DAs.app : ∀ {vs : List V} {ds : List PyData}, DAs L H vs ds → DAs L H ws es → DAs L H (vs ++ ws) (ds ++ es)
  | _, [], h, g => by simp only [DAs] at h; subst h; exact g
  | _, d :: ds, h, g => by
    simp only [DAs] at h
    obtain ⟨v, r, rfl, h, a⟩ := h
    exact .cons h (a.app g)
theorem DAs.snoc (a : DAs L H vs ds) (h : DA L H v d) : DAs L H (vs ++ [v]) (ds ++ [d]) := a.app (.cons h .nil)
theorem DAs.ints : ∀ ns : List Int, DAs L H (ns.map V.int) (ns.map PyData.int)
  | [] => .nil
  | n :: ns => .cons (by simp only [DA]) (DAs.ints ns)
theorem DAs.len : ∀ {vs : List V} {ds : List PyData}, DAs L H vs ds → vs.length = ds.length
  | _, [], h => by simp only [DAs] at h; subst h; rfl
  | _, d :: ds, h => by
    simp only [DAs] at h
    obtain ⟨v, r, rfl, h, a⟩ := h
    rw [List.length_cons, List.length_cons, a.len]
theorem DAs.get : ∀ {vs : List V} {ds : List PyData} {i : Nat} {d : PyData}, DAs L H vs ds → ds[i]? = some d → ∃ v, vs[i]? = some v ∧ DA L H v d
  | _, [], _, _, h, e => by simp at e
  | _, d :: ds, 0, _, h, e => by
    simp only [DAs] at h
    obtain ⟨v, r, rfl, h, a⟩ := h
    cases e
    exact ⟨v, rfl, h⟩
  | _, d :: ds, i + 1, _, h, e => by
    simp only [DAs] at h
    obtain ⟨v, r, rfl, h, a⟩ := h
    exact a.get (i := i) (by simpa using e)
theorem DAs.ints_eq : ∀ {ns : List Int} {vs : List V}, DAs L H vs (ns.map PyData.int) → vs = ns.map V.int
  | [], _, h => by simpa only [List.map_nil, DAs] using h
  | n :: ns, _, h => by
    simp only [List.map_cons, DAs, DA] at h
    obtain ⟨v, r, rfl, rfl, a⟩ := h
    rw [DAs.ints_eq a]; rfl
theorem DA.lst (n : p ∉ L) (h : H p = some (.lst vs)) (a : DAs L H vs ds) : DA L H (.ref p) (.list ds) := by
  simp only [DA]
  exact ⟨p, vs, rfl, n, h, a⟩
theorem DA.tup (n : p ∉ L) (h : H p = some (.tup vs)) (a : DAs L H vs ds) : DA L H (.ref p) (.tuple ds) := by
  simp only [DA]
  exact ⟨p, vs, rfl, n, h, a⟩
theorem DA.of_lst (h : DA L H v (.list ds)) : ∃ p vs, v = .ref p ∧ p ∉ L ∧ H p = some (.lst vs) ∧ DAs L H vs ds := by
  simpa only [DA] using h
theorem DA.of_tup (h : DA L H v (.tuple ds)) : ∃ p vs, v = .ref p ∧ p ∉ L ∧ H p = some (.tup vs) ∧ DAs L H vs ds := by
  simpa only [DA] using h
theorem DA.of_int {i : Int} (h : DA L H v (.int i)) : v = .int i := by simpa only [DA] using h
theorem DA.of_ints (h : DA L H v (.list (ns.map PyData.int))) : ∃ p, v = .ref p ∧ p ∉ L ∧ H p = some (.lst (ns.map V.int)) := by
  obtain ⟨p, vs, rfl, n, h, a⟩ := h.of_lst
  exact ⟨p, rfl, n, a.ints_eq ▸ h⟩
theorem DA.ints (n : p ∉ L) (h : H p = some (.lst (ns.map V.int))) : DA L H (.ref p) (.list (ns.map PyData.int)) := .lst n h (.ints ns)
end
/-! ### tuples: + and slices -/
section
variable {K : PySem.W.Frag} {H : Hp} {Q : VK} {p q : Addr} {v : V} {xs ys : List V} {m : Nat}
theorem i_addT1 (h1 : H p = some (.tup [v])) (h2 : H q = some (.tup ys)) (z : ys.length ≤ 1000000) (k : ∀ r H', Same H H' → H' r = some (.tup (v :: ys)) → Q (.ref r) H') : rAdd K (.ref p) (.ref q) H Q :=
  .inr (.inr (.inr (by
    refine ⟨p, q, [v], ys, rfl, rfl, SqT.of h1, SqT.of h2, by rw [sizeLine_eq, List.length_singleton]; omega, fun e => ?_, fun _ e => ?_, fun _ _ r f => ?_⟩
    · cases e
    · subst e; exact k p H (Same.refl _) h1
    · exact k r _ (fun b o e => by rw [upd_ne (ne_of_none e f)]; exact e) upd_same)))
theorem i_slT (h : H p = some (.tup xs)) (hm : m ≤ xs.length) (k : ∀ r H', Same H H' → H' r = some (.tup (xs.take m)) → Q (.ref r) H') : rSlU K (.ref p) none (some (m : Int)) H Q := by
  have e : cutV xs none (some (m : Int)) = xs.take m := by
    unfold cutV
    rw [HT.sIx_none, HT.sIx_nat, Nat.min_eq_left hm]
    simp
  refine .inr ⟨p, xs, rfl, SqT.of h, fun ⟨_, w⟩ => ?_, fun _ r f => k r _ (fun b o e => by rw [upd_ne (ne_of_none e f)]; exact e) (by rw [upd_same, e])⟩
  rw [HT.sIx_nat, Nat.min_eq_left hm] at w
  exact k p H (Same.refl _) (by rw [w, List.take_length]; exact h)
end
end Z
namespace Z
open PySem PySem.Spec PyProof.Rows L2
/-! ### comprehensions whose invariant knows the list's own place -/
section
variable {K : PySem.W.Frag} {H : Hp} {a : Addr} {xs : List V} {g : TG} {tt : TT} {te : TE} {vs : List Nat} {σ : L2.St} {Q : VK} {n : Nat} {lo : Int}
theorem comp_byD {J : It} (n : Nat) (G : Addr → Nat → List V → Hp → Prop) (h0 : ∀ D H', New H D (.lst []) H' → G D 0 [] H')
    (hgo : ∀ D i acc H, i < n → G D i acc H → J.go i H) (hst : ∀ D acc H, G D n acc H → J.stop n H)
    (hs : ∀ D i acc x H2 H', H D = none → i < n → H2 D = some (.lst acc) → G D i acc H2 → J.yld i H2 x H' → g x (wipe σ vs) H' fun σ2 H3 => wipe σ2 vs = wipe σ vs ∧ tt σ2 H3 fun b H4 =>
      if b = true then te σ2 H4 fun y H5 => zEnd D (G D (i + 1)) y H5 else zSkip D (G D (i + 1)) H4)
    (hd : ∀ D acc H2, H D = none → H2 D = some (.lst acc) → G D n acc H2 → Q (.ref D) H2) : zComp J g tt te vs σ H Q := by
  intro D fD
  refine ⟨fun i m H2 => m = n - i ∧ i ≤ n ∧ ∃ acc, H2 D = some (.lst acc) ∧ G D i acc H2, ⟨n, rfl, Nat.zero_le _, [], upd_same, h0 D _ ⟨fD, rfl⟩⟩, ?_⟩
  rintro i m H2 ⟨rfl, hi, acc, hD, p⟩
  by_cases hlt : i < n
  · exact .inr ⟨hgo D i acc H2 hlt p, fun H6 => ∃ acc, H6 D = some (.lst acc) ∧ G D (i + 1) acc H6, fun H' p' => ⟨n - (i + 1), by omega, rfl, hlt, p'⟩, fun x H' y => hs D i acc x H2 H' fD hlt hD p y⟩
  · have e : i = n := by omega
    subst e
    exact .inl ⟨hst D acc H2 p, hd D acc H2 fD hD p⟩
theorem comp_listD (G : Addr → Nat → List V → Hp → Prop) (h0 : ∀ D H', New H D (.lst []) H' → G D 0 [] H') (hl : ∀ D i acc H, i ≤ xs.length → G D i acc H → SqL K H a xs)
    (hs : ∀ D i acc x H2, H D = none → xs[i]? = some x → H2 D = some (.lst acc) → G D i acc H2 → g x (wipe σ vs) H2 fun σ2 H3 => wipe σ2 vs = wipe σ vs ∧ tt σ2 H3 fun b H4 =>
      if b = true then te σ2 H4 fun y H5 => zEnd D (G D (i + 1)) y H5 else zSkip D (G D (i + 1)) H4)
    (hd : ∀ D acc H2, H D = none → H2 D = some (.lst acc) → G D xs.length acc H2 → Q (.ref D) H2) : zComp (Itl K a) g tt te vs σ H Q := by
  refine comp_byD xs.length G h0 (fun D i acc H hi p => ⟨xs, xs[i], hl D i acc H (Nat.le_of_lt hi) p, by simp [hi]⟩) (fun D acc H p => ⟨xs, hl D _ acc H (Nat.le_refl _) p, Nat.le_refl _⟩) (fun D i acc x H2 H' fD hi hD p y => ?_) hd
  obtain ⟨e, y⟩ := y
  subst e
  exact hs D i acc x _ fD (y xs (hl D i acc _ (Nat.le_of_lt hi) p)) hD p
theorem comp_range0D (G : Addr → Nat → List V → Hp → Prop) (h0 : ∀ D H', New H D (.lst []) H' → G D 0 [] H')
    (hs : ∀ D i acc H2, H D = none → i < n → H2 D = some (.lst acc) → G D i acc H2 → g (.int (i : Nat)) (wipe σ vs) H2 fun σ2 H3 => wipe σ2 vs = wipe σ vs ∧ tt σ2 H3 fun b H4 =>
      if b = true then te σ2 H4 fun y H5 => zEnd D (G D (i + 1)) y H5 else zSkip D (G D (i + 1)) H4)
    (hd : ∀ D acc H2, H D = none → H2 D = some (.lst acc) → G D n acc H2 → Q (.ref D) H2) : zComp (Itr 0 n) g tt te vs σ H Q := by
  refine comp_byD n G h0 (fun D i acc H hi p => hi) (fun D acc H p => Nat.le_refl _) (fun D i acc x H2 H' fD hi hD p y => ?_) hd
  obtain ⟨e, y⟩ := y
  subst e y
  rw [Int.zero_add]
  exact hs D i acc _ fD hi hD p
end
/-! data off D :: L is off L, and stands when D is changed -/
section
variable {L : List Addr} {H H' : Hp} {D : Addr} {o : HO} {v : V} {vs : List V} {d : PyData} {ds : List PyData}
theorem DA.up (h : DA L H v d) (u : Up H D o H') (m : D ∈ L) : DA L H' v d := h.mono (.ofUp u m)
theorem DAs.up (h : DAs L H vs ds) (u : Up H D o H') (m : D ∈ L) : DAs L H' vs ds := h.mono (.ofUp u m)
theorem DA.drop (h : DA (D :: L) H v d) : DA L H v d := h.less fun _ m => List.mem_cons_of_mem _ m
theorem DAs.drop (h : DAs (D :: L) H vs ds) : DAs L H vs ds := h.less fun _ m => List.mem_cons_of_mem _ m
end
end Z
namespace Z
open PySem PySem.Spec PyProof.Rows L2
section
variable {c : TT} {ta tb : TE} {σ : L2.St} {H : Hp} {Q : VK} {t u : TZ} {nx bk ct : L2.St → Hp → Prop} {rt : VK}
/-- both ways of a conditional expression join -/
theorem i_ifEG (R : V → Hp → Prop) (k : ∀ v H', R v H' → Q v H') (h : ∀ Q' : VK, (∀ v H', R v H' → Q' v H') → c σ H fun b H1 => if b = true then ta σ H1 Q' else tb σ H1 Q') : tIf c ta tb σ H Q := h Q k
/-- both ways of an if join -/
theorem i_ifG (R : L2.St → Hp → Prop) (k : ∀ σ' H', R σ' H' → nx σ' H') (h : ∀ nx' : L2.St → Hp → Prop, (∀ σ' H', R σ' H' → nx' σ' H') → zIf c t u nx' rt bk ct σ H) : zIf c t u nx rt bk ct σ H := h nx k
end
/-! ### lists of lists of ints -/
theorem lay_rows : ∀ rows : List (List Int), PyData.canLayAll0 (rows.map fun r => .list (r.map PyData.int)) = true
  | [] => rfl
  | r :: rows => by
    simp only [List.map_cons, PyData.canLayAll0, Bool.and_eq_true]
    exact ⟨lay_ints r, lay_rows rows⟩
theorem depth_rows : ∀ rows : List (List Int), PyData.depthAll (rows.map fun r => .list (r.map PyData.int)) ≤ 1
  | [] => by simp only [List.map_nil, PyData.depthAll]; omega
  | r :: rows => by
    simp only [List.map_cons, PyData.depthAll, PyData.depth, depth_ints]
    have := depth_rows rows
    omega
theorem shaped_rows (rows : List (List Int)) : SeqAt.shaped (.list (rows.map fun r => .list (r.map PyData.int))) = true := by
  unfold SeqAt.shaped
  rw [Bool.and_eq_true, decide_eq_true_eq]
  refine ⟨by simp only [PyData.canLay0]; exact lay_rows rows, ?_⟩
  simp only [PyData.depth]
  have := depth_rows rows
  omega
theorem atI_snoc {α : Type} (xs : List α) (a : α) : atI (xs ++ [a]) (-1) = some a := atI_last _ _
end Z

/-! Z: isinstance of own classes, sorted, more of tuples. -/
namespace Z
open PySem PySem.Spec PyProof.Rows L2
/-! ### isinstance of instances of own classes -/
structure InsF (K : PySem.W.Frag) (C : Addr) : Prop where
  ha : PySem.W.findIn K (.ref C) "__class__" = some (some (.builtin "object.__class__"))
  hn : PySem.W.specialIn K (.builtin "object.__class__") "__get__" = some (some (.builtin "getset_descriptor.__get__"))
  htk : PySem.W.takesIn K (.builtin "object.__class__") = some true
  hm : PySem.W.mroIn K C (.type "object") = some true
def fxIns (c : Str) : Fx := fun K => He.eqO (PySem.W.findIn K (.ref (He.ga K c)) "__class__") (some (some (.builtin "object.__class__"))) && (He.eqO (PySem.W.specialIn K (.builtin "object.__class__") "__get__") (some (some (.builtin "getset_descriptor.__get__"))) &&
  (decide (PySem.W.takesIn K (.builtin "object.__class__") = some true) && decide (PySem.W.mroIn K (He.ga K c) (.type "object") = some true)))
theorem fxIns_ok {K : PySem.W.Frag} {c : Str} (h : fxIns c K = true) : InsF K (He.ga K c) := by
  obtain ⟨c1, h⟩ := He.ba h
  obtain ⟨c2, h⟩ := He.ba h
  obtain ⟨c3, c4⟩ := He.ba h
  exact ⟨He.eqO_ok c1, He.eqO_ok c2, of_decide_eq_true c3, of_decide_eq_true c4⟩
/-- is an instance of c one of D? -/
def fxKit (c D : Str) (b : Bool) : Fx := fun K => decide (PySem.W.kitOne K (.ref (He.ga K c)) (.ref (He.ga K D)) = some b)
theorem fxKit_ok {K : PySem.W.Frag} {c D : Str} {b : Bool} (h : fxKit c D b K = true) : PySem.W.kitOne K (.ref (He.ga K c)) (.ref (He.ga K D)) = some b := of_decide_eq_true h
/-- is a thing of the built-in type c one of D? -/
def fxKitB (c : String) (D : Str) (b : Bool) : Fx := fun K => decide (PySem.W.kitOne K (.type c) (.ref (He.ga K D)) = some b)
theorem fxKitB_ok {K : PySem.W.Frag} {c : String} {D : Str} {b : Bool} (h : fxKitB c D b K = true) : PySem.W.kitOne K (.type c) (.ref (He.ga K D)) = some b := of_decide_eq_true h
section
variable {K : PySem.W.Frag} {H : Hp} {Q : VK} {p D C dx : Addr} {b : Bool} {fs : List (Str × V)} {x : V} {a : String}
theorem i_isiC (h : H p = some (.ins C dx fs)) (c : Cls K C) (f : InsF K C) (k : PySem.W.kitOne K (.ref C) (.ref D) = some b) (q : Q (.bl b) H) : rIsi K [V.ref p, .ref D] H Q :=
  ⟨.ref p, .ref D, .ref C, .ref D, b, rfl, .own D, .base (.ins h c f.ha f.hn f.htk f.hm), k, q⟩
theorem i_isiB (t : TyX K H x (.type a)) (k : PySem.W.kitOne K (.type a) (.ref D) = some b) (q : Q (.bl b) H) : rIsi K [x, .ref D] H Q := ⟨x, .ref D, .type a, .ref D, b, rfl, .own D, t, k, q⟩
end
theorem Made.nei' {H H' : Hp} {x dx C a : Addr} {u : HO} (n : Made H x dx C H') (h : H a = some u) : x ≠ a := (ne_of_none h n.fr).symm
theorem i_dnew {σ : L2.St} {H : Hp} {Q : VK} (h : ∀ p H', New H p (.dK []) H' → Q (.ref p) H') : tDNewK σ H Q := fun p f => h p _ ⟨f, rfl⟩
/-! ### comprehensions within comprehensions -/
theorem lookup_kmap (f : Str → NameKind → NameKind) (x : Str) : ∀ l : List (Str × NameKind), (l.map fun y => (y.1, f y.1 y.2)).lookup x = (l.lookup x).map (f x)
  | [] => rfl
  | (n, k) :: r => by
    rw [List.map_cons, List.lookup_cons, List.lookup_cons]
    cases e : x == n with
    | true => simp only [Option.map_some]; rw [eq_of_beq e]
    | false => exact lookup_kmap f x r
theorem relabel_names (scope : Scope) (env : Env) : (relabel scope env).names = scope.names.map fun y => (y.1, if (y.2 == .free && env.scope.kind == .function && env.kindOf y.1 == some .cell) then .cell else y.2) := by
  unfold relabel
  simp only
  refine List.map_congr_left fun y _ => ?_
  obtain ⟨n, k⟩ := y
  simp only
  split <;> rfl
theorem relabel_free {scope : Scope} {env : Env} {x : Str} (h : (match scope.names.lookup x with
    | some .cell => true
    | some .free => true
    | _ => false) = true) : (match (relabel scope env).names.lookup x with
    | some .cell => true
    | some .free => true
    | _ => false) = true := by
  rw [relabel_names, lookup_kmap (fun n k => if (k == .free && env.scope.kind == .function && env.kindOf n == some .cell) then .cell else k)]
  cases e : scope.names.lookup x with
  | none => rw [e] at h; cases h
  | some k =>
    rw [e] at h
    simp only [Option.map_some]
    cases k <;> first
      | (cases h; done)
      | rfl
      | (split
         · rename_i q
           split at q <;> first
             | rfl
             | cases q
         · rfl
         · rename_i q1 q2
           exfalso
           revert q1 q2
           split <;> simp)
theorem blkC_relabel {N : List Str} {scope' scope : Scope} {env : Env} {own : List (Str × Nat)} (h : blkC N scope' scope own = true) : blkC N (relabel scope' env) scope own = true := by
  unfold blkC at h ⊢
  rw [Bool.and_eq_true] at h ⊢
  refine ⟨h.1, ?_⟩
  rw [List.all_eq_true] at *
  intro y hy
  have q := h.2 y hy
  split at q
  · exact relabel_free q
  · exact q
  · exact q
  · rfl
theorem blkOk_in {X : Cx} {s : Shared} {H : Hp} {scope' scope : Scope} {cl : List (Str × Addr)} {C : Addr} {fp : List Addr} {N : List Str} {own : List (Str × Nat)} (h : blkC N scope' scope own = true) :
    BlkOk N (X.blk s H scope' (compEnvC scope' cl C X.env) fp).env.scope scope own := blkOk_by (sc := relabel scope' X.env) (blkC_relabel h)
/-! ### sorted of ints -/
theorem csortedK {X : Cx} (K : PySem.W.Frag) (h : X.K = K) : CallR X (.builtin "sorted") (rSortedI K) := h ▸ cr_sortedI
theorem i_sortedI {K : PySem.W.Frag} {H : Hp} {Q : VK} {p : Addr} {ns : List Int} (h : H p = some (.lst (ns.map V.int))) (k : ∀ (ns' : List Int) r H', New H r (.lst (ns'.map V.int)) H' → ns'.Perm ns → ns'.Pairwise (· ≤ ·) → Q (.ref r) H') : rSortedI K [V.ref p] H Q :=
  ⟨p, ns, rfl, SqL.of h, fun ns' r pm sr f => k ns' r _ ⟨f, rfl⟩ pm sr⟩
/-! ### tuples -/
section
variable {K : PySem.W.Frag} {H : Hp} {Q : VK} {p : Addr} {xs : List V} {m : Nat}
theorem i_slTd (h : H p = some (.tup xs)) (hm : m ≤ xs.length) (k : ∀ r H', Same H H' → H' r = some (.tup (xs.drop m)) → Q (.ref r) H') : rSlU K (.ref p) (some (m : Int)) none H Q := by
  have e : cutV xs (some (m : Int)) none = xs.drop m := by
    unfold cutV
    rw [HT.sIx_none, HT.sIx_nat, Nat.min_eq_left hm, List.take_of_length_le (by rw [List.length_drop]; omega)]
  refine .inr ⟨p, xs, rfl, SqT.of h, fun ⟨w, _⟩ => ?_, fun _ r f => k r _ (fun b o e => by rw [upd_ne (ne_of_none e f)]; exact e) (by rw [upd_same, e])⟩
  rw [HT.sIx_nat, Nat.min_eq_left hm] at w
  exact k p H (Same.refl _) (by rw [w, List.drop_zero]; exact h)
/-- t[1:] -/
theorem i_slT1 (h : H p = some (.tup xs)) (k : ∀ r H', Same H H' → H' r = some (.tup (xs.drop 1)) → Q (.ref r) H') : rSlU K (.ref p) (some 1) none H Q := by
  have e : cutV xs (some 1) none = xs.drop 1 := by
    unfold cutV
    rw [HT.sIx_none, show HT.sIx xs.length 0 (some 1) = min 1 xs.length from HT.sIx_nat _ _ 1]
    cases xs with
    | nil => rfl
    | cons a b => simp
  refine .inr ⟨p, xs, rfl, SqT.of h, fun ⟨w, _⟩ => ?_, fun _ r f => k r _ (fun b o e => by rw [upd_ne (ne_of_none e f)]; exact e) (by rw [upd_same, e])⟩
  rw [show HT.sIx xs.length 0 (some 1) = min 1 xs.length from HT.sIx_nat _ _ 1] at w
  exact k p H (Same.refl _) (by
    have : xs.length = 0 := by omega
    rw [List.length_eq_zero_iff.mp this] at h ⊢
    exact h)
end
section
variable {K : PySem.W.Frag} {H : Hp} {a : Addr} {xs : List V} {g : TG} {tt : TT} {te : TE} {vs : List Nat} {σ : L2.St} {Q : VK}
theorem comp_tupD (G : Addr → Nat → List V → Hp → Prop) (h0 : ∀ D H', New H D (.lst []) H' → G D 0 [] H') (hl : ∀ D i acc H, i ≤ xs.length → G D i acc H → SqT K H a xs)
    (hs : ∀ D i acc x H2, H D = none → xs[i]? = some x → H2 D = some (.lst acc) → G D i acc H2 → g x (wipe σ vs) H2 fun σ2 H3 => wipe σ2 vs = wipe σ vs ∧ tt σ2 H3 fun b H4 =>
      if b = true then te σ2 H4 fun y H5 => zEnd D (G D (i + 1)) y H5 else zSkip D (G D (i + 1)) H4)
    (hd : ∀ D acc H2, H D = none → H2 D = some (.lst acc) → G D xs.length acc H2 → Q (.ref D) H2) : zComp (Itt K a) g tt te vs σ H Q := by
  refine comp_byD xs.length G h0 (fun D i acc H hi p => ⟨xs, xs[i], hl D i acc H (Nat.le_of_lt hi) p, by simp [hi]⟩) (fun D acc H p => ⟨xs, hl D _ acc H (Nat.le_refl _) p, Nat.le_refl _⟩) (fun D i acc x H2 H' fD hi hD p y => ?_) hd
  obtain ⟨e, y⟩ := y
  subst e
  exact hs D i acc x _ fD (y xs (hl D i acc _ (Nat.le_of_lt hi) p)) hD p
end
end Z
namespace Z
open PySem PySem.Spec PyProof.Rows L2
/-! ### calls of a value that is one of some defs -/
structure FAx where
  f : Addr
  n : Nat
  gV : PySem.W.Frag → List V → List V → List V
  sp : Sp
abbrev FtM (g : Prop) (X : Cx) (ks : List Str) (M : FAx) : Prop := ∃ (k : Nat) (d : He.DefD) (ps : List Str), Pr g X.prog X.w X.K X.mg X.base k M.f d ps M.sp ∧ Bd d ps M.n ks M.gV ∧ Room k X.A ∧ Gd g X.A
section
variable {g : Prop} {X : Cx} {ks : List Str}
theorem ft_nil : ∀ M ∈ ([] : List FAx), FtM g X ks M := fun _ h => by cases h
theorem ft_cons {f : Addr} {n k : Nat} {d : He.DefD} {ps : List Str} {gV : PySem.W.Frag → List V → List V → List V} {sp : Sp} {Fs : List FAx} (F : Pr g X.prog X.w X.K X.mg X.base k f d ps sp) (b : Bd d ps n ks gV) (hr : Room k X.A) (hgd : Gd g X.A)
    (r : ∀ M ∈ Fs, FtM g X ks M) : ∀ M ∈ (⟨f, n, gV, sp⟩ : FAx) :: Fs, FtM g X ks M := fun M hM => by
  rcases List.mem_cons.mp hM with rfl | hM
  · exact ⟨k, d, ps, F, b, hr, hgd⟩
  · exact r M hM
end
/-- the reading, behind the callee -/
def zV1 (K : PySem.W.Frag) (kn : Nat) (E : XK) (Fs : List FAx) (t tk : TA) (x : V) (σ : L2.St) (H1 : Hp) (Q : VK) : Prop :=
  ∃ M : FAx, M ∈ Fs ∧ x = .ref M.f ∧ t σ H1 fun vs H2 => tk σ H2 fun zs H3 => vs.length = M.n ∧ zs.length = kn ∧ M.sp (M.gV K vs zs) H3 Q E
def zV (K : PySem.W.Frag) (kn : Nat) (E : XK) (Fs : List FAx) (tf : TE) (t tk : TA) : TE := fun σ H Q => tf σ H fun x H1 => zV1 K kn E Fs t tk x σ H1 Q
section
variable {g : Prop} {X : Cx} {ks : List Str} {Fs : List FAx} {E : XK} {o e : Expr} {es : List Expr} {kws : List Keyword} {tf : TE} {t tk : TA} {pos : Pos}
theorem pe_V (K : PySem.W.Frag) (hK : X.K = K) (hF : ∀ M ∈ Fs, FtM g X [] M) (hx : Passes (L2.CX X.prog X.w) X E) (he : PE X o tf) (ha : PA X (e :: es) t)
    (hst : starEach (e :: es) X.env = (false, eval e X.env) :: starEach es X.env := by rfl) (hpl : (backTo pos (starEach es X.env)).any (·.1) = false := by rfl)
    (ht : eval (.Call o (e :: es) [] pos) X.env = (do callWith pos (← eval o X.env) [] (backTo pos (starEach (e :: es) X.env)) (backToKw pos (keywordEach [] X.env))) := by rfl) :
    PE X (.Call o (e :: es) [] pos) (zV K 0 E Fs tf t tNil) := by
  subst hK
  refine ⟨fun pins s σ H Q I h => ?_⟩
  refine Call_ (thn (he.run pins s σ H _ I h) fun u s1 ⟨x, H1, I1, rx, M, hm, ex, q⟩ => ?_) ht
  subst ex
  obtain rfl : u = Value.ref M.f := rx
  obtain ⟨k, d, ps, F, hb, hr, hgd⟩ := hF M hm
  obtain ⟨fd, FD, OK⟩ := F.ex
  obtain ⟨gg, B⟩ := hb _ _ _ FD
  refine PySem.W.callWith_K (h₀ := X.base) I.ok.mod.kin FD.kp ?_ hst hpl
  refine thn (ha.run pos pins s1 σ H1 _ I1 q) fun us s2 ⟨vs, H2, I2, r, l1, l2, q2⟩ => ⟨I2.kIn, ?_⟩
  exact run_g (ws := []) (zs := []) (ks := []) OK hr hgd B hx I2 r .nil l1 l2 q2
end
section
variable {K : PySem.W.Frag} {kn : Nat} {E : XK} {Fs : List FAx} {tf : TE} {t tk : TA} {σ : L2.St} {H : Hp} {Q : VK} {f : Addr}
theorem i_V (h : tf σ H fun x H1 => zV1 K kn E Fs t tk x σ H1 Q) : zV K kn E Fs tf t tk σ H Q := h
theorem i_Vi (i : Nat) {M : FAx} (hi : Fs[i]? = some M) (q : t σ H fun vs H2 => tk σ H2 fun zs H3 => vs.length = M.n ∧ zs.length = kn ∧ M.sp (M.gV K vs zs) H3 Q E) : zV1 K kn E Fs t tk (.ref M.f) σ H Q :=
  ⟨M, List.mem_of_getElem? hi, rfl, q⟩
end
end Z

/-! Z: what is raised: calls that let it out, raise, try .. except. -/
namespace Z
open PySem PySem.Spec PyProof.Rows L2
def zCallS (K : PySem.W.Frag) (n m : Nat) (gV : PySem.W.Frag → List V → List V → List V) (sp : Sp) (W : WX) (t tk : TA) : TE := fun σ H Q =>
  t σ H fun vs H1 => tk σ H1 fun zs H2 => vs.length = n ∧ zs.length = m ∧ sp (gV K vs zs) H2 Q (WE W σ)
def zMakeS (K : PySem.W.Frag) (C : Addr) (n m : Nat) (gV : PySem.W.Frag → List V → List V → List V) (sp : Sp) (W : WX) (t tk : TA) : TE := fun σ H Q =>
  t σ H fun vs H1 => tk σ H1 fun zs H2 => vs.length + 1 = n ∧ zs.length = m ∧ ∀ x dx, H2 x = none → H2 dx = none → dx ≠ x →
    sp (gV K (.ref x :: vs) zs) (upd (upd H2 dx (.own x)) x (.ins C dx [])) (fun v H3 => v = .non ∧ Q (.ref x) H3) (WE W σ)
def zM1S (K : PySem.W.Frag) (m : Str) (kn : Nat) (W : WX) (Ms : List MA) (t tk : TA) (x : V) (σ : L2.St) (H1 : Hp) (Q : VK) : Prop :=
  ∃ (M : MA) (a dx : Addr) (fs : List (Str × V)), M ∈ Ms ∧ x = .ref a ∧ H1 a = some (.ins M.C dx fs) ∧ fs.lookup m = none ∧ t σ H1 fun vs H2 => tk σ H2 fun zs H3 => (V.ref a :: vs).length = M.n ∧ zs.length = kn ∧ M.sp (M.gV K (.ref a :: vs) zs) H3 Q (WE W σ)
def zMS (K : PySem.W.Frag) (m : Str) (kn : Nat) (W : WX) (Ms : List MA) (ta : TE) (t tk : TA) : TE := fun σ H Q => ta σ H fun x H1 => zM1S K m kn W Ms t tk x σ H1 Q
def zV1S (K : PySem.W.Frag) (kn : Nat) (W : WX) (Fs : List FAx) (t tk : TA) (x : V) (σ : L2.St) (H1 : Hp) (Q : VK) : Prop :=
  ∃ M : FAx, M ∈ Fs ∧ x = .ref M.f ∧ t σ H1 fun vs H2 => tk σ H2 fun zs H3 => vs.length = M.n ∧ zs.length = kn ∧ M.sp (M.gV K vs zs) H3 Q (WE W σ)
def zVS (K : PySem.W.Frag) (kn : Nat) (W : WX) (Fs : List FAx) (tf : TE) (t tk : TA) : TE := fun σ H Q => tf σ H fun x H1 => zV1S K kn W Fs t tk x σ H1 Q
section
variable {X : Cx} {g : Prop} {k n : Nat} {f C : Addr} {d : He.DefD} {ps ks : List Str} {gV : PySem.W.Frag → List V → List V → List V} {sp : Sp} {E : XK} {W : WX} {x m : Str} {p pos apos : Pos} {e o : Expr} {es : List Expr} {kws : List Keyword} {ta tf : TE} {t tk : TA} {Ms : List MA} {Fs : List FAx}
theorem run_gS {fd : FuncData} {gg : List Value → List Value → List Value} {gW : List V → List V → List V} {pins : List (Addr × Obj)} {σ : L2.St} {H : Hp} {s : Shared} {Q : VK} {us ws : List Value} {vs zs : List V}
    (F : FnG g X.prog X.w X.K X.mg X.base k f fd ps sp) (hr : Room k X.A) (hgd : Gd g X.A) (hb : KBn X.K fd ps n ks gg gW) (hx : PassesAt (L2.CX X.prog X.w) X σ E)
    (I : Inv X pins σ H s) (r : Vals vs us) (rz : Vals zs ws) (l1 : vs.length = n) (l2 : zs.length = ks.length) (h : sp (gW vs zs) H Q E) :
    wpAny (model X.prog X.w) X.A (call (.ref f) us (ks.zip ws)) (EP X pins σ Q) X.xe s := by
  refine wpAny_call (codeAny_mono (F.run X.A X.stack s H ⟨us, ks.zip ws⟩ (gg us ws) (gW vs zs) Q E hr hgd I.env0 (hb.to s us ws I.kIn (r.length.symm.trans l1) (rz.length.symm.trans l2)) (hb.rel r rz) h) fun z s' hq => ?_)
  match z, hq with
  | .error e, hq => exact hx pins H s e s' I hq
  | .ok (.ret u), hq => exact I.after hq
  | .ok .next, hq => exact False.elim hq
  | .ok .brk, hq => exact False.elim hq
  | .ok .cont, hq => exact False.elim hq

theorem pe_fkS (F : Pr g X.prog X.w X.K X.mg X.base k f d ps sp) (hr : Room k X.A) (hgd : Gd g X.A) (hg : Gl X x) (hm : X.mg x = some (.ref f)) (hb : Bd d ps n ks gV) (hx : Takes X W)
    (ha : PA X (e :: es) t) (hkw : PK X kws tk) (hall : (backToKw pos (keywordEach kws X.env)).all (·.1.isSome) = true := by rfl)
    (hks : (backToKw pos (keywordEach kws X.env)).filterMap (·.1) = ks := by rfl) (hdb : (x == ("__debug__" : Str)) = false := by decide)
    (he : starEach (e :: es) X.env = (false, eval e X.env) :: starEach es X.env := by rfl)
    (hpl : ((backTo pos (starEach (e :: es) X.env)).any (·.1) || (backToKw pos (keywordEach kws X.env)).any (·.1.isNone)) = false := by rfl) :
    PE X (.Call (.Name x p) (e :: es) kws pos) (zCallS X.K n ks.length gV sp W t tk) := by
  obtain ⟨fd, FD, OK⟩ := F.ex
  obtain ⟨gg, B⟩ := hb _ _ _ FD
  refine ⟨fun pins s σ H Q I h => ?_⟩
  refine wpAny_Call_Name_kw (ld_glob I hg hm ?_ hdb)
  refine PySem.W.callWith_KW (h₀ := X.base) I.ok.mod.kin FD.kp hall ?_ hpl he
  refine thn (ha.run pos pins s σ H _ I h) fun us s1 ⟨vs, H1, I1, r, q⟩ => ?_
  refine thn (hkw.run pos pins s1 σ H1 _ I1 q) fun ws s2 ⟨zs, H2, I2, rz, l1, l2, q2⟩ => ⟨I2.kIn, ?_⟩
  rw [hks]
  exact run_gS OK hr hgd B (passAt hx _) I2 r rz l1 l2 q2
theorem pe_fk0S (F : Pr g X.prog X.w X.K X.mg X.base k f d ps sp) (hr : Room k X.A) (hgd : Gd g X.A) (hg : Gl X x) (hm : X.mg x = some (.ref f)) (hb : Bd d ps n ks gV) (hx : Takes X W)
    (hkw : PK X kws tk) (hall : (backToKw pos (keywordEach kws X.env)).all (·.1.isSome) = true := by rfl)
    (hks : (backToKw pos (keywordEach kws X.env)).filterMap (·.1) = ks := by rfl) (hdb : (x == ("__debug__" : Str)) = false := by decide)
    (hpl : ((backTo pos (starEach [] X.env)).any (·.1) || (backToKw pos (keywordEach kws X.env)).any (·.1.isNone)) = false := by rfl) :
    PE X (.Call (.Name x p) [] kws pos) (zCallS X.K n ks.length gV sp W tNil tk) := by
  obtain ⟨fd, FD, OK⟩ := F.ex
  obtain ⟨gg, B⟩ := hb _ _ _ FD
  refine ⟨fun pins s σ H Q I h => ?_⟩
  refine wpAny_Call_Name_kw (ld_glob I hg hm ?_ hdb)
  refine PySem.W.callWith_KW0 (h₀ := X.base) I.ok.mod.kin FD.kp hall ?_ hpl
  refine thn (hkw.run pos pins s σ H _ I h) fun ws s2 ⟨zs, H2, I2, rz, l1, l2, q2⟩ => ⟨I2.kIn, ?_⟩
  rw [hks]
  exact run_gS (us := []) (vs := []) OK hr hgd B (passAt hx _) I2 .nil rz l1 l2 q2
theorem pe_fS (F : Pr g X.prog X.w X.K X.mg X.base k f d ps sp) (hr : Room k X.A) (hgd : Gd g X.A) (hg : Gl X x) (hm : X.mg x = some (.ref f)) (hb : Bd d ps n [] gV) (hx : Takes X W)
    (ha : PA X (e :: es) t) (hdb : (x == ("__debug__" : Str)) = false := by decide) (he : starEach (e :: es) X.env = (false, eval e X.env) :: starEach es X.env := by rfl)
    (hpl : (backTo pos (starEach es X.env)).any (·.1) = false := by rfl) : PE X (.Call (.Name x p) (e :: es) [] pos) (zCallS X.K n 0 gV sp W t tNil) := by
  obtain ⟨fd, FD, OK⟩ := F.ex
  obtain ⟨gg, B⟩ := hb _ _ _ FD
  refine ⟨fun pins s σ H Q I h => ?_⟩
  refine wpAny_Call_Name_kw (ld_glob I hg hm ?_ hdb)
  refine PySem.W.callWith_K (h₀ := X.base) I.ok.mod.kin FD.kp ?_ he hpl
  refine thn (ha.run pos pins s σ H _ I h) fun us s1 ⟨vs, H1, I1, r, l1, l2, q⟩ => ⟨I1.kIn, ?_⟩
  exact run_gS (ws := []) (zs := []) (ks := []) OK hr hgd B (passAt hx _) I1 r .nil l1 l2 q
theorem pe_f0S (F : Pr g X.prog X.w X.K X.mg X.base k f d ps sp) (hr : Room k X.A) (hgd : Gd g X.A) (hg : Gl X x) (hm : X.mg x = some (.ref f)) (hb : Bd d ps n [] gV) (hx : Takes X W)
    (hdb : (x == ("__debug__" : Str)) = false := by decide) : PE X (.Call (.Name x p) [] [] pos) (zCallS X.K n 0 gV sp W tNil tNil) := by
  obtain ⟨fd, FD, OK⟩ := F.ex
  obtain ⟨gg, B⟩ := hb _ _ _ FD
  refine ⟨fun pins s σ H Q I ⟨l1, l2, q⟩ => ?_⟩
  refine wpAny_Call_Name_kw (ld_glob I hg hm ?_ hdb)
  exact PySem.W.callWith_K0 I.kIn FD.kp (run_gS (us := []) (vs := []) (ws := []) (zs := []) (ks := []) OK hr hgd B (passAt hx _) I .nil .nil l1 l2 q)

theorem run_mkS {fd : FuncData} {gg : List Value → List Value → List Value} {gW : List V → List V → List V} {pins : List (Addr × Obj)} {σ : L2.St} {H : Hp} {s : Shared} {Q : VK} {us ws : List Value} {vs zs : List V}
    (M : L2.Mk X.K C f) (F : FnG g X.prog X.w X.K X.mg X.base k f fd ps sp) (hr : Room (k + 1) X.A) (hgd : Gd g X.A) (hb : KBn X.K fd ps n ks gg gW) (hx : PassesAt (L2.CX X.prog X.w) X σ E)
    (I : Inv X pins σ H s) (r : Vals vs us) (rz : Vals zs ws) (l1 : vs.length + 1 = n) (l2 : zs.length = ks.length)
    (h : ∀ x dx, H x = none → H dx = none → dx ≠ x → sp (gW (.ref x :: vs) zs) (upd (upd H dx (.own x)) x (.ins C dx [])) (fun v H2 => v = .non ∧ Q (.ref x) H2) E) :
    wpAny (model X.prog X.w) X.A (call (.ref C) us (ks.zip ws)) (EP X pins σ Q) X.xe s := by
  have q0 := h (s.heap.objs.size + 1) s.heap.objs.size (I.hok.fresh (Nat.le_succ _)) (I.hok.fresh (Nat.le_refl _)) (Nat.ne_of_lt (Nat.lt_succ_self _))
  have J := Inv.made (C := C) I
  have rs : Vals (V.ref (s.heap.objs.size + 1) :: vs) (Value.ref (s.heap.objs.size + 1) :: us) := .cons rfl r
  have ln : (Value.ref (s.heap.objs.size + 1) :: us).length = n := by rw [List.length_cons, ← r.length]; exact l1
  refine wpAny_call (make_map (f := f) I.kIn M.makes M.init (beq_iff_eq.mp M.fn) (codeAny_mono (F.run _ X.stack _ _ ⟨Value.ref (s.heap.objs.size + 1) :: us, ks.zip ws⟩ (gg (Value.ref (s.heap.objs.size + 1) :: us) ws) _ _ E
    (hr.make C us (ks.zip ws)) (hgd.make C us (ks.zip ws)) (J.env0.make C us (ks.zip ws)) (hb.to _ (Value.ref (s.heap.objs.size + 1) :: us) ws J.kIn ln (rz.length.symm.trans l2)) (hb.rel rs rz) q0) fun z s' hq => ?_))
  match z, hq with
  | .error e, hq => exact hx pins _ _ e s' J hq
  | .ok (.ret u), hq =>
    obtain ⟨v, H', I3, rv, ev, q3⟩ := J.after hq
    subst ev
    exact ⟨rv, ⟨V.ref (s.heap.objs.size + 1), H', I3, rfl, q3⟩⟩
  | .ok .next, hq => exact False.elim hq
  | .ok .brk, hq => exact False.elim hq
  | .ok .cont, hq => exact False.elim hq
section
variable (M : L2.Mk X.K C f) (F : Pr g X.prog X.w X.K X.mg X.base k f d ps sp) (hr : Room (k + 1) X.A) (hgd : Gd g X.A) (hg : Gl X x) (hm : X.mg x = some (.ref C)) (hx : Takes X W)
include M F hr hgd hg hm hx
theorem pe_newS (hb : Bd d ps n [] gV) (ha : PA X (e :: es) t) (hdb : (x == ("__debug__" : Str)) = false := by decide) (he : starEach (e :: es) X.env = (false, eval e X.env) :: starEach es X.env := by rfl)
    (hpl : (backTo pos (starEach es X.env)).any (·.1) = false := by rfl) : PE X (.Call (.Name x p) (e :: es) [] pos) (zMakeS X.K C n 0 gV sp W t tNil) := by
  obtain ⟨fd, FD, OK⟩ := F.ex
  obtain ⟨gg, B⟩ := hb _ _ _ FD
  refine ⟨fun pins s σ H Q I h => ?_⟩
  refine wpAny_Call_Name_kw (ld_glob I hg hm ?_ hdb)
  refine PySem.W.callWith_K (h₀ := X.base) I.ok.mod.kin M.kp ?_ he hpl
  refine thn (ha.run pos pins s σ H _ I h) fun us s1 ⟨vs, H1, I1, r, l1, l2, q⟩ => ⟨I1.kIn, ?_⟩
  exact run_mkS (ws := []) (zs := []) (ks := []) M OK hr hgd B (passAt hx _) I1 r .nil l1 l2 q
theorem pe_new0S (hb : Bd d ps n [] gV) (hdb : (x == ("__debug__" : Str)) = false := by decide) : PE X (.Call (.Name x p) [] [] pos) (zMakeS X.K C n 0 gV sp W tNil tNil) := by
  obtain ⟨fd, FD, OK⟩ := F.ex
  obtain ⟨gg, B⟩ := hb _ _ _ FD
  refine ⟨fun pins s σ H Q I ⟨l1, l2, q⟩ => ?_⟩
  refine wpAny_Call_Name_kw (ld_glob I hg hm ?_ hdb)
  exact PySem.W.callWith_K0 I.kIn M.kp (run_mkS (us := []) (vs := []) (ws := []) (zs := []) (ks := []) M OK hr hgd B (passAt hx _) I .nil .nil l1 l2 q)
theorem pe_newkS (hb : Bd d ps n ks gV) (ha : PA X (e :: es) t) (hkw : PK X kws tk)
    (hall : (backToKw pos (keywordEach kws X.env)).all (·.1.isSome) = true := by rfl) (hks : (backToKw pos (keywordEach kws X.env)).filterMap (·.1) = ks := by rfl) (hdb : (x == ("__debug__" : Str)) = false := by decide)
    (he : starEach (e :: es) X.env = (false, eval e X.env) :: starEach es X.env := by rfl)
    (hpl : ((backTo pos (starEach (e :: es) X.env)).any (·.1) || (backToKw pos (keywordEach kws X.env)).any (·.1.isNone)) = false := by rfl) :
    PE X (.Call (.Name x p) (e :: es) kws pos) (zMakeS X.K C n ks.length gV sp W t tk) := by
  obtain ⟨fd, FD, OK⟩ := F.ex
  obtain ⟨gg, B⟩ := hb _ _ _ FD
  refine ⟨fun pins s σ H Q I h => ?_⟩
  refine wpAny_Call_Name_kw (ld_glob I hg hm ?_ hdb)
  refine PySem.W.callWith_KW (h₀ := X.base) I.ok.mod.kin M.kp hall ?_ hpl he
  refine thn (ha.run pos pins s σ H _ I h) fun us s1 ⟨vs, H1, I1, r, q⟩ => ?_
  refine thn (hkw.run pos pins s1 σ H1 _ I1 q) fun ws s2 ⟨zs, H2, I2, rz, l1, l2, q2⟩ => ⟨I2.kIn, ?_⟩
  rw [hks]
  exact run_mkS M OK hr hgd B (passAt hx _) I2 r rz l1 l2 q2
theorem pe_newk0S (hb : Bd d ps n ks gV) (hkw : PK X kws tk)
    (hall : (backToKw pos (keywordEach kws X.env)).all (·.1.isSome) = true := by rfl) (hks : (backToKw pos (keywordEach kws X.env)).filterMap (·.1) = ks := by rfl) (hdb : (x == ("__debug__" : Str)) = false := by decide)
    (hpl : ((backTo pos (starEach [] X.env)).any (·.1) || (backToKw pos (keywordEach kws X.env)).any (·.1.isNone)) = false := by rfl) :
    PE X (.Call (.Name x p) [] kws pos) (zMakeS X.K C n ks.length gV sp W tNil tk) := by
  obtain ⟨fd, FD, OK⟩ := F.ex
  obtain ⟨gg, B⟩ := hb _ _ _ FD
  refine ⟨fun pins s σ H Q I h => ?_⟩
  refine wpAny_Call_Name_kw (ld_glob I hg hm ?_ hdb)
  refine PySem.W.callWith_KW0 (h₀ := X.base) I.ok.mod.kin M.kp hall ?_ hpl
  refine thn (hkw.run pos pins s σ H _ I h) fun ws s2 ⟨zs, H2, I2, rz, l1, l2, q2⟩ => ⟨I2.kIn, ?_⟩
  rw [hks]
  exact run_mkS (us := []) (vs := []) M OK hr hgd B (passAt hx _) I2 .nil rz l1 l2 q2
end
theorem pe_MS {pl : Sem Bool} (hM : ∀ M ∈ Ms, MtM g X m [] M) (hx : Takes X W) (he : PE X o ta) (ha : PA X (e :: es) t)
    (hst : starEach (e :: es) X.env = (false, eval e X.env) :: starEach es X.env := by rfl) (hpl : (backTo pos (starEach es X.env)).any (·.1) = false := by rfl)
    (ht : eval (.Call (.Attribute o m apos) (e :: es) [] pos) X.env = (do
      let ov ← eval o X.env; standAt apos.atName
      let (f, first) ← holding [ov] (getMethod ov m pl); callWith pos f first (backTo pos (starEach (e :: es) X.env)) (backToKw pos (keywordEach [] X.env))) := by rfl) :
    PE X (.Call (.Attribute o m apos) (e :: es) [] pos) (zMS X.K m 0 W Ms ta t tNil) := by
  refine ⟨fun pins s σ H Q I h => ?_⟩
  refine PySem.W.methodCall_KW (pl := pl) (thn (he.run pins s σ H _ I h) fun u s1 ⟨x, H1, I1, rx, M, a, dx, fs, hm0, ex, ea, l, q⟩ => ?_) ht
  subst ex
  obtain rfl : u = Value.ref a := rx
  have M1 := hM M hm0
  obtain ⟨k, f, d, ps, hm, F, hb, hr, hgd⟩ := M1.ex
  obtain ⟨fd, FD, OK⟩ := F.ex
  obtain ⟨gg, B⟩ := hb _ _ _ FD
  refine getmeth_ok I1 ea M1.cl hm l ?_
  refine PySem.W.callWith_K (first := [.ref a]) (h₀ := X.base) I.ok.mod.kin hm.kp ?_ hst hpl
  refine thn (ha.run pos pins s1 σ H1 _ I1 q) fun us s2 ⟨vs, H2, I2, r, l1, l2, q2⟩ => ⟨I2.kIn, ?_⟩
  exact run_gS (us := .ref a :: us) (vs := .ref a :: vs) (ws := []) (zs := []) (ks := []) OK hr hgd B (passAt hx _) I2 (.cons rfl r) .nil l1 l2 q2
theorem pe_M0S {pl : Sem Bool} (hM : ∀ M ∈ Ms, MtM g X m [] M) (hx : Takes X W) (he : PE X o ta)
    (ht : eval (.Call (.Attribute o m apos) [] [] pos) X.env = (do
      let ov ← eval o X.env; standAt apos.atName
      let (f, first) ← holding [ov] (getMethod ov m pl); callWith pos f first (backTo pos (starEach [] X.env)) (backToKw pos (keywordEach [] X.env))) := by rfl) :
    PE X (.Call (.Attribute o m apos) [] [] pos) (zMS X.K m 0 W Ms ta tNil tNil) := by
  refine ⟨fun pins s σ H Q I h => ?_⟩
  refine PySem.W.methodCall_KW (pl := pl) (thn (he.run pins s σ H _ I h) fun u s1 ⟨x, H1, I1, rx, M, a, dx, fs, hm0, ex, ea, l, l1, l2, q⟩ => ?_) ht
  subst ex
  obtain rfl : u = Value.ref a := rx
  have M1 := hM M hm0
  obtain ⟨k, f, d, ps, hm, F, hb, hr, hgd⟩ := M1.ex
  obtain ⟨fd, FD, OK⟩ := F.ex
  obtain ⟨gg, B⟩ := hb _ _ _ FD
  refine getmeth_ok I1 ea M1.cl hm l ?_
  exact PySem.W.callWith_K0 (first := [.ref a]) I1.kIn hm.kp (run_gS (us := [.ref a]) (vs := [.ref a]) (ws := []) (zs := []) (ks := []) OK hr hgd B (passAt hx _) I1 (.cons rfl .nil) .nil l1 l2 q)
theorem pe_MkS {pl : Sem Bool} (hM : ∀ M ∈ Ms, MtM g X m ks M) (hx : Takes X W) (he : PE X o ta) (ha : PA X (e :: es) t) (hkw : PK X kws tk)
    (hall : (backToKw pos (keywordEach kws X.env)).all (·.1.isSome) = true := by rfl) (hks : (backToKw pos (keywordEach kws X.env)).filterMap (·.1) = ks := by rfl)
    (hst : starEach (e :: es) X.env = (false, eval e X.env) :: starEach es X.env := by rfl)
    (hpl : ((backTo pos (starEach (e :: es) X.env)).any (·.1) || (backToKw pos (keywordEach kws X.env)).any (·.1.isNone)) = false := by rfl)
    (ht : eval (.Call (.Attribute o m apos) (e :: es) kws pos) X.env = (do
      let ov ← eval o X.env; standAt apos.atName
      let (f, first) ← holding [ov] (getMethod ov m pl); callWith pos f first (backTo pos (starEach (e :: es) X.env)) (backToKw pos (keywordEach kws X.env))) := by rfl) :
    PE X (.Call (.Attribute o m apos) (e :: es) kws pos) (zMS X.K m ks.length W Ms ta t tk) := by
  refine ⟨fun pins s σ H Q I h => ?_⟩
  refine PySem.W.methodCall_KW (pl := pl) (thn (he.run pins s σ H _ I h) fun u s1 ⟨x, H1, I1, rx, M, a, dx, fs, hm0, ex, ea, l, q⟩ => ?_) ht
  subst ex
  obtain rfl : u = Value.ref a := rx
  have M1 := hM M hm0
  obtain ⟨k, f, d, ps, hm, F, hb, hr, hgd⟩ := M1.ex
  obtain ⟨fd, FD, OK⟩ := F.ex
  obtain ⟨gg, B⟩ := hb _ _ _ FD
  refine getmeth_ok I1 ea M1.cl hm l ?_
  refine PySem.W.callWith_KW (first := [.ref a]) (h₀ := X.base) I.ok.mod.kin hm.kp hall ?_ hpl hst
  refine thn (ha.run pos pins s1 σ H1 _ I1 q) fun us s2 ⟨vs, H2, I2, r, q2⟩ => ?_
  refine thn (hkw.run pos pins s2 σ H2 _ I2 q2) fun ws s3 ⟨zs, H3, I3, rz, l1, l2, q3⟩ => ⟨I3.kIn, ?_⟩
  rw [hks]
  exact run_gS (us := .ref a :: us) (vs := .ref a :: vs) OK hr hgd B (passAt hx _) I3 (.cons rfl r) rz l1 l2 q3
theorem pe_Mk0S {pl : Sem Bool} (hM : ∀ M ∈ Ms, MtM g X m ks M) (hx : Takes X W) (he : PE X o ta) (hkw : PK X kws tk)
    (hall : (backToKw pos (keywordEach kws X.env)).all (·.1.isSome) = true := by rfl) (hks : (backToKw pos (keywordEach kws X.env)).filterMap (·.1) = ks := by rfl)
    (hpl : ((backTo pos (starEach [] X.env)).any (·.1) || (backToKw pos (keywordEach kws X.env)).any (·.1.isNone)) = false := by rfl)
    (ht : eval (.Call (.Attribute o m apos) [] kws pos) X.env = (do
      let ov ← eval o X.env; standAt apos.atName
      let (f, first) ← holding [ov] (getMethod ov m pl); callWith pos f first (backTo pos (starEach [] X.env)) (backToKw pos (keywordEach kws X.env))) := by rfl) :
    PE X (.Call (.Attribute o m apos) [] kws pos) (zMS X.K m ks.length W Ms ta tNil tk) := by
  refine ⟨fun pins s σ H Q I h => ?_⟩
  refine PySem.W.methodCall_KW (pl := pl) (thn (he.run pins s σ H _ I h) fun u s1 ⟨x, H1, I1, rx, M, a, dx, fs, hm0, ex, ea, l, q⟩ => ?_) ht
  subst ex
  obtain rfl : u = Value.ref a := rx
  have M1 := hM M hm0
  obtain ⟨k, f, d, ps, hm, F, hb, hr, hgd⟩ := M1.ex
  obtain ⟨fd, FD, OK⟩ := F.ex
  obtain ⟨gg, B⟩ := hb _ _ _ FD
  refine getmeth_ok I1 ea M1.cl hm l ?_
  refine PySem.W.callWith_KW0 (first := [.ref a]) (h₀ := X.base) I.ok.mod.kin hm.kp hall ?_ hpl
  refine thn (hkw.run pos pins s1 σ H1 _ I1 q) fun ws s3 ⟨zs, H3, I3, rz, l1, l2, q3⟩ => ⟨I3.kIn, ?_⟩
  rw [hks]
  exact run_gS (us := [.ref a]) (vs := [.ref a]) OK hr hgd B (passAt hx _) I3 (.cons rfl .nil) rz l1 l2 q3

theorem pe_MKS {pl : Sem Bool} (K : PySem.W.Frag) (h : X.K = K) (hM : ∀ M ∈ Ms, MtM g X m [] M) (hx : Takes X W) (he : PE X o ta) (ha : PA X (e :: es) t)
    (hst : starEach (e :: es) X.env = (false, eval e X.env) :: starEach es X.env := by rfl) (hpl : (backTo pos (starEach es X.env)).any (·.1) = false := by rfl)
    (ht : eval (.Call (.Attribute o m apos) (e :: es) [] pos) X.env = (do
      let ov ← eval o X.env; standAt apos.atName
      let (f, first) ← holding [ov] (getMethod ov m pl); callWith pos f first (backTo pos (starEach (e :: es) X.env)) (backToKw pos (keywordEach [] X.env))) := by rfl) :
    PE X (.Call (.Attribute o m apos) (e :: es) [] pos) (zMS K m 0 W Ms ta t tNil) := h ▸ pe_MS hM hx he ha hst hpl ht
theorem pe_M0KS {pl : Sem Bool} (K : PySem.W.Frag) (h : X.K = K) (hM : ∀ M ∈ Ms, MtM g X m [] M) (hx : Takes X W) (he : PE X o ta)
    (ht : eval (.Call (.Attribute o m apos) [] [] pos) X.env = (do
      let ov ← eval o X.env; standAt apos.atName
      let (f, first) ← holding [ov] (getMethod ov m pl); callWith pos f first (backTo pos (starEach [] X.env)) (backToKw pos (keywordEach [] X.env))) := by rfl) :
    PE X (.Call (.Attribute o m apos) [] [] pos) (zMS K m 0 W Ms ta tNil tNil) := h ▸ pe_M0S hM hx he ht
theorem pe_MkKS {pl : Sem Bool} (K : PySem.W.Frag) (h : X.K = K) (hM : ∀ M ∈ Ms, MtM g X m ks M) (hx : Takes X W) (he : PE X o ta) (ha : PA X (e :: es) t) (hkw : PK X kws tk)
    (hall : (backToKw pos (keywordEach kws X.env)).all (·.1.isSome) = true := by rfl) (hks : (backToKw pos (keywordEach kws X.env)).filterMap (·.1) = ks := by rfl)
    (hst : starEach (e :: es) X.env = (false, eval e X.env) :: starEach es X.env := by rfl)
    (hpl : ((backTo pos (starEach (e :: es) X.env)).any (·.1) || (backToKw pos (keywordEach kws X.env)).any (·.1.isNone)) = false := by rfl)
    (ht : eval (.Call (.Attribute o m apos) (e :: es) kws pos) X.env = (do
      let ov ← eval o X.env; standAt apos.atName
      let (f, first) ← holding [ov] (getMethod ov m pl); callWith pos f first (backTo pos (starEach (e :: es) X.env)) (backToKw pos (keywordEach kws X.env))) := by rfl) :
    PE X (.Call (.Attribute o m apos) (e :: es) kws pos) (zMS K m ks.length W Ms ta t tk) := h ▸ pe_MkS hM hx he ha hkw hall hks hst hpl ht
theorem pe_Mk0KS {pl : Sem Bool} (K : PySem.W.Frag) (h : X.K = K) (hM : ∀ M ∈ Ms, MtM g X m ks M) (hx : Takes X W) (he : PE X o ta) (hkw : PK X kws tk)
    (hall : (backToKw pos (keywordEach kws X.env)).all (·.1.isSome) = true := by rfl) (hks : (backToKw pos (keywordEach kws X.env)).filterMap (·.1) = ks := by rfl)
    (hpl : ((backTo pos (starEach [] X.env)).any (·.1) || (backToKw pos (keywordEach kws X.env)).any (·.1.isNone)) = false := by rfl)
    (ht : eval (.Call (.Attribute o m apos) [] kws pos) X.env = (do
      let ov ← eval o X.env; standAt apos.atName
      let (f, first) ← holding [ov] (getMethod ov m pl); callWith pos f first (backTo pos (starEach [] X.env)) (backToKw pos (keywordEach kws X.env))) := by rfl) :
    PE X (.Call (.Attribute o m apos) [] kws pos) (zMS K m ks.length W Ms ta tNil tk) := h ▸ pe_Mk0S hM hx he hkw hall hks hpl ht

theorem pe_VS (K : PySem.W.Frag) (hK : X.K = K) (hF : ∀ M ∈ Fs, FtM g X [] M) (hx : Takes X W) (he : PE X o tf) (ha : PA X (e :: es) t)
    (hst : starEach (e :: es) X.env = (false, eval e X.env) :: starEach es X.env := by rfl) (hpl : (backTo pos (starEach es X.env)).any (·.1) = false := by rfl)
    (ht : eval (.Call o (e :: es) [] pos) X.env = (do callWith pos (← eval o X.env) [] (backTo pos (starEach (e :: es) X.env)) (backToKw pos (keywordEach [] X.env))) := by rfl) :
    PE X (.Call o (e :: es) [] pos) (zVS K 0 W Fs tf t tNil) := by
  subst hK
  refine ⟨fun pins s σ H Q I h => ?_⟩
  refine Call_ (thn (he.run pins s σ H _ I h) fun u s1 ⟨x, H1, I1, rx, M, hm, ex, q⟩ => ?_) ht
  subst ex
  obtain rfl : u = Value.ref M.f := rx
  obtain ⟨k, d, ps, F, hb, hr, hgd⟩ := hF M hm
  obtain ⟨fd, FD, OK⟩ := F.ex
  obtain ⟨gg, B⟩ := hb _ _ _ FD
  refine PySem.W.callWith_K (h₀ := X.base) I.ok.mod.kin FD.kp ?_ hst hpl
  refine thn (ha.run pos pins s1 σ H1 _ I1 q) fun us s2 ⟨vs, H2, I2, r, l1, l2, q2⟩ => ⟨I2.kIn, ?_⟩
  exact run_gS (ws := []) (zs := []) (ks := []) OK hr hgd B (passAt hx _) I2 r .nil l1 l2 q2
end
/-! readings -/
section
variable {K : PySem.W.Frag} {m : Str} {n kn mn : Nat} {gV : PySem.W.Frag → List V → List V → List V} {sp : Sp} {W : WX} {Ms : List MA} {Fs : List FAx} {ta tf : TE} {t tk : TA} {σ : L2.St} {H : Hp} {Q : VK} {a dx C f : Addr} {fs : List (Str × V)}
theorem i_callS (h : t σ H fun vs H1 => tk σ H1 fun zs H2 => vs.length = n ∧ zs.length = mn ∧ sp (gV K vs zs) H2 Q (WE W σ)) : zCallS K n mn gV sp W t tk σ H Q := h
theorem i_MS (h : ta σ H fun x H1 => zM1S K m kn W Ms t tk x σ H1 Q) : zMS K m kn W Ms ta t tk σ H Q := h
theorem i_MiS (i : Nat) {M : MA} (h : H a = some (.ins M.C dx fs)) (l : fs.lookup m = none) (hi : Ms[i]? = some M)
    (q : t σ H fun vs H2 => tk σ H2 fun zs H3 => (V.ref a :: vs).length = M.n ∧ zs.length = kn ∧ M.sp (M.gV K (.ref a :: vs) zs) H3 Q (WE W σ)) : zM1S K m kn W Ms t tk (.ref a) σ H Q :=
  ⟨M, a, dx, fs, List.mem_of_getElem? hi, rfl, h, l, q⟩
theorem i_VS (h : tf σ H fun x H1 => zV1S K kn W Fs t tk x σ H1 Q) : zVS K kn W Fs tf t tk σ H Q := h
theorem i_ViS (i : Nat) {M : FAx} (hi : Fs[i]? = some M) (q : t σ H fun vs H2 => tk σ H2 fun zs H3 => vs.length = M.n ∧ zs.length = kn ∧ M.sp (M.gV K vs zs) H3 Q (WE W σ)) : zV1S K kn W Fs t tk (.ref M.f) σ H Q :=
  ⟨M, List.mem_of_getElem? hi, rfl, q⟩
def zMk1S (K : PySem.W.Frag) (C : Addr) (n m : Nat) (gV : PySem.W.Frag → List V → List V → List V) (sp : Sp) (W : WX) (σ : L2.St) (vs zs : List V) (H2 : Hp) (Q : VK) : Prop :=
  vs.length + 1 = n ∧ zs.length = m ∧ ∀ x dx H3, Made H2 x dx C H3 → sp (gV K (.ref x :: vs) zs) H3 (fun v H4 => v = .non ∧ Q (.ref x) H4) (WE W σ)
theorem i_makeS (h : t σ H fun vs H1 => tk σ H1 fun zs H2 => zMk1S K C n mn gV sp W σ vs zs H2 Q) : zMakeS K C n mn gV sp W t tk σ H Q := by
  show t σ H _
  refine cast (congrArg (t σ H) (funext fun vs => funext fun H1 => congrArg (tk σ H1) (funext fun zs => funext fun H2 => propext ⟨?_, ?_⟩))) h
  · rintro ⟨a, b, c⟩
    exact ⟨a, b, fun x dx f1 f2 ne => c x dx _ ⟨f1, f2, ne, rfl⟩⟩
  · rintro ⟨a, b, c⟩
    exact ⟨a, b, fun x dx H3 z => z.eq ▸ c x dx z.fr z.fd z.ne⟩
theorem i_mk1S {vs zs : List V} (e1 : vs.length + 1 = n) (e2 : zs.length = mn) (h : ∀ x dx H3, Made H x dx C H3 → sp (gV K (.ref x :: vs) zs) H3 (fun v H4 => v = .non ∧ Q (.ref x) H4) (WE W σ)) : zMk1S K C n mn gV sp W σ vs zs H Q := ⟨e1, e2, h⟩
end
/-- a def's own way out -/
abbrev wo (E : XK) : WX := fun cls d _ H => E cls d H
/-! ### raise -/
def VE : List Value := [.type "ValueError", .type "Exception", .type "BaseException", .type "object"]
def RE : List Value := [.type "RuntimeError", .type "Exception", .type "BaseException", .type "object"]
/-- X may be raised: a class without own __init__, over ValueError -/
def fxExc (x : Str) : Fx := fun K => PySem.W.excIn K (He.ga K x) VE "ValueError.__new__" && (PySem.W.keepIn K (.ref (He.ga K x)) && (decide (PySem.W.subIn K (.ref (He.ga K x)) (.type "BaseException") = some true) && decide (PySem.W.typeIn K (.ref (He.ga K x)) = some (.type "type"))))
def fxExcR (x : Str) : Fx := fun K => PySem.W.excIn K (He.ga K x) RE "RuntimeError.__new__" && (PySem.W.keepIn K (.ref (He.ga K x)) && (decide (PySem.W.subIn K (.ref (He.ga K x)) (.type "BaseException") = some true) && decide (PySem.W.typeIn K (.ref (He.ga K x)) = some (.type "type"))))
def zRaise (t : L2.St → Hp → XK → Prop) (W : WX) : TZ := fun _ _ _ _ σ H => t σ H fun cls d H' => W cls d σ H'
def mkOwn (C : Addr) : L2.St → Hp → XK → Prop := fun _ H Q => Q (.ref C) none H
section
variable {X : Cx} {W : WX} {x m : Str} {j : Nat} {p p2 pos pos2 : Pos} {C : Addr}
theorem z_raise0 (hc : X.calm = true) (tk : Takes X W) (f : fxExc x X.K = true) (gC : X.mg x = some (.ref (He.ga X.K x))) (hg : Gl X x) (hdb : (x == ("__debug__" : Str)) = false := by decide) :
    PS X (.Raise (some (.Call (.Name x p) [.Constant (.str m) j p2] [] pos)) none pos2) (zS (zRaise (mkOwn (He.ga X.K x)) W)) := by
  obtain ⟨f1, f⟩ := He.ba f
  obtain ⟨f2, f⟩ := He.ba f
  obtain ⟨f3, f4⟩ := He.ba f
  exact ps_raise hc tk (pmk_own PySem.F.excBase_ValueError f1 gC f2 (raises_own (of_decide_eq_true f3) (of_decide_eq_true f4)) hg hdb)
theorem z_raise0R (hc : X.calm = true) (tk : Takes X W) (f : fxExcR x X.K = true) (gC : X.mg x = some (.ref (He.ga X.K x))) (hg : Gl X x) (hdb : (x == ("__debug__" : Str)) = false := by decide) :
    PS X (.Raise (some (.Call (.Name x p) [.Constant (.str m) j p2] [] pos)) none pos2) (zS (zRaise (mkOwn (He.ga X.K x)) W)) := by
  obtain ⟨f1, f⟩ := He.ba f
  obtain ⟨f2, f⟩ := He.ba f
  obtain ⟨f3, f4⟩ := He.ba f
  exact ps_raise hc tk (pmk_own PySem.F.excBase_RuntimeError f1 gC f2 (raises_own (of_decide_eq_true f3) (of_decide_eq_true f4)) hg hdb)
theorem i_raise0 {nx bk ct : L2.St → Hp → Prop} {rt : VK} {σ : L2.St} {H : Hp} (h : W (.ref C) none σ H) : zRaise (mkOwn C) W nx rt bk ct σ H := h
end
/-! ### try .. except X as e -/
def zTryAs (K : PySem.W.Frag) (c : Value) (i : Nat) (tb : WX → TZ) (ts : Addr → Value → Option Addr → TZ) (Wout : WX) : TZ := fun nx rt bk ct σ H =>
  tb (wAs K c i (fun a cls d => zS (ts a cls d)) Wout ⟨nx, rt, bk, ct⟩) nx rt bk ct σ H
section
variable {X : Cx} {x n : Str} {c : Value} {i : Nat} {body suite : List Stmt} {b₀ : Stmt} {np pos pos' : Pos} {tb : WX → TZ} {ts : Addr → Value → Option Addr → TZ} {Wout : WX}
theorem z_try_as (hs : X.stack = X.env :: X.outer) (hf : X.env.frame = some X.env.locals) (hN : X.N.Nodup) (hi : X.N[i]? = some n) (hln : X.env.kindOf n = some .local) (hc : Names X x c) (tk : Takes X Wout)
    (hb : ∀ (W : WX) (pn : List (Addr × Obj)) (xe : Value → Shared → Prop), Takes (X.tr pn xe) W → PassesOwn (model X.prog X.w) X.A X.env xe → PSs (X.tr pn xe) body (zS (tb W)))
    (hsu : ∀ (a : Addr) (oe : Obj) (cls : Value) (d : Option Addr) (pn : List (Addr × Obj)), Zc cls d oe → (∃ vs, oe.data = .fields vs) → PSs (X.suite a ((a, oe) :: pn)) (b₀ :: suite) (zS (ts a cls d))) :
    PS X (.Try body [.ExceptHandler (some (.Name x np)) (some n) (b₀ :: suite) pos'] [] [] pos) (zS (zTryAs X.K c i tb ts Wout)) :=
  ps_try_as (tb := fun W => zS (tb W)) (ts := fun a cls d => zS (ts a cls d)) hs hf hN hi hln hc tk hb hsu
theorem names_g {X : Cx} {x : Str} {c : Value} (hg : Gl X x) (h : X.mg x = some c) (hd : (x == ("__debug__" : Str)) = false := by decide) : Names X x c := ⟨hg, hd, .inl h⟩
end
section
variable {K : PySem.W.Frag} {c cls : Value} {i : Nat} {tb : WX → TZ} {ts : Addr → Value → Option Addr → TZ} {Wout : WX} {nx bk ct : L2.St → Hp → Prop} {rt : VK} {σ : L2.St} {H : Hp} {d : Option Addr}
theorem i_tryAs (h : tb (wAs K c i (fun a cls d => zS (ts a cls d)) Wout ⟨nx, rt, bk, ct⟩) nx rt bk ct σ H) : zTryAs K c i tb ts Wout nx rt bk ct σ H := h
/-- caught -/
theorem i_catch (e : PySem.W.exmOne K cls c = some true) (h : ∀ a, H a = none → ts a cls d (fun σ' H' => nx (σ'.set i none) H') rt (fun σ' H' => bk (σ'.set i none) H') (fun σ' H' => ct (σ'.set i none) H') (σ.set i (some (.ref a))) H) :
    wAs K c i (fun a cls d => zS (ts a cls d)) Wout ⟨nx, rt, bk, ct⟩ cls d σ H := ⟨true, e, fun _ => h, fun z => by cases z⟩
theorem i_miss (e : PySem.W.exmOne K cls c = some false) (h : Wout cls d σ H) : wAs K c i (fun a cls d => zS (ts a cls d)) Wout ⟨nx, rt, bk, ct⟩ cls d σ H := ⟨false, e, (fun z => by cases z), fun _ => h⟩
end
def fxExm (x c : Str) (b : Bool) : Fx := fun K => decide (PySem.W.exmOne K (.ref (He.ga K x)) (.ref (He.ga K c)) = some b)
theorem fxExm_ok {K : PySem.W.Frag} {x c : Str} {b : Bool} (h : fxExm x c b K = true) : PySem.W.exmOne K (.ref (He.ga K x)) (.ref (He.ga K c)) = some b := of_decide_eq_true h
/-! ### isinstance of what is caught -/
structure ExC (K : PySem.W.Frag) (D : Addr) : Prop where
  hcl : (PySem.W.clsIn K D).isSome = true
  hga : PySem.W.findIn K (.ref D) "__getattribute__" = some (some (.builtin "BaseException.__getattribute__"))
  hgt : PySem.W.findIn K (.ref D) "__getattr__" = some none
  hsub : PySem.W.subIn K (.ref D) (.type "BaseException") = some true
  ha : PySem.W.findIn K (.ref D) "__class__" = some (some (.builtin "object.__class__"))
  hn : PySem.W.specialIn K (.builtin "object.__class__") "__get__" = some (some (.builtin "getset_descriptor.__get__"))
  htk : PySem.W.takesIn K (.builtin "object.__class__") = some true
  hm : PySem.W.mroIn K D (.type "object") = some true
def fxExC (x : Str) : Fx := fun K => (PySem.W.clsIn K (He.ga K x)).isSome && (He.eqO (PySem.W.findIn K (.ref (He.ga K x)) "__getattribute__") (some (some (.builtin "BaseException.__getattribute__"))) && (He.eqO (PySem.W.findIn K (.ref (He.ga K x)) "__getattr__") (some none) &&
  (decide (PySem.W.subIn K (.ref (He.ga K x)) (.type "BaseException") = some true) && (He.eqO (PySem.W.findIn K (.ref (He.ga K x)) "__class__") (some (some (.builtin "object.__class__"))) &&
  (He.eqO (PySem.W.specialIn K (.builtin "object.__class__") "__get__") (some (some (.builtin "getset_descriptor.__get__"))) && (decide (PySem.W.takesIn K (.builtin "object.__class__") = some true) && decide (PySem.W.mroIn K (He.ga K x) (.type "object") = some true)))))))
theorem fxExC_ok {K : PySem.W.Frag} {x : Str} (h : fxExC x K = true) : ExC K (He.ga K x) := by
  obtain ⟨c1, h⟩ := He.ba h
  obtain ⟨c2, h⟩ := He.ba h
  obtain ⟨c3, h⟩ := He.ba h
  obtain ⟨c4, h⟩ := He.ba h
  obtain ⟨c5, h⟩ := He.ba h
  obtain ⟨c6, h⟩ := He.ba h
  obtain ⟨c7, c8⟩ := He.ba h
  exact ⟨c1, He.eqO_ok c2, He.eqO_ok c3, of_decide_eq_true c4, He.eqO_ok c5, He.eqO_ok c6, of_decide_eq_true c7, of_decide_eq_true c8⟩
/-- the exception's dict, if any, stands -/
def DOk (d : Option Addr) (H : Hp) : Prop := d = none ∨ ∃ dd fs, d = some dd ∧ H dd = some (.xd fs)
def rIsE (K : PySem.W.Frag) (cls : Value) (d : Option Addr) (a : Addr) : List V → Hp → VK → Prop := fun xs H Q => ∃ (D : Addr) (c : V) (cv : Value) (b : Bool), xs = [.ref a, c] ∧ cls = .ref D ∧ ExC K D ∧ DOk d H ∧ ClsV c cv ∧ PySem.W.kitOne K (.ref D) cv = some b ∧ Q (.bl b) H
def rIsET (K : PySem.W.Frag) (cls : Value) (d : Option Addr) (a : Addr) : List V → Hp → VK → Prop := fun xs H Q => ∃ (D tp : Addr) (cs : List V) (us : List Value) (b : Bool), xs = [.ref a, .ref tp] ∧ cls = .ref D ∧ ExC K D ∧ DOk d H ∧ H tp = some (.tup cs) ∧ Paired ClsV cs us ∧ PySem.W.kitAny K (.ref D) us = some b ∧ Q (.bl b) H
section
variable {X : Cx} {a : Addr} {oe : Obj} {cls : Value} {d : Option Addr} {pn : List (Addr × Obj)}
theorem inst_of {D : Addr} {pins : List (Addr × Obj)} {σ : L2.St} {H : Hp} {s : Shared} (I : Inv (X.suite a ((a, oe) :: pn)) pins σ H s) (hz : Zc (.ref D) d oe) (hf : ∃ vs, oe.data = .fields vs) (hd : DOk d H) : ∃ od, PySem.W.InstAt s.heap a oe D od := by
  obtain ⟨hget, _⟩ := I.pin (a, oe) (List.mem_append.mpr (.inl List.mem_cons_self))
  obtain ⟨vs, hv⟩ := hf
  have no : PySem.W.notCls oe = true := by unfold PySem.W.notCls; rw [hv] <;> rfl
  rcases hd with rfl | ⟨dd, fs, rfl, e⟩
  · exact ⟨none, hget, hz.1, no, by rw [hz.2]; trivial⟩
  · have hx : ObjOk X.prog X.w H s.heap dd (.xd fs) := I.hok dd _ e
    obtain ⟨mA, hns, hr⟩ := hx
    obtain ⟨od, ho, hl⟩ := lookIn_ns hns
    exact ⟨some od, hget, hz.1, no, by rw [hz.2]; exact ho⟩
theorem cisiE (K : PySem.W.Frag) (hK : X.K = K) (hz : Zc cls d oe) (hf : ∃ vs, oe.data = .fields vs) : CallR (X.suite a ((a, oe) :: pn)) (.builtin "isinstance") (rIsE K cls d a) := by
  subst hK
  intro pins s σ H xs us Q I r h
  obtain ⟨D, c, cv, b, rfl, rfl, C, hd, hc, e, q⟩ := h
  obtain ⟨u1, u2, rfl, r1, r2⟩ := vals2 r
  have e2 := hc.eq r2
  subst e2
  obtain rfl : u1 = Value.ref a := r1
  obtain ⟨od, J⟩ := inst_of I hz hf hd
  exact PySem.W.kia_one (PySem.W.kitx_exc C.hcl C.hga C.hgt C.hsub C.ha C.hn C.htk C.hm) I.kIn J e (fun z => nomatch z) fun tk => ⟨.bl b, H, I.kept (t' := tk) fun _ _ z => z, rfl, q⟩
theorem cisiET (K : PySem.W.Frag) (hK : X.K = K) (hz : Zc cls d oe) (hf : ∃ vs, oe.data = .fields vs) : CallR (X.suite a ((a, oe) :: pn)) (.builtin "isinstance") (rIsET K cls d a) := by
  subst hK
  intro pins s σ H xs us Q I r h
  obtain ⟨D, tp, cs, cus, b, rfl, rfl, C, hd, ht, hc, e, q⟩ := h
  obtain ⟨u1, u2, rfl, r1, r2⟩ := vals2 r
  obtain rfl : u1 = Value.ref a := r1
  obtain rfl : u2 = Value.ref tp := r2
  obtain ⟨od, J⟩ := inst_of I hz hf hd
  obtain ⟨its, rv, ⟨⟨cls', dd, data, sl⟩, ho, hcc, n, hdd⟩, hs⟩ := I.tuple (SqT.of ht)
  simp only at hcc hdd
  subst hcc hdd
  obtain rfl := ClsV.all hc rv
  exact PySem.W.kia_tup (PySem.W.kitx_exc C.hcl C.hga C.hgt C.hsub C.ha C.hn C.htk C.hm) I.kIn J ho e (fun z => nomatch z) fun tk => ⟨.bl b, H, I.kept (t' := tk) fun _ _ z => z, rfl, q⟩
end
section
variable {K : PySem.W.Frag} {a D T : Addr} {cls : Value} {d : Option Addr} {H : Hp} {Q : VK} {b : Bool} {n : String}
theorem i_isE (C : ExC K D) (hd : DOk d H) (e : PySem.W.kitOne K (.ref D) (.ref T) = some b) (q : Q (.bl b) H) : rIsE K (.ref D) d a [V.ref a, .ref T] H Q := ⟨D, .ref T, .ref T, b, rfl, rfl, C, hd, .own T, e, q⟩
theorem i_isEB (C : ExC K D) (hd : DOk d H) (e : PySem.W.kitOne K (.ref D) (.type n) = some b) (q : Q (.bl b) H) : rIsE K (.ref D) d a [V.ref a, .ty n] H Q := ⟨D, .ty n, .type n, b, rfl, rfl, C, hd, .ty n, e, q⟩
end
def fxKitT (x : Str) (n : String) (b : Bool) : Fx := fun K => decide (PySem.W.kitOne K (.ref (He.ga K x)) (.type n) = some b)
theorem fxKitT_ok {K : PySem.W.Frag} {x : Str} {n : String} {b : Bool} (h : fxKitT x n b K = true) : PySem.W.kitOne K (.ref (He.ga K x)) (.type n) = some b := of_decide_eq_true h
end Z

/-! Z: is None, pop, more. -/
namespace Z
open PySem PySem.Spec PyProof.Rows L2
def rIsN : R2 := fun x y H Q => y = .non ∧ Q (.bl (decide (x = .non))) H
def rIsNn : R2 := fun x y H Q => y = .non ∧ Q (.bl (!decide (x = .non))) H
theorem opIs {X : Cx} : OpR X (compareOp .Is) rIsN := op_isN
theorem opIsNot {X : Cx} : OpR X (compareOp .IsNot) rIsNn := op_notN
section
variable {K : PySem.W.Frag} {H : Hp} {Q : VK} {p : Addr} {xs : List V} {v : V} {i : Int} {a : Str}
theorem i_isR (q : Q (.bl false) H) : rIsN (.ref p) .non H Q := ⟨rfl, q⟩
theorem i_isN (q : Q (.bl true) H) : rIsN .non .non H Q := ⟨rfl, q⟩
theorem i_isI (q : Q (.bl false) H) : rIsN (.int i) .non H Q := ⟨rfl, q⟩
theorem i_isnR (q : Q (.bl true) H) : rIsNn (.ref p) .non H Q := ⟨rfl, q⟩
theorem i_isnN (q : Q (.bl false) H) : rIsNn .non .non H Q := ⟨rfl, q⟩
theorem i_isnI (q : Q (.bl true) H) : rIsNn (.int i) .non H Q := ⟨rfl, q⟩
theorem i_popAt {j : Nat} (h : H p = some (.lst xs)) (e : xs[j]? = some v) (z : xs.length ≤ 1000000) (k : ∀ H', Up H p (.lst (xs.eraseIdx j)) H' → Q v H') : rPopAt (.ref p) [.int (j : Nat)] H Q := by
  have hl := (List.getElem?_eq_some_iff.mp e).1
  exact ⟨p, xs, j, j, v, rfl, rfl, h, by omega, by omega, (ixN_seq (ixN_nat hl)).1, e, k _ ⟨⟨_, h⟩, rfl⟩⟩
theorem i_pop0 (h : H p = some (.lst (v :: xs))) (z : xs.length ≤ 100000) (k : ∀ H', Up H p (.lst xs) H' → Q v H') : rPopAt (.ref p) [.int 0] H Q :=
  i_popAt (j := 0) h rfl (by rw [List.length_cons]; omega) k
end
section
variable {K : PySem.W.Frag} {m : Str} {kn : Nat} {W : WX} {Ms : List MA} {Fs : List FAx} {ta tf : TE} {t tk : TA} {σ : L2.St} {H : Hp} {Q : VK}
theorem i_MSo (h : ta σ H fun x H1 => zM1 K m kn (WE W σ) Ms t tk x σ H1 Q) : zMS K m kn W Ms ta t tk σ H Q := h
theorem i_VSo (h : tf σ H fun x H1 => zV1 K kn (WE W σ) Fs t tk x σ H1 Q) : zVS K kn W Fs tf t tk σ H Q := h
end
section
variable {K : PySem.W.Frag} {kn : Nat} {E : XK} {Fs : List FAx} {t tk : TA} {σ : L2.St} {H : Hp} {Q : VK} {x : V}
theorem i_Vg (R : V → Hp → Prop) (k : ∀ v H', R v H' → Q v H') (h : ∀ Q' : VK, (∀ v H', R v H' → Q' v H') → zV1 K kn E Fs t tk x σ H Q') : zV1 K kn E Fs t tk x σ H Q := h Q k
end
/-! guards for the search: a step to H' is known -/
theorem gN {H H' : Hp} {p a : Addr} {o u : HO} (n : New H p o H') (x : H' a = some u) : H' a = some u := x
theorem gM {H H' : Hp} {p dx C a : Addr} {u : HO} (n : Made H p dx C H') (x : H' a = some u) : H' a = some u := x
theorem gU {H H' : Hp} {p a : Addr} {o u : HO} (n : Up H p o H') (x : H' a = some u) : H' a = some u := x
theorem gsN {H H' H0 : Hp} {p : Addr} {o : HO} (n : New H p o H') (x : Same H0 H') : Same H0 H' := x
theorem gsM {H H' H0 : Hp} {p dx C : Addr} (n : Made H p dx C H') (x : Same H0 H') : Same H0 H' := x
theorem gsU {H H' H0 : Hp} {p : Addr} {o : HO} (n : Up H p o H') (x : Same H0 H') : Same H0 H' := x
theorem gbN {H H' H0 : Hp} {p a : Addr} {o : HO} (n : New H p o H') (x : But a H0 H') : But a H0 H' := x
theorem gbM {H H' H0 : Hp} {p dx C a : Addr} (n : Made H p dx C H') (x : But a H0 H') : But a H0 H' := x
theorem gbU {H H' H0 : Hp} {p a : Addr} {o : HO} (n : Up H p o H') (x : But a H0 H') : But a H0 H' := x
/-! one look at the heap, then by the object's kind -/
def ixA : HO → Int → Option V
  | .lst xs, i => atI xs i
  | .tup xs, i => atI xs i
  | _, _ => none
theorem i_ixA {K : PySem.W.Frag} {H : Hp} {Q : VK} {p : Addr} {o : HO} {i : Int} {v : V} (h : H p = some o) (e : ixA o i = some v) (q : Q v H) : rIx K (.ref p) (.int i) H Q := by
  cases o with
  | lst xs => exact i_ixL h e q
  | tup xs => exact i_ixT h e q
  | _ => cases e
def lenA : HO → Option Nat
  | .lst xs => some xs.length
  | .tup xs => some xs.length
  | _ => none
theorem i_lenA {K : PySem.W.Frag} {H : Hp} {Q : VK} {p : Addr} {o : HO} {n : Nat} (h : H p = some o) (e : lenA o = some n) (q : Q (.int (n : Nat)) H) : rLenU K [V.ref p] H Q := by
  cases o with
  | lst xs => exact i_lenL h (Option.some.inj e ▸ q)
  | tup xs => exact i_lenT h (Option.some.inj e ▸ q)
  | _ => cases e
theorem len_lm {ns : List Int} : lenA (.lst (ns.map V.int)) = some ns.length := by simp [lenA]
theorem len_tm {ns : List Int} : lenA (.tup (ns.map V.int)) = some ns.length := by simp [lenA]
/-- what is walked -/
inductive SeqA : HO → Bool → Prop where
  | l (xs : List V) : SeqA (.lst xs) true
  | t (xs : List V) : SeqA (.tup xs) false
theorem i_sA {K : PySem.W.Frag} {H : Hp} {a : Addr} {o : HO} {b : Bool} {R : It → Hp → Prop} (h : H a = some o) (e : SeqA o b) (q : R (if b = true then Itl K a else Itt K a) H) : zItS K (.ref a) H R := by
  cases e with
  | l xs => exact i_sL h q
  | t xs => exact i_sT h q
end Z

local macro_rules | `(tactic| k_call_by "ne" 0) => `(tactic| first
  | with_reducible assumption
  | ((with_reducible refine Ne.symm ?z_h); (case z_h => with_reducible assumption))
  | ((with_reducible refine Z.Made.nei (H := ?z_H) (dx := ?z_dx) (C := ?z_C) (H' := ?z_H') (u := ?z_u) ?z_n ?z_h); (case z_n => with_reducible assumption); (case z_h => k_call_by "hf" 0))
  | ((with_reducible refine Z.Made.nei' (H := ?z_H) (dx := ?z_dx) (C := ?z_C) (H' := ?z_H') (u := ?z_u) ?z_n ?z_h); (case z_n => with_reducible assumption); (case z_h => k_call_by "hf" 0))
  | ((with_reducible refine Z.New.ne (H := ?z_H) (o := ?z_o) (u := ?z_u) (H' := ?z_H') ?z_n ?z_h); (case z_n => with_reducible assumption); (case z_h => k_call_by "hf" 0))
  | ((with_reducible refine Z.New.ne' (H := ?z_H) (o := ?z_o) (u := ?z_u) (H' := ?z_H') ?z_n ?z_h); (case z_n => with_reducible assumption); (case z_h => k_call_by "hf" 0))
  | ((with_reducible refine Z.ne_fr (H := ?z_H) (u := ?z_u) ?z_f ?z_h); (case z_f => with_reducible assumption); (case z_h => k_call_by "hf" 0))
  | ((with_reducible refine Z.ne_fr' (H := ?z_H) (u := ?z_u) ?z_f ?z_h); (case z_f => with_reducible assumption); (case z_h => k_call_by "hf" 0))
  | fail)
local macro_rules | `(tactic| k_call_by "hf" 0) => `(tactic| first
  | with_reducible assumption
  | ((with_reducible refine Z.New.at (H := ?z_H) ?z_n); (case z_n => with_reducible assumption))
  | ((with_reducible refine Z.New.get (H := ?z_H) (p := ?z_p) (o := ?z_o) ?z_n ?z_h); (case z_n => with_reducible assumption); (case z_h => k_call_by "hf" 0))
  | ((with_reducible refine Z.Made.at (H := ?z_H) (dx := ?z_dx) ?z_n); (case z_n => with_reducible assumption))
  | ((with_reducible refine Z.Made.get (H := ?z_H) (x := ?z_x) (dx := ?z_dx) (C := ?z_C) ?z_n ?z_h); (case z_n => with_reducible assumption); (case z_h => k_call_by "hf" 0))
  | ((with_reducible refine Z.Up.at (H := ?z_H) ?z_n); (case z_n => with_reducible assumption))
  | ((with_reducible refine Z.Up.get (H := ?z_H) (p := ?z_p) (o := ?z_o) ?z_n ?z_ne ?z_h); (case z_n => with_reducible assumption); (case z_ne => k_call_by "ne" 0); (case z_h => k_call_by "hf" 0))
  | ((with_reducible refine Z.same_get (H := ?z_H) ?z_s ?z_h); (case z_s => with_reducible assumption); (case z_h => k_call_by "hf" 0))
  | ((with_reducible refine Z.But.get (H := ?z_H) (p := ?z_p) ?z_n ?z_ne ?z_h); (case z_n => with_reducible assumption); (case z_ne => k_call_by "ne" 0); (case z_h => k_call_by "hf" 0))
  | fail)
local macro_rules | `(tactic| k_call_by "hq" 0) => `(tactic| first
  | with_reducible assumption
  | ((with_reducible refine L2.SqL.of ?z_h); (case z_h => k_call_by "hf" 0))
  | ((with_reducible refine Z.sq_same (H := ?z_H) ?z_s ?z_h); (case z_s => with_reducible assumption); (case z_h => k_call_by "hq" 0))
  | ((with_reducible refine Z.sq_new (H := ?z_H) (p := ?z_p) (o := ?z_o) ?z_n ?z_h); (case z_n => with_reducible assumption); (case z_h => k_call_by "hq" 0))
  | fail)
-- what stood stands
local macro_rules | `(tactic| k_call_by "fh" 0) => `(tactic| first
  | with_reducible assumption
  | ((with_reducible refine Z.New.fr (o := ?z_o) (H' := ?z_H') ?z_n); (case z_n => with_reducible assumption))
  | ((with_reducible refine Z.Made.fr (dx := ?z_dx) (C := ?z_C) (H' := ?z_H') ?z_n); (case z_n => with_reducible assumption))
  | ((with_reducible refine Z.fresh_made (H1 := ?z_H1) (H2 := ?z_H2) (dx := ?z_dx) (C := ?z_C) ?z_n ?z_s); (case z_n => with_reducible assumption); (case z_s => k_call_by "fr" 0))
  | ((with_reducible refine Z.fresh_by (H1 := ?z_H1) (H2 := ?z_H2) (o := ?z_o) ?z_n ?z_s); (case z_n => with_reducible assumption); (case z_s => k_call_by "fr" 0))
  | ((with_reducible refine Z.fresh_at (H1 := ?z_H1) ?z_n ?z_s); (case z_n => with_reducible assumption); (case z_s => k_call_by "fr" 0))
  | ((with_reducible refine Z.fresh_but (H1 := ?z_H1) (H2 := ?z_H2) (o := ?z_o) (a := ?z_a) ?z_n ?z_s ?z_ne); (case z_n => with_reducible assumption); (case z_s => k_call_by "fr" 0); (case z_ne => k_call_by "ne" 0))
  | fail)
local macro_rules | `(tactic| k_call_by "fr" 0) => `(tactic| first
  | with_reducible assumption
  | with_reducible exact L2.Same.refl _
  | with_reducible exact Z.But.refl
  | ((with_reducible refine Z.fr_new (H1 := ?z_H1) (p := ?z_p) (o := ?z_o) ?z_y ?z_x); (case z_y => with_reducible assumption); (case z_x => k_call_by "fr" 0))
  | ((with_reducible refine Z.fr_made (H1 := ?z_H1) (p := ?z_p) (dx := ?z_dx) (C := ?z_C) ?z_y ?z_x); (case z_y => with_reducible assumption); (case z_x => k_call_by "fr" 0))
  | ((with_reducible refine Z.fr_same (H1 := ?z_H1) ?z_y ?z_x); (case z_y => with_reducible assumption); (case z_x => k_call_by "fr" 0))
  | ((with_reducible refine Z.fr_up (H1 := ?z_H1) (p := ?z_p) (o := ?z_o) ?z_y ?z_x ?z_f); (case z_y => with_reducible assumption); (case z_x => k_call_by "fr" 0); (case z_f => k_call_by "fh" 0))
  | ((with_reducible refine Z.fr_but (H1 := ?z_H1) (p := ?z_p) ?z_y ?z_x ?z_f); (case z_y => with_reducible assumption); (case z_x => k_call_by "fr" 0); (case z_f => k_call_by "fh" 0))
  | ((with_reducible refine Z.fb_new (H1 := ?z_H1) (p := ?z_p) (o := ?z_o) ?z_y ?z_x); (case z_y => with_reducible assumption); (case z_x => k_call_by "fr" 0))
  | ((with_reducible refine Z.fb_same (H1 := ?z_H1) ?z_y ?z_x); (case z_y => with_reducible assumption); (case z_x => k_call_by "fr" 0))
  | ((with_reducible refine Z.fb_but (H1 := ?z_H1) ?z_y ?z_x); (case z_y => with_reducible assumption); (case z_x => k_call_by "fr" 0))
  | ((with_reducible refine Z.fb_up (H1 := ?z_H1) (o := ?z_o) ?z_y ?z_x); (case z_y => with_reducible assumption); (case z_x => k_call_by "fr" 0))
  | ((with_reducible refine Z.fb_upn (H1 := ?z_H1) (p := ?z_p) (o := ?z_o) ?z_y ?z_x ?z_f); (case z_y => with_reducible assumption); (case z_x => k_call_by "fr" 0); (case z_f => k_call_by "fh" 0))
  | ((with_reducible refine Z.fb_butn (H1 := ?z_H1) (p := ?z_p) ?z_y ?z_x ?z_f); (case z_y => with_reducible assumption); (case z_x => k_call_by "fr" 0); (case z_f => k_call_by "fh" 0))
  | fail)
-- sizes that fit
local macro_rules | `(tactic| k_call_by "sz" 0) => `(tactic| first
  | with_reducible assumption
  | omega
  | (simp only [PySem.sizeLine_eq, List.length_append, List.length_cons, List.length_nil, List.length_map, List.length_replicate, List.length_reverse, List.length_take, List.length_drop]; omega)
  | (simp only [PySem.sizeLine_eq, List.length_append, List.length_cons, List.length_nil, List.length_map, List.length_replicate, List.length_reverse] at *; omega)
  | fail)
local macro_rules | `(tactic| k_call_by "zb" 0) => `(tactic| first
  | omega
  | (simp only [PySem.sizeLine_eq, List.length_append, List.length_cons, List.length_nil, List.length_map, List.length_replicate, List.length_reverse, List.length_take, List.length_drop]; omega)
  | (simp only [List.length_append, List.length_cons, List.length_nil, List.length_map, List.length_replicate, List.length_reverse] at *; omega)
  | fail)
-- one step
local macro_rules | `(tactic| k_call_by "z" 0) => `(tactic| first
  | with_reducible refine Z.i_seq ?_
  | with_reducible refine Z.i_asg ?_
  | ((with_reducible refine Z.i_var (v := ?z_v) ?z_e ?_); (case z_e => exact rfl))
  | with_reducible refine Z.i_op ?_
  | with_reducible refine Z.i_c ?_
  | with_reducible refine Z.i_name ?_
  | with_reducible refine Z.i_cons ?_
  | with_reducible refine Z.i_nil ?_
  | with_reducible refine Z.i_ret ?_
  | with_reducible refine Z.i_drop ?_
  | with_reducible refine Z.i_if ?_
  | with_reducible refine Z.i_call ?_
  | ((with_reducible refine Z.i_len2 ?z_e ?z_f ?_); (case z_e => exact rfl); (case z_f => exact rfl))
  | with_reducible refine Z.i_cb ?_
  | with_reducible refine Z.i_test ?_
  | with_reducible refine Z.i_blV ?_
  | with_reducible refine Z.i_b ?_
  | with_reducible refine Z.i_and ?_
  | with_reducible refine Z.i_or ?_
  | with_reducible refine Z.i_not ?_
  | with_reducible refine Z.i_next ?_
  | with_reducible refine Z.i_addI ?_
  | with_reducible refine Z.i_I0 ?_
  | with_reducible refine Z.i_U ?_
  | with_reducible refine Z.i_un ?_
  | with_reducible refine Z.i_eqI ?_
  | with_reducible refine Z.i_neI ?_
  | with_reducible refine Z.i_eqS ?_
  | with_reducible refine Z.i_neS ?_
  | with_reducible refine Z.i_ifE ?_
  | with_reducible refine Z.i_sl ?_
  | with_reducible refine Z.i_nopart ?_
  | with_reducible refine Z.i_part ?_
  | with_reducible refine Z.i_partI ?_
  | with_reducible refine Z.i_tup ?_
  | with_reducible refine Z.i_lst ?_
  | ((with_reducible refine Z.i_sz ?z_c ?_); (case z_c => exact Nat.le_of_ble_eq_true rfl))
  | with_reducible refine Z.i_bm ?_
  | with_reducible refine Z.i_bm0 ?_
  | with_reducible refine Z.i_for ?_
  | with_reducible refine Z.i_iList ?_
  | with_reducible refine Z.i_iTup ?_
  | with_reducible refine Z.i_rng1 ?_
  | with_reducible refine Z.i_rng2 ?_
  | with_reducible refine Z.i_enum ?_
  | with_reducible refine Z.i_zip ?_
  | with_reducible refine Z.i_lc ?_
  | with_reducible refine Z.i_yes ?_
  | ((with_reducible refine Z.i_wipe ?z_e ?_); (case z_e => exact rfl))
  | ((with_reducible refine Z.i_mk1 ?z_e ?z_f ?_); (case z_e => exact rfl); (case z_f => exact rfl))
  | ((with_reducible refine Z.i_mk1S ?z_e ?z_f ?_); (case z_e => exact rfl); (case z_f => exact rfl))
  | with_reducible refine Z.i_M ?_
  | with_reducible refine Z.i_V ?_
  | with_reducible refine Z.i_make ?_
  | with_reducible refine Z.i_fldS ?_
  | with_reducible refine Z.i_fld ?_
  | with_reducible refine Z.i_chain ?_
  | with_reducible refine Z.i_notV ?_
  | with_reducible refine Z.ifNT ?_
  | with_reducible refine Z.ifNF ?_
  | with_reducible refine Z.i_iSeqS ?_
  | with_reducible refine Z.i_zipA ?_
  | with_reducible refine Z.i_gcons ?_
  | with_reducible refine Z.i_gnil ?_
  | with_reducible refine Z.i_gsub ?_
  | with_reducible refine Z.i_augS ?_
  | with_reducible refine Z.i_ipI ?_
  | ((with_reducible refine Z.i_aug (x := ?z_x) ?z_e ?_); (case z_e => exact rfl))
  | with_reducible refine Z.i_par ?_
  | with_reducible refine Z.i_par3 ?_
  | with_reducible refine Z.i_two ?_
  | with_reducible refine Z.i_three ?_
  | with_reducible refine Z.i_andV ?_
  | with_reducible refine Z.i_orV ?_
  | with_reducible refine Z.i_isR ?_
  | with_reducible refine Z.i_isN ?_
  | with_reducible refine Z.i_isI ?_
  | with_reducible refine Z.i_isnR ?_
  | with_reducible refine Z.i_isnN ?_
  | with_reducible refine Z.i_isnI ?_
  | with_reducible refine Z.i_dnew ?_
  | with_reducible refine Z.i_callS ?_
  | with_reducible refine Z.i_MSo ?_
  | with_reducible refine Z.i_VSo ?_
  | with_reducible refine Z.i_makeS ?_
  | with_reducible refine Z.i_tryAs ?_
  | with_reducible refine Z.i_raise0 ?_
  | with_reducible refine Z.i_retN ?_
  | with_reducible refine Z.i_break ?_
  | with_reducible refine Z.i_cont ?_
  | with_reducible refine Z.i_max2 ?_
  | with_reducible refine Z.i_min2 ?_
  | with_reducible refine Z.i_intI ?_
  | with_reducible refine Z.i_intB ?_
  | with_reducible refine Z.i_abs ?_
  | with_reducible refine Z.i_part ?_
  | with_reducible refine L2.iteT ?_
  | with_reducible refine L2.iteF ?_
  | k_call_by "zh" 0
  | k_call_by "zn" 0
  | ((with_reducible refine Z.i_isi0 ?_); k_call_by "isi" 0)
  | fail)
local macro_rules | `(tactic| k_call_by "y" 0) => `(tactic| first
  | with_reducible refine Z.i_asg ?_
  | ((with_reducible refine Z.i_var (v := ?z_v) ?z_e ?_); (case z_e => exact rfl))
  | with_reducible refine Z.i_op ?_
  | with_reducible refine Z.i_c ?_
  | with_reducible refine Z.i_name ?_
  | with_reducible refine Z.i_cons ?_
  | with_reducible refine Z.i_nil ?_
  | with_reducible refine Z.i_ret ?_
  | with_reducible refine Z.i_drop ?_
  | with_reducible refine Z.i_call ?_
  | ((with_reducible refine Z.i_len2 ?z_e ?z_f ?_); (case z_e => exact rfl); (case z_f => exact rfl))
  | with_reducible refine Z.i_cb ?_
  | with_reducible refine Z.i_test ?_
  | with_reducible refine Z.i_blV ?_
  | with_reducible refine Z.i_b ?_
  | with_reducible refine Z.i_and ?_
  | with_reducible refine Z.i_or ?_
  | with_reducible refine Z.i_not ?_
  | with_reducible refine Z.i_next ?_
  | with_reducible refine Z.i_addI ?_
  | with_reducible refine Z.i_I0 ?_
  | with_reducible refine Z.i_U ?_
  | with_reducible refine Z.i_un ?_
  | with_reducible refine Z.i_eqI ?_
  | with_reducible refine Z.i_neI ?_
  | with_reducible refine Z.i_eqS ?_
  | with_reducible refine Z.i_neS ?_
  | with_reducible refine Z.i_ifE ?_
  | with_reducible refine Z.i_sl ?_
  | with_reducible refine Z.i_nopart ?_
  | with_reducible refine Z.i_part ?_
  | with_reducible refine Z.i_partI ?_
  | with_reducible refine Z.i_tup ?_
  | with_reducible refine Z.i_lst ?_
  | ((with_reducible refine Z.i_sz ?z_c ?_); (case z_c => exact Nat.le_of_ble_eq_true rfl))
  | with_reducible refine Z.i_bm ?_
  | with_reducible refine Z.i_bm0 ?_
  | with_reducible refine Z.i_for ?_
  | with_reducible refine Z.i_iList ?_
  | with_reducible refine Z.i_iTup ?_
  | with_reducible refine Z.i_rng1 ?_
  | with_reducible refine Z.i_rng2 ?_
  | with_reducible refine Z.i_enum ?_
  | with_reducible refine Z.i_zip ?_
  | with_reducible refine Z.i_lc ?_
  | with_reducible refine Z.i_yes ?_
  | ((with_reducible refine Z.i_wipe ?z_e ?_); (case z_e => exact rfl))
  | ((with_reducible refine Z.i_mk1 ?z_e ?z_f ?_); (case z_e => exact rfl); (case z_f => exact rfl))
  | ((with_reducible refine Z.i_mk1S ?z_e ?z_f ?_); (case z_e => exact rfl); (case z_f => exact rfl))
  | with_reducible refine Z.i_M ?_
  | with_reducible refine Z.i_V ?_
  | with_reducible refine Z.i_make ?_
  | with_reducible refine Z.i_fldS ?_
  | with_reducible refine Z.i_fld ?_
  | with_reducible refine Z.i_chain ?_
  | with_reducible refine Z.i_notV ?_
  | with_reducible refine Z.ifNT ?_
  | with_reducible refine Z.ifNF ?_
  | with_reducible refine Z.i_iSeqS ?_
  | with_reducible refine Z.i_zipA ?_
  | with_reducible refine Z.i_gcons ?_
  | with_reducible refine Z.i_gnil ?_
  | with_reducible refine Z.i_gsub ?_
  | with_reducible refine Z.i_augS ?_
  | with_reducible refine Z.i_ipI ?_
  | ((with_reducible refine Z.i_aug (x := ?z_x) ?z_e ?_); (case z_e => exact rfl))
  | with_reducible refine Z.i_par ?_
  | with_reducible refine Z.i_par3 ?_
  | with_reducible refine Z.i_two ?_
  | with_reducible refine Z.i_three ?_
  | with_reducible refine Z.i_andV ?_
  | with_reducible refine Z.i_orV ?_
  | with_reducible refine Z.i_isR ?_
  | with_reducible refine Z.i_isN ?_
  | with_reducible refine Z.i_isI ?_
  | with_reducible refine Z.i_isnR ?_
  | with_reducible refine Z.i_isnN ?_
  | with_reducible refine Z.i_isnI ?_
  | with_reducible refine Z.i_dnew ?_
  | with_reducible refine Z.i_callS ?_
  | with_reducible refine Z.i_MSo ?_
  | with_reducible refine Z.i_VSo ?_
  | with_reducible refine Z.i_makeS ?_
  | with_reducible refine Z.i_tryAs ?_
  | with_reducible refine Z.i_raise0 ?_
  | with_reducible refine Z.i_retN ?_
  | with_reducible refine Z.i_break ?_
  | with_reducible refine Z.i_cont ?_
  | with_reducible refine Z.i_max2 ?_
  | with_reducible refine Z.i_min2 ?_
  | with_reducible refine Z.i_intI ?_
  | with_reducible refine Z.i_intB ?_
  | with_reducible refine Z.i_abs ?_
  | with_reducible refine Z.i_part ?_
  | with_reducible refine L2.iteT ?_
  | with_reducible refine L2.iteF ?_
  | k_call_by "zh" 0
  | k_call_by "zn" 0
  | ((with_reducible refine Z.i_isi0 ?_); k_call_by "isi" 0)
  | fail)
local macro_rules | `(tactic| k_call_by "isi" 0) => `(tactic| first
  | with_reducible refine Z.isi_I_int ?_
  | with_reducible refine Z.isi_B_int ?_
  | with_reducible refine Z.isi_S_int ?_
  | with_reducible refine Z.isi_N_int ?_
  | ((with_reducible refine Z.isi_L_int (xs := ?z_xs) ?z_h ?_); (case z_h => k_call_by "hf" 0))
  | ((with_reducible refine Z.isi_T_int (xs := ?z_xs) ?z_h ?_); (case z_h => k_call_by "hf" 0))
  | ((with_reducible refine Z.isi_D_int (xs := ?z_xs) ?z_h ?_); (case z_h => k_call_by "hf" 0))
  | with_reducible refine Z.isi_I_bool ?_
  | with_reducible refine Z.isi_B_bool ?_
  | with_reducible refine Z.isi_S_bool ?_
  | with_reducible refine Z.isi_N_bool ?_
  | ((with_reducible refine Z.isi_L_bool (xs := ?z_xs) ?z_h ?_); (case z_h => k_call_by "hf" 0))
  | ((with_reducible refine Z.isi_T_bool (xs := ?z_xs) ?z_h ?_); (case z_h => k_call_by "hf" 0))
  | ((with_reducible refine Z.isi_D_bool (xs := ?z_xs) ?z_h ?_); (case z_h => k_call_by "hf" 0))
  | with_reducible refine Z.isi_I_str ?_
  | with_reducible refine Z.isi_B_str ?_
  | with_reducible refine Z.isi_S_str ?_
  | with_reducible refine Z.isi_N_str ?_
  | ((with_reducible refine Z.isi_L_str (xs := ?z_xs) ?z_h ?_); (case z_h => k_call_by "hf" 0))
  | ((with_reducible refine Z.isi_T_str (xs := ?z_xs) ?z_h ?_); (case z_h => k_call_by "hf" 0))
  | ((with_reducible refine Z.isi_D_str (xs := ?z_xs) ?z_h ?_); (case z_h => k_call_by "hf" 0))
  | with_reducible refine Z.isi_I_list ?_
  | with_reducible refine Z.isi_B_list ?_
  | with_reducible refine Z.isi_S_list ?_
  | with_reducible refine Z.isi_N_list ?_
  | ((with_reducible refine Z.isi_L_list (xs := ?z_xs) ?z_h ?_); (case z_h => k_call_by "hf" 0))
  | ((with_reducible refine Z.isi_T_list (xs := ?z_xs) ?z_h ?_); (case z_h => k_call_by "hf" 0))
  | ((with_reducible refine Z.isi_D_list (xs := ?z_xs) ?z_h ?_); (case z_h => k_call_by "hf" 0))
  | with_reducible refine Z.isi_I_tuple ?_
  | with_reducible refine Z.isi_B_tuple ?_
  | with_reducible refine Z.isi_S_tuple ?_
  | with_reducible refine Z.isi_N_tuple ?_
  | ((with_reducible refine Z.isi_L_tuple (xs := ?z_xs) ?z_h ?_); (case z_h => k_call_by "hf" 0))
  | ((with_reducible refine Z.isi_T_tuple (xs := ?z_xs) ?z_h ?_); (case z_h => k_call_by "hf" 0))
  | ((with_reducible refine Z.isi_D_tuple (xs := ?z_xs) ?z_h ?_); (case z_h => k_call_by "hf" 0))
  | with_reducible refine Z.isi_I_dict ?_
  | with_reducible refine Z.isi_B_dict ?_
  | with_reducible refine Z.isi_S_dict ?_
  | with_reducible refine Z.isi_N_dict ?_
  | ((with_reducible refine Z.isi_L_dict (xs := ?z_xs) ?z_h ?_); (case z_h => k_call_by "hf" 0))
  | ((with_reducible refine Z.isi_T_dict (xs := ?z_xs) ?z_h ?_); (case z_h => k_call_by "hf" 0))
  | ((with_reducible refine Z.isi_D_dict (xs := ?z_xs) ?z_h ?_); (case z_h => k_call_by "hf" 0))
  | fail)
-- steps that ask the heap
local macro_rules | `(tactic| k_call_by "rf" 0) => `(tactic| exact rfl)
local macro_rules | `(tactic| k_call_by "zh" 0) => `(tactic| first
  | ((with_reducible refine Z.i_ixL (xs := ?z_xs) (v := ?z_v) ?z_h ?z_e ?_); (case z_h => k_call_by "hf" 0); (case z_e => exact rfl))
  | ((with_reducible refine Z.i_ixT (xs := ?z_xs) (v := ?z_v) ?z_h ?z_e ?_); (case z_h => k_call_by "hf" 0); (case z_e => exact rfl))
  | ((with_reducible refine Z.i_lenLI (ns := ?z_ns) ?z_h ?_); (case z_h => k_call_by "hf" 0))
  | ((with_reducible refine Z.i_lenL (xs := ?z_xs) ?z_h ?_); (case z_h => k_call_by "hf" 0))
  | ((with_reducible refine Z.i_lenTI (ns := ?z_ns) ?z_h ?_); (case z_h => k_call_by "hf" 0))
  | ((with_reducible refine Z.i_lenT (xs := ?z_xs) ?z_h ?_); (case z_h => k_call_by "hf" 0))
  | ((with_reducible refine Z.i_lenQI (ns := ?z_ns) ?z_h ?_); (case z_h => k_call_by "hq" 0))
  | ((with_reducible refine Z.i_lenQ (xs := ?z_xs) ?z_h ?_); (case z_h => k_call_by "hq" 0))
  | ((with_reducible refine Z.i_slL (xs := ?z_xs) ?z_h ?_); (case z_h => k_call_by "hf" 0))
  | ((with_reducible refine Z.i_tyL (xs := ?z_xs) ?z_h ?_); (case z_h => k_call_by "hf" 0))
  | ((with_reducible refine Z.i_append (xs := ?z_xs) ?z_h ?z_z ?_); (case z_h => k_call_by "hf" 0); (case z_z => k_call_by "sz" 0))
  | ((with_reducible refine Z.i_reverse (xs := ?z_xs) ?z_h ?_); (case z_h => k_call_by "hf" 0))
  | ((with_reducible refine Z.i_clear (xs := ?z_xs) ?z_h ?_); (case z_h => k_call_by "hf" 0))
  | ((with_reducible refine Z.i_tupT (vs := ?z_vs) ?z_h ?z_hn ?_); (case z_h => k_call_by "hf" 0); (case z_hn => exact rfl))
  | ((with_reducible refine Z.i_setL (xs := ?z_xs) (j := ?z_j) ?z_h ?z_e ?_); (case z_h => k_call_by "hf" 0); (case z_e => exact rfl))
  | ((with_reducible refine Z.i_ixQ (xs := ?z_xs) (v := ?z_v) ?z_h ?z_e ?_); (case z_h => k_call_by "hq" 0); (case z_e => exact rfl))
  | ((with_reducible refine Z.i_enumL (xs := ?z_xs) ?z_h ?_); (case z_h => k_call_by "hq" 0))
  | ((with_reducible refine Z.i_itL (xs := ?z_xs) ?z_h ?_); (case z_h => k_call_by "hf" 0))
  | ((with_reducible refine Z.i_itT (xs := ?z_xs) ?z_h ?_); (case z_h => k_call_by "hf" 0))
  | ((with_reducible refine Z.i_itQ (xs := ?z_xs) ?z_h ?_); (case z_h => k_call_by "hq" 0))
  | ((with_reducible refine Z.i_zipL (xs := ?z_xs) (ys := ?z_ys) ?z_h ?z_h2 ?_); (case z_h => k_call_by "hq" 0); (case z_h2 => k_call_by "hq" 0))
  | ((with_reducible refine Z.i_addLI (ns := ?z_ns) (ms := ?z_ms) ?z_h1 ?z_h2 ?z_z ?_); (case z_h1 => k_call_by "hf" 0); (case z_h2 => k_call_by "hf" 0); (case z_z => k_call_by "sz" 0))
  | ((with_reducible refine Z.i_addL1 (ns := ?z_ns) (a := ?z_a) ?z_h1 ?z_h2 ?z_z ?_); (case z_h1 => k_call_by "hf" 0); (case z_h2 => k_call_by "hf" 0); (case z_z => k_call_by "sz" 0))
  | ((with_reducible refine Z.i_mulLI (a := ?z_a) ?z_h1 ?z_z ?_); (case z_h1 => k_call_by "hf" 0); (case z_z => k_call_by "zb" 0))
  | ((with_reducible refine Z.i_sum (ns := ?z_ns) ?z_h ?_); (case z_h => k_call_by "hf" 0))
  | ((with_reducible refine Z.i_all (bs := ?z_bs) ?z_h ?_); (case z_h => k_call_by "hf" 0))
  | ((with_reducible refine Z.i_any (bs := ?z_bs) ?z_h ?_); (case z_h => k_call_by "hf" 0))
  | ((with_reducible refine Z.i_listL (xs := ?z_xs) ?z_h ?_); (case z_h => k_call_by "hf" 0))
  | ((with_reducible refine Z.i_listT (xs := ?z_xs) ?z_h ?_); (case z_h => k_call_by "hf" 0))
  | ((with_reducible refine Z.i_tupleL (xs := ?z_xs) ?z_h ?_); (case z_h => k_call_by "hf" 0))
  | ((with_reducible refine Z.i_rng1N ?z_h ?_); (case z_h => omega))
  | ((with_reducible refine Z.i_sL (xs := ?z_xs) ?z_h ?_); (case z_h => k_call_by "hf" 0))
  | ((with_reducible refine Z.i_sT (xs := ?z_xs) ?z_h ?_); (case z_h => k_call_by "hf" 0))
  | ((with_reducible refine Z.i_sQ (xs := ?z_xs) ?z_h ?_); (case z_h => k_call_by "hq" 0))
  | ((with_reducible refine Z.i_zipAL (xs := ?z_xs) (ys := ?z_ys) ?z_h ?z_h2 ?_); (case z_h => k_call_by "hq" 0); (case z_h2 => k_call_by "hq" 0))
  | ((with_reducible refine Z.i_zipAT (xs := ?z_xs) (ys := ?z_ys) ?z_h ?z_h2 ?_); (case z_h => k_call_by "hf" 0); (case z_h2 => k_call_by "hf" 0))
  | ((with_reducible refine Z.i_fld1 (C := ?z_C) (dx := ?z_dx) (fs := ?z_fs) (v := ?z_v) ?z_h ?z_c ?z_n ?z_l ?_); (case z_h => k_call_by "hf" 0); (case z_c => with_reducible assumption); (case z_n => with_reducible assumption); (case z_l => exact rfl))
  | ((with_reducible refine Z.i_fldS1 (C := ?z_C) (dx := ?z_dx) (fs := ?z_fs) ?z_h ?z_c ?z_n ?z_l ?_); (case z_h => k_call_by "hf" 0); (case z_c => with_reducible assumption); (case z_n => with_reducible assumption); (case z_l => exact rfl))
  | fail)
-- operations whose numbers are written
local macro_rules | `(tactic| k_call_by "zc" 0) => `(tactic| first
  | (show (0 : Int) < _; omega)
  | assumption
  | (refine ⟨?_, ?_, ?_⟩ <;> decide)
  | (refine ⟨?_, ?_⟩ <;> first | decide | omega)
  | fail)
local macro_rules | `(tactic| k_call_by "zn" 0) => `(tactic| first
  | ((with_reducible refine Z.i_I ?z_c ?_); (case z_c => k_call_by "zc" 0))
  | ((with_reducible refine Z.i_mulR ?z_c ?_); (case z_c => k_call_by "zc" 0))
  | ((with_reducible refine Z.i_mulJ ?z_c ?_); (case z_c => k_call_by "zc" 0))
  | fail)
local macro_rules | `(tactic| k_call_by "zz" 0) => `(tactic| repeat k_call_by "z" 0)
local macro_rules | `(tactic| k_call_by "zi" 0) => `(tactic| first
  | k_call_by "z" 0
  | with_reducible refine fun (_ : PySem.Addr) (_ : L2.Hp) (_ : Z.New _ _ _ _) => ?_
  | with_reducible refine fun (_ : L2.Hp) (_ : Z.Up _ _ _ _) => ?_
  | with_reducible refine fun (_ : PySem.Addr) (_ : PySem.Addr) (_ : L2.Hp) (_ : Z.Made _ _ _ _ _) => ?_
  | fail)
local macro_rules | `(tactic| k_call_by "za" 0) => `(tactic| repeat k_call_by "zi" 0)
local macro_rules | `(tactic| k_call_by "yi" 0) => `(tactic| first
  | k_call_by "y" 0
  | with_reducible refine fun (_ : PySem.Addr) (_ : L2.Hp) (_ : Z.New _ _ _ _) => ?_
  | with_reducible refine fun (_ : L2.Hp) (_ : Z.Up _ _ _ _) => ?_
  | with_reducible refine fun (_ : PySem.Addr) (_ : PySem.Addr) (_ : L2.Hp) (_ : Z.Made _ _ _ _ _) => ?_
  | fail)
local macro_rules | `(tactic| k_call_by "ya" 0) => `(tactic| repeat k_call_by "yi" 0)

namespace L
open PySem PySem.Spec PyProof.Rows L2
def top (i : Nat) : Stmt := PySem.Challenge.pw_sampleweave_k13_gains_turned.main.body.getD i (.Pass ⟨0, 0, 0, 0⟩)
abbrev s_l_cell : Stmt := top 18
abbrev n_l_cell : List Str := ["_law_script", "_law_k"]
abbrev p_l_cell : List Str := ["_law_script", "_law_k"]
theorem sc_l_cell : FnScope n_l_cell p_l_cell (defScope s_l_cell) := ⟨rfl, rfl, rfl, by decide +kernel, rfl, by decide +kernel, by decide +kernel⟩
def d_l_cell : He.DefD := ⟨("_law_cell", none), "_law_cell", "_law_cell", defArgs s_l_cell, defBody s_l_cell, defScope s_l_cell, [], []⟩
theorem bd_l_cell : Z.Bd d_l_cell p_l_cell 2 [] (fun _ vs _ => vs) := Z.Bd.plain rfl rfl rfl (fun _ _ _ _ _ _ us hl => match us, hl with | [_, _], _ => rfl)
abbrev s_l_pot : Stmt := top 19
abbrev n_l_pot : List Str := ["_law_cell_here"]
abbrev p_l_pot : List Str := ["_law_cell_here"]
theorem sc_l_pot : FnScope n_l_pot p_l_pot (defScope s_l_pot) := ⟨rfl, rfl, rfl, by decide +kernel, rfl, by decide +kernel, by decide +kernel⟩
def d_l_pot : He.DefD := ⟨("_law_pot", none), "_law_pot", "_law_pot", defArgs s_l_pot, defBody s_l_pot, defScope s_l_pot, [], []⟩
theorem bd_l_pot : Z.Bd d_l_pot p_l_pot 1 [] (fun _ vs _ => vs) := Z.Bd.plain rfl rfl rfl (fun _ _ _ _ _ _ us hl => match us, hl with | [_], _ => rfl)
abbrev s_l_draw : Stmt := top 20
abbrev n_l_draw : List Str := ["_law_pot_here", "_law_many", "_law_digit"]
abbrev p_l_draw : List Str := ["_law_pot_here", "_law_many"]
theorem sc_l_draw : FnScope n_l_draw p_l_draw (defScope s_l_draw) := ⟨rfl, rfl, rfl, by decide +kernel, rfl, by decide +kernel, by decide +kernel⟩
def d_l_draw : He.DefD := ⟨("_law_draw", none), "_law_draw", "_law_draw", defArgs s_l_draw, defBody s_l_draw, defScope s_l_draw, [], []⟩
theorem bd_l_draw : Z.Bd d_l_draw p_l_draw 2 [] (fun _ vs _ => vs) := Z.Bd.plain rfl rfl rfl (fun _ _ _ _ _ _ us hl => match us, hl with | [_, _], _ => rfl)
abbrev s_l_number : Stmt := top 21
abbrev n_l_number : List Str := ["_law_pot_here", "_law_way", "_law_found", "_law_k"]
abbrev p_l_number : List Str := ["_law_pot_here"]
theorem sc_l_number : FnScope n_l_number p_l_number (defScope s_l_number) := ⟨rfl, rfl, rfl, by decide +kernel, rfl, by decide +kernel, by decide +kernel⟩
def d_l_number : He.DefD := ⟨("_law_number", none), "_law_number", "_law_number", defArgs s_l_number, defBody s_l_number, defScope s_l_number, [], []⟩
theorem bd_l_number : Z.Bd d_l_number p_l_number 1 [] (fun _ vs _ => vs) := Z.Bd.plain rfl rfl rfl (fun _ _ _ _ _ _ us hl => match us, hl with | [_], _ => rfl)
abbrev s_is_whole : Stmt := top 7
abbrev n_is_whole : List Str := ["thing"]
abbrev p_is_whole : List Str := ["thing"]
theorem sc_is_whole : FnScope n_is_whole p_is_whole (defScope s_is_whole) := ⟨rfl, rfl, rfl, by decide +kernel, rfl, by decide +kernel, by decide +kernel⟩
def d_is_whole : He.DefD := ⟨("is_whole", none), "is_whole", "is_whole", defArgs s_is_whole, defBody s_is_whole, defScope s_is_whole, [], []⟩
theorem bd_is_whole : Z.Bd d_is_whole p_is_whole 1 [] (fun _ vs _ => vs) := Z.Bd.plain rfl rfl rfl (fun _ _ _ _ _ _ us hl => match us, hl with | [_], _ => rfl)
abbrev s_is_whole_from : Stmt := top 8
abbrev n_is_whole_from : List Str := ["thing", "least", "most"]
abbrev p_is_whole_from : List Str := ["thing", "least", "most"]
theorem sc_is_whole_from : FnScope n_is_whole_from p_is_whole_from (defScope s_is_whole_from) := ⟨rfl, rfl, rfl, by decide +kernel, rfl, by decide +kernel, by decide +kernel⟩
def d_is_whole_from : He.DefD := ⟨("is_whole_from", none), "is_whole_from", "is_whole_from", defArgs s_is_whole_from, defBody s_is_whole_from, defScope s_is_whole_from, [], []⟩
theorem bd_is_whole_from : Z.Bd d_is_whole_from p_is_whole_from 3 [] (fun _ vs _ => vs) := Z.Bd.plain rfl rfl rfl (fun _ _ _ _ _ _ us hl => match us, hl with | [_, _, _], _ => rfl)
abbrev s_want_steps : Stmt := top 9
abbrev n_want_steps : List Str := ["thing"]
abbrev p_want_steps : List Str := ["thing"]
theorem sc_want_steps : FnScope n_want_steps p_want_steps (defScope s_want_steps) := ⟨rfl, rfl, rfl, by decide +kernel, rfl, by decide +kernel, by decide +kernel⟩
def d_want_steps : He.DefD := ⟨("want_steps", none), "want_steps", "want_steps", defArgs s_want_steps, defBody s_want_steps, defScope s_want_steps, [], []⟩
theorem bd_want_steps : Z.Bd d_want_steps p_want_steps 1 [] (fun _ vs _ => vs) := Z.Bd.plain rfl rfl rfl (fun _ _ _ _ _ _ us hl => match us, hl with | [_], _ => rfl)
abbrev s_ramp : Stmt := top 10
abbrev n_ramp : List Str := ["first", "last", "steps", "k"]
abbrev p_ramp : List Str := ["first", "last", "steps"]
theorem sc_ramp : FnScope n_ramp p_ramp (defScope s_ramp) := ⟨rfl, rfl, rfl, by decide +kernel, rfl, by decide +kernel, by decide +kernel⟩
def d_ramp : He.DefD := ⟨("ramp", none), "ramp", "ramp", defArgs s_ramp, defBody s_ramp, defScope s_ramp, [], []⟩
theorem bd_ramp : Z.Bd d_ramp p_ramp 3 [] (fun _ vs _ => vs) := Z.Bd.plain rfl rfl rfl (fun _ _ _ _ _ _ us hl => match us, hl with | [_, _, _], _ => rfl)
abbrev s_want : Stmt := top 14
abbrev n_want : List Str := ["truth", "field"]
abbrev p_want : List Str := ["truth", "field"]
theorem sc_want : FnScope n_want p_want (defScope s_want) := ⟨rfl, rfl, rfl, by decide +kernel, rfl, by decide +kernel, by decide +kernel⟩
def d_want : He.DefD := ⟨("want", none), "want", "want", defArgs s_want, defBody s_want, defScope s_want, [], []⟩
theorem bd_want : Z.Bd d_want p_want 2 [] (fun _ vs _ => vs) := Z.Bd.plain rfl rfl rfl (fun _ _ _ _ _ _ us hl => match us, hl with | [_, _], _ => rfl)
abbrev s_Node_u__init : Stmt := inClass (top 15) 0
abbrev n_Node_u__init : List Str := ["self", "late", "begin"]
abbrev p_Node_u__init : List Str := ["self", "late", "begin"]
theorem sc_Node_u__init : FnScope n_Node_u__init p_Node_u__init (defScope s_Node_u__init) := ⟨rfl, rfl, rfl, by decide +kernel, rfl, by decide +kernel, by decide +kernel⟩
def d_Node_u__init : He.DefD := ⟨("Node", some "__init__"), "__init__", "Node.__init__", defArgs s_Node_u__init, defBody s_Node_u__init, defScope s_Node_u__init, [], []⟩
theorem bd_Node_u__init : Z.Bd d_Node_u__init p_Node_u__init 3 [] (fun _ vs _ => vs) := Z.Bd.plain rfl rfl rfl (fun _ _ _ _ _ _ us hl => match us, hl with | [_, _, _], _ => rfl)
abbrev s_Node_gives : Stmt := inClass (top 15) 4
abbrev n_Node_gives : List Str := ["self"]
abbrev p_Node_gives : List Str := ["self"]
theorem sc_Node_gives : FnScope n_Node_gives p_Node_gives (defScope s_Node_gives) := ⟨rfl, rfl, rfl, by decide +kernel, rfl, by decide +kernel, by decide +kernel⟩
def d_Node_gives : He.DefD := ⟨("Node", some "gives"), "gives", "Node.gives", defArgs s_Node_gives, defBody s_Node_gives, defScope s_Node_gives, [], []⟩
theorem bd_Node_gives : Z.Bd d_Node_gives p_Node_gives 1 [] (fun _ vs _ => vs) := Z.Bd.plain rfl rfl rfl (fun _ _ _ _ _ _ us hl => match us, hl with | [_], _ => rfl)
abbrev s_Gain_u__init : Stmt := inClass (top 16) 0
abbrev n_Gain_u__init : List Str := ["self", "by", "late", "begin"]
abbrev p_Gain_u__init : List Str := ["self", "by", "late", "begin"]
theorem sc_Gain_u__init : FnScope n_Gain_u__init p_Gain_u__init (defScope s_Gain_u__init) := ⟨rfl, rfl, rfl, by decide +kernel, rfl, by decide +kernel, by decide +kernel⟩
def d_Gain_u__init : He.DefD := ⟨("Gain", some "__init__"), "__init__", "Gain.__init__", defArgs s_Gain_u__init, defBody s_Gain_u__init, defScope s_Gain_u__init, [], [("late", .int 0), ("begin", .int 0)]⟩
abbrev s_Gain_at_first : Stmt := inClass (top 16) 4
abbrev n_Gain_at_first : List Str := ["self"]
abbrev p_Gain_at_first : List Str := ["self"]
theorem sc_Gain_at_first : FnScope n_Gain_at_first p_Gain_at_first (defScope s_Gain_at_first) := ⟨rfl, rfl, rfl, by decide +kernel, rfl, by decide +kernel, by decide +kernel⟩
def d_Gain_at_first : He.DefD := ⟨("Gain", some "at_first"), "at_first", "Gain.at_first", defArgs s_Gain_at_first, defBody s_Gain_at_first, defScope s_Gain_at_first, [], []⟩
theorem bd_Gain_at_first : Z.Bd d_Gain_at_first p_Gain_at_first 1 [] (fun _ vs _ => vs) := Z.Bd.plain rfl rfl rfl (fun _ _ _ _ _ _ us hl => match us, hl with | [_], _ => rfl)
abbrev s_Gain_worked : Stmt := inClass (top 16) 5
abbrev n_Gain_worked : List Str := ["self", "kept", "rows", "factor", "ahead"]
abbrev p_Gain_worked : List Str := ["self", "kept", "rows"]
theorem sc_Gain_worked : FnScope n_Gain_worked p_Gain_worked (defScope s_Gain_worked) := ⟨rfl, rfl, rfl, by decide +kernel, rfl, by decide +kernel, by decide +kernel⟩
def d_Gain_worked : He.DefD := ⟨("Gain", some "worked"), "worked", "Gain.worked", defArgs s_Gain_worked, defBody s_Gain_worked, defScope s_Gain_worked, [], []⟩
theorem bd_Gain_worked : Z.Bd d_Gain_worked p_Gain_worked 3 [] (fun _ vs _ => vs) := Z.Bd.plain rfl rfl rfl (fun _ _ _ _ _ _ us hl => match us, hl with | [_, _, _], _ => rfl)
abbrev s_Node_fresh : Stmt := inClass (top 15) 10
abbrev n_Node_fresh : List Str := ["self"]
abbrev p_Node_fresh : List Str := ["self"]
theorem sc_Node_fresh : FnScope n_Node_fresh p_Node_fresh (defScope s_Node_fresh) := ⟨rfl, rfl, rfl, by decide +kernel, rfl, by decide +kernel, by decide +kernel⟩
def d_Node_fresh : He.DefD := ⟨("Node", some "fresh"), "fresh", "Node.fresh", defArgs s_Node_fresh, defBody s_Node_fresh, defScope s_Node_fresh, [], []⟩
theorem bd_Node_fresh : Z.Bd d_Node_fresh p_Node_fresh 1 [] (fun _ vs _ => vs) := Z.Bd.plain rfl rfl rfl (fun _ _ _ _ _ _ us hl => match us, hl with | [_], _ => rfl)
abbrev s_Node_fire : Stmt := inClass (top 15) 11
abbrev n_Node_fire : List Str := ["self", "memory", "rows", "mute", "kept", "behind", "given"]
abbrev p_Node_fire : List Str := ["self", "memory", "rows"]
theorem sc_Node_fire : FnScope n_Node_fire p_Node_fire (defScope s_Node_fire) := ⟨rfl, rfl, rfl, by decide +kernel, rfl, by decide +kernel, by decide +kernel⟩
def d_Node_fire : He.DefD := ⟨("Node", some "fire"), "fire", "Node.fire", defArgs s_Node_fire, defBody s_Node_fire, defScope s_Node_fire, [], []⟩
theorem bd_Node_fire : Z.Bd d_Node_fire p_Node_fire 3 [] (fun _ vs _ => vs) := Z.Bd.plain rfl rfl rfl (fun _ _ _ _ _ _ us hl => match us, hl with | [_, _, _], _ => rfl)
abbrev s_Gain_factor : Stmt := inClass (top 16) 6
abbrev n_Gain_factor : List Str := ["self", "memory"]
abbrev p_Gain_factor : List Str := ["self", "memory"]
theorem sc_Gain_factor : FnScope n_Gain_factor p_Gain_factor (defScope s_Gain_factor) := ⟨rfl, rfl, rfl, by decide +kernel, rfl, by decide +kernel, by decide +kernel⟩
def d_Gain_factor : He.DefD := ⟨("Gain", some "factor"), "factor", "Gain.factor", defArgs s_Gain_factor, defBody s_Gain_factor, defScope s_Gain_factor, [], []⟩
theorem bd_Gain_factor : Z.Bd d_Gain_factor p_Gain_factor 2 [] (fun _ vs _ => vs) := Z.Bd.plain rfl rfl rfl (fun _ _ _ _ _ _ us hl => match us, hl with | [_, _], _ => rfl)
abbrev s_Gain_turned : Stmt := inClass (top 16) 7
abbrev n_Gain_turned : List Str := ["self", "memory", "by", "steps", "numbers"]
abbrev p_Gain_turned : List Str := ["self", "memory", "by", "steps"]
theorem sc_Gain_turned : FnScope n_Gain_turned p_Gain_turned (defScope s_Gain_turned) := ⟨rfl, rfl, rfl, by decide +kernel, rfl, by decide +kernel, by decide +kernel⟩
def d_Gain_turned : He.DefD := ⟨("Gain", some "turned"), "turned", "Gain.turned", defArgs s_Gain_turned, defBody s_Gain_turned, defScope s_Gain_turned, [], []⟩
theorem bd_Gain_turned : Z.Bd d_Gain_turned p_Gain_turned 4 [] (fun _ vs _ => vs) := Z.Bd.plain rfl rfl rfl (fun _ _ _ _ _ _ us hl => match us, hl with | [_, _, _, _], _ => rfl)
abbrev s_l_ramp : Stmt := top 22
abbrev n_l_ramp : List Str := ["_law_one", "_law_other", "_law_many", "_law_k"]
abbrev p_l_ramp : List Str := ["_law_one", "_law_other", "_law_many"]
theorem sc_l_ramp : FnScope n_l_ramp p_l_ramp (defScope s_l_ramp) := ⟨rfl, rfl, rfl, by decide +kernel, rfl, by decide +kernel, by decide +kernel⟩
def d_l_ramp : He.DefD := ⟨("_law_ramp", none), "_law_ramp", "_law_ramp", defArgs s_l_ramp, defBody s_l_ramp, defScope s_l_ramp, [], []⟩
theorem bd_l_ramp : Z.Bd d_l_ramp p_l_ramp 3 [] (fun _ vs _ => vs) := Z.Bd.plain rfl rfl rfl (fun _ _ _ _ _ _ us hl => match us, hl with | [_, _, _], _ => rfl)
abbrev s_l_refused : Stmt := top 23
abbrev n_l_refused : List Str := ["_law_node", "_law_memory", "_law_thing", "_law_is_due", "e"]
abbrev p_l_refused : List Str := ["_law_node", "_law_memory", "_law_thing"]
theorem sc_l_refused : FnScope n_l_refused p_l_refused (defScope s_l_refused) := ⟨rfl, rfl, rfl, by decide +kernel, rfl, by decide +kernel, by decide +kernel⟩
def d_l_refused : He.DefD := ⟨("_law_refused", none), "_law_refused", "_law_refused", defArgs s_l_refused, defBody s_l_refused, defScope s_l_refused, [], []⟩
theorem bd_l_refused : Z.Bd d_l_refused p_l_refused 3 [] (fun _ vs _ => vs) := Z.Bd.plain rfl rfl rfl (fun _ _ _ _ _ _ us hl => match us, hl with | [_, _, _], _ => rfl)
abbrev s_l_turned : Stmt := top 24
abbrev n_l_turned : List Str := ["_law_pot_here", "_law_node", "_law_memory", "_law_own", "_law_number_here", "_law_many", "_law_kept", "_law_made"]
abbrev p_l_turned : List Str := ["_law_pot_here", "_law_node", "_law_memory", "_law_own"]
theorem sc_l_turned : FnScope n_l_turned p_l_turned (defScope s_l_turned) := ⟨rfl, rfl, rfl, by decide +kernel, rfl, by decide +kernel, by decide +kernel⟩
def d_l_turned : He.DefD := ⟨("_law_turned", none), "_law_turned", "_law_turned", defArgs s_l_turned, defBody s_l_turned, defScope s_l_turned, [], []⟩
theorem bd_l_turned : Z.Bd d_l_turned p_l_turned 4 [] (fun _ vs _ => vs) := Z.Bd.plain rfl rfl rfl (fun _ _ _ _ _ _ us hl => match us, hl with | [_, _, _, _], _ => rfl)
abbrev s_l_fired : Stmt := top 25
abbrev n_l_fired : List Str := ["_law_pot_here", "_law_node", "_law_memory", "_law_own", "_law_sample", "_law_behind", "_law_due", "_law_kept", "_law_made", "_law_given"]
abbrev p_l_fired : List Str := ["_law_pot_here", "_law_node", "_law_memory", "_law_own"]
theorem sc_l_fired : FnScope n_l_fired p_l_fired (defScope s_l_fired) := ⟨rfl, rfl, rfl, by decide +kernel, rfl, by decide +kernel, by decide +kernel⟩
def d_l_fired : He.DefD := ⟨("_law_fired", none), "_law_fired", "_law_fired", defArgs s_l_fired, defBody s_l_fired, defScope s_l_fired, [], []⟩
theorem bd_l_fired : Z.Bd d_l_fired p_l_fired 4 [] (fun _ vs _ => vs) := Z.Bd.plain rfl rfl rfl (fun _ _ _ _ _ _ us hl => match us, hl with | [_, _, _, _], _ => rfl)
abbrev s_law : Stmt := top 26
abbrev n_law : List Str := ["_law_script", "_law_k", "_law_pot_here", "_law_number_here", "_law_mute", "_law_node", "_law_both", "_law_j", "_law_at", "_law_deed", "_law_odd", "_law_one"]
abbrev p_law : List Str := ["_law_script"]
theorem sc_law : FnScope n_law p_law (defScope s_law) := ⟨rfl, rfl, rfl, by decide +kernel, rfl, by decide +kernel, by decide +kernel⟩
def d_law : He.DefD := ⟨("law", none), "law", "law", defArgs s_law, defBody s_law, defScope s_law, [], []⟩
theorem bd_law : Z.Bd d_law p_law 1 [] (fun _ vs _ => vs) := Z.Bd.plain rfl rfl rfl (fun _ _ _ _ _ _ us hl => match us, hl with | [_], _ => rfl)
theorem kb_Gain_u__init_2_begin : Z.Bd d_Gain_u__init p_Gain_u__init 2 ["begin"] (fun K vs zs => Z.gP [0, 1, 2, 3] (vs ++ (([V.int 0] : List V) ++ zs))) := Z.Bd.b [("late", .int 0)] [0, 1, 2, 3] rfl (List.cons_ne_nil _ _) (fun q h => by
  cases h with
  | head => exact (.head _)
  | tail _ h => cases h) (fun D doc pm an cdv ct us mv ws l1 l2 l3 => match us, mv, ws, l1, l2, l3 with | [a0, a1], [m0], [w0], _, _, _ => ⟨_, _, _, _, _, _, rfl, rfl, rfl⟩)
def fa : List He.Fa := [.noat "Gain" "own_late", .free "len", .free "max", .glo "_law_draw", .free "range", .free "isinstance", .free "bool", .free "int", .glo "is_whole", .glo "is_whole_from", .int "MOST_STEPS" 400, .glo "NoSteps", .glo "want_steps", .glo "want", .int "MOST_BEGIN" 9999, .int "MOST_LATE" 99, .glo "Node", .cls "Gain", .free "tuple", .glo "ramp", .glo "WeaveError", .glo "_law_ramp", .free "repr", .glo "_law_number", .free "list", .free "min", .glo "_law_refused", .glo "_law_fired", .glo "_law_turned", .mkr "Gain", .glo "Gain", .glo "_law_pot", .glo "_law_cell", .noat "Gain" "own_begin", .noat "Gain" "own_by", .glo "law"]
def fx : List Z.Fx := [Z.fxExm "NoSteps" "WeaveError" true, Z.fxExC "NoSteps", Z.fxKit "NoSteps" "NoSteps" true, Z.fxExc "NoSteps", Z.fxC "Node" "__init__", Z.fxM "Gain" "at_first" "Gain", Z.fxM "Gain" "worked" "Gain", Z.fxM "Gain" "gives" "Node", Z.fxM "Gain" "factor" "Gain", Z.fxM "Gain" "turned" "Gain", Z.fxM "Gain" "fire" "Node", Z.fxM "Gain" "fresh" "Node"]
def dl : List He.DefD := [d_l_cell, d_l_pot, d_l_draw, d_l_number, d_is_whole, d_is_whole_from, d_want_steps, d_ramp, d_want, d_Node_u__init, d_Node_gives, d_Gain_u__init, d_Gain_at_first, d_Gain_worked, d_Node_fresh, d_Node_fire, d_Gain_factor, d_Gain_turned, d_l_ramp, d_l_refused, d_l_turned, d_l_fired, d_law]
abbrev Ev (K : PySem.W.Frag) (mg : Str → Option Value) : Prop := Z.Ev fa fx dl K mg

/-- a pot: what digits are left, and a number to mix -/
def Pot (H : Hp) (a : Addr) : Prop := ∃ x y : Int, H a = some (.lst [.int x, .int y]) ∧ 0 ≤ y ∧ y < 4294967296
theorem divW {i m : Int} (h : 0 < m) (b : m.natAbs < 2 ^ 250) : CDivW i m := wide_div h b (by decide) (by decide)
theorem divP {i m : Int} (h : 0 < m) (b : m.natAbs < 2 ^ 250) : CDivP i m := Z.divP h b (by decide) (by decide)
theorem Pot.ne {H : Hp} {a D : Addr} (p : Pot H a) (f : H D = none) : D ≠ a := by
  obtain ⟨x, y, h, _⟩ := p
  exact (L2.ne_of_none h f).symm
theorem Pot.mono {H H' : Hp} {a : Addr} (p : Pot H a) (s : Same H H') : Pot H' a := by
  obtain ⟨x, y, h, q⟩ := p
  exact ⟨x, y, s _ _ h, q⟩
theorem Pot.up {H H' : Hp} {a D : Addr} {o : HO} (p : Pot H a) (u : Z.Up H D o H') (ne : a ≠ D) : Pot H' a := by
  obtain ⟨x, y, h, q⟩ := p
  exact ⟨x, y, u.get ne h, q⟩
theorem Pot.new {H H' : Hp} {a D : Addr} {o : HO} (p : Pot H a) (u : Z.New H D o H') : Pot H' a := p.mono u.same
/-- a number that the laws draw -/
def Num (r : Int) : Prop := r.natAbs < 2 ^ 200
theorem num_of {r : Int} (h : -1000000000000000000 ≤ r ∧ r ≤ 1000000000000000000) : Num r := by
  unfold Num
  have : r.natAbs ≤ 1000000000000000000 := by omega
  exact Nat.lt_of_le_of_lt this (by decide)
theorem Num.big {a : Int} (h : Num a) : a.natAbs < Z.big := Nat.lt_of_lt_of_le h (by unfold Z.big; exact Nat.pow_le_pow_right (by decide) (by decide))
theorem num_mul {a b : Int} (h : Num a) (g : Num b) : CMulX a b := mulx_ok h g (by decide)
theorem map_take_succ {α β : Type} (f : α → β) {xs : List α} {i : Nat} {x : α} (h : xs[i]? = some x) : (xs.take (i + 1)).map f = (xs.take i).map f ++ [f x] := by
  rw [List.take_add_one, h, List.map_append]; rfl
theorem ints_at {ns : List Int} {i : Nat} {v : V} (h : (ns.map V.int)[i]? = some v) : ∃ z, ns[i]? = some z ∧ v = .int z := by
  rw [List.getElem?_map] at h
  cases e : ns[i]? with
  | none => rw [e] at h; cases h
  | some z => rw [e] at h; exact ⟨z, rfl, (Option.some.inj h).symm⟩
theorem pick {xs : List Int} {r : Int} (h0 : 0 ≤ r) (h1 : r < xs.length) : ∃ v, atI (xs.map V.int) r = some (.int v) ∧ xs[r.toNat]? = some v := by
  obtain ⟨n, rfl⟩ : ∃ n : Nat, r = n := ⟨r.toNat, by omega⟩
  have hn : n < xs.length := by omega
  refine ⟨xs[n], atI_nat (by rw [List.getElem?_map, List.getElem?_eq_getElem hn]; rfl), by simp⟩
theorem take_snoc {α : Type} {xs : List α} {i : Nat} {x : α} (h : xs[i]? = some x) : xs.take (i + 1) = xs.take i ++ [x] := by
  rw [List.take_add_one, h]; rfl

def sp_l_cell (K : PySem.W.Frag) : Sp := fun vz H Q Ex => ∃ (s0 : Addr) (ns : List Int) (i : Nat), vz = [.ref s0, .int (i : Int)] ∧ (SqL K H s0 (ns.map V.int)) ∧ (i < 64) ∧ (∀ z : Int, Q (.int z) H)
theorem c_l_cell {K : PySem.W.Frag} {H : Hp} {Q : VK} {Ex : XK} {s0 : Addr} {ns : List Int} {i : Nat} (h1 : SqL K H s0 (ns.map V.int)) (h2 : i < 64) (k : ∀ z : Int, Q (.int z) H) : sp_l_cell K [.ref s0, .int (i : Int)] H Q Ex := ⟨s0, ns, i, rfl, h1, h2, k⟩
theorem ok_l_cell {g : Prop} {P : Program} {w : World} {K : PySem.W.Frag} {mg : Str → Option Value} {base : Heap} (E : Ev K mg) : Z.Pr g P w K mg base 1 (He.ga K "_law_cell") d_l_cell p_l_cell (sp_l_cell K) := by
  obtain ⟨fd, FD⟩ := E.fn 0 (d := d_l_cell)
  refine ⟨fd, FD, Z.FunD.okG FD sc_l_cell (fun vz H Q Ex h => ?_) (fun cdv A outer s H vz Q Ex hr hgd h => ?_)⟩
  · obtain ⟨_, _, _, rfl, _⟩ := h
    rfl
  · have hu := hr.units
    obtain ⟨s0, ns, i, rfl, h1, h2, k⟩ := h
    refine ⟨_, (Z.zs_one (Z.z_ret (pe_ifExp (pt_cmpR op_lt (pv 1) (pe_callB (Z.clenK K rfl) (by rfl) (E.free 1) (by decide +kernel) (pa_cons (pv 0) pa_nil)) (nomark _)) (pe_ix (Z.ixUK K rfl) (pv 0) (pv 1) (fun _ _ => rfl)) pe_int))), ?_⟩
    refine Z.i_start (σ := [some (.ref s0), some (.int (i : Int))]) rfl ?_
    try dsimp only [Z.cxK]
    k_call_by "za" 0
    refine Z.ite2' (fun hx => ?_) (fun hx => ?_)
    · k_call_by "za" 0
      obtain ⟨z, hz⟩ : ∃ z, ns[i]? = some z := ⟨ns[i]'(by omega), by simp⟩
      refine Z.i_ixQ h1 (atI_nat (by rw [List.getElem?_map, hz]; rfl)) ?_
      exact k z
    · k_call_by "za" 0
      exact k 0
def sp_l_pot (K : PySem.W.Frag) : Sp := fun vz H Q Ex => ∃ (c : Int), vz = [.int c] ∧ (∀ p H', H p = none → Same H H' → Pot H' p → Q (.ref p) H')
theorem c_l_pot {K : PySem.W.Frag} {H : Hp} {Q : VK} {Ex : XK} {c : Int}  (k : ∀ p H', H p = none → Same H H' → Pot H' p → Q (.ref p) H') : sp_l_pot K [.int c] H Q Ex := ⟨c, rfl, k⟩
theorem ok_l_pot {g : Prop} {P : Program} {w : World} {K : PySem.W.Frag} {mg : Str → Option Value} {base : Heap} (E : Ev K mg) : Z.Pr g P w K mg base 1 (He.ga K "_law_pot") d_l_pot p_l_pot (sp_l_pot K) := by
  obtain ⟨fd, FD⟩ := E.fn 1 (d := d_l_pot)
  refine ⟨fd, FD, Z.FunD.okG FD sc_l_pot (fun vz H Q Ex h => ?_) (fun cdv A outer s H vz Q Ex hr hgd h => ?_)⟩
  · obtain ⟨_, rfl, _⟩ := h
    rfl
  · have hu := hr.units
    obtain ⟨c, rfl, k⟩ := h
    refine ⟨_, (Z.zs_one (Z.z_ret (pe_lst (pa_cons (pe_callB (Z.cmax2 rfl) (by rfl) (E.free 2) (by decide +kernel) (pa_cons pe_int (pa_cons (pe_op op_sub (pv 0) (pe_op op_pow pe_int pe_int)) pa_nil))) (pa_cons (pe_op op_mod (pe_op (Z.opAddK K rfl) (pe_op (Z.opMulK K rfl) (pe_op op_mod (pv 0) pe_int) pe_int) pe_int) pe_int) pa_nil))))), ?_⟩
    refine Z.i_start (σ := [some (.int c)]) rfl ?_
    try dsimp only [Z.cxK]
    k_call_by "za" 0
    rename_i p H' n
    exact k p H' n.fr n.same ⟨_, _, n.at, Int.emod_nonneg _ (by decide), Int.lt_trans (Int.emod_lt_of_pos _ (by decide)) (by decide)⟩
def sp_l_draw (K : PySem.W.Frag) : Sp := fun vz H Q Ex => ∃ (a : Addr) (m : Int), vz = [.ref a, .int m] ∧ (Pot H a) ∧ (0 < m) ∧ (m.natAbs < 2 ^ 250) ∧ (∀ r H', 0 ≤ r → r < m → Pot H' a → Z.But a H H' → Q (.int r) H')
theorem c_l_draw {K : PySem.W.Frag} {H : Hp} {Q : VK} {Ex : XK} {a : Addr} {m : Int} (h1 : Pot H a) (h2 : 0 < m) (h3 : m.natAbs < 2 ^ 250) (k : ∀ r H', 0 ≤ r → r < m → Pot H' a → Z.But a H H' → Q (.int r) H') : sp_l_draw K [.ref a, .int m] H Q Ex := ⟨a, m, rfl, h1, h2, h3, k⟩
theorem ok_l_draw {g : Prop} {P : Program} {w : World} {K : PySem.W.Frag} {mg : Str → Option Value} {base : Heap} (E : Ev K mg) : Z.Pr g P w K mg base 1 (He.ga K "_law_draw") d_l_draw p_l_draw (sp_l_draw K) := by
  obtain ⟨fd, FD⟩ := E.fn 2 (d := d_l_draw)
  refine ⟨fd, FD, Z.FunD.okG FD sc_l_draw (fun vz H Q Ex h => ?_) (fun cdv A outer s H vz Q Ex hr hgd h => ?_)⟩
  · obtain ⟨_, _, rfl, _⟩ := h
    rfl
  · have hu := hr.units
    obtain ⟨a, m, rfl, h1, h2, h3, k⟩ := h
    refine ⟨_, (Z.zs_cons (Z.z_if (pt_cmpR op_gt (pe_ix (Z.ixUK K rfl) (pv 0) pe_int (fun _ _ => rfl)) pe_int (nomark _)) (Z.zs_cons (Z.z_set (i := 2) sc_l_draw.nd rfl (Or.inl rfl) (pe_op op_mod (pe_ix (Z.ixUK K rfl) (pv 0) pe_int (fun _ _ => rfl)) (pv 1)))
   (Z.zs_cons (Z.z_asg (pe_op op_fdivW (pe_ix (Z.ixUK K rfl) (pv 0) pe_int (fun _ _ => rfl)) (pv 1)) (pg_sub (pv 0) pe_int set_list))
   (Z.zs_one (Z.z_ret (pv 2))))) Z.zs_nil)
   (Z.zs_cons (Z.z_asg (pe_op op_mod (pe_op (Z.opAddK K rfl) (pe_op (Z.opMulK K rfl) (pe_ix (Z.ixUK K rfl) (pv 0) pe_int (fun _ _ => rfl)) pe_int) pe_int) pe_int) (pg_sub (pv 0) pe_int set_list))
   (Z.zs_one (Z.z_ret (pe_op op_mod (pe_op op_fdivW (pe_op op_mod (pe_op (Z.opMulK K rfl) (pe_ix (Z.ixUK K rfl) (pv 0) pe_int (fun _ _ => rfl)) (pe_ix (Z.ixUK K rfl) (pv 0) pe_int (fun _ _ => rfl))) pe_int) pe_int) (pv 1)))))), ?_⟩
    refine Z.i_start (σ := [some (.ref a), some (.int m), none]) rfl ?_
    try dsimp only [Z.cxK]
    obtain ⟨x, y, hp, hy0, hy1⟩ := h1
    k_call_by "za" 0
    refine Z.ite2' (fun hx => ?_) (fun hx => ?_)
    · k_call_by "za" 0
      refine Z.i_I (divW h2 h3) ?_
      k_call_by "za" 0
      rename_i H2 u2
      exact k _ _ (Int.emod_nonneg _ (by omega)) (Int.emod_lt_of_pos _ h2) ⟨_, _, u2.at, hy0, hy1⟩ (by k_call_by "fr" 0)
    · k_call_by "za" 0
      rename_i H2 u2
      have e0 : 0 ≤ (y * 39373 + 8191) % 2147483587 := Int.emod_nonneg _ (by decide)
      have e1 : (y * 39373 + 8191) % 2147483587 < 2147483587 := Int.emod_lt_of_pos _ (by decide)
      k_call_by "za" 0
      exact k _ _ (Int.emod_nonneg _ (by omega)) (Int.emod_lt_of_pos _ h2) ⟨_, _, u2.at, e0, by omega⟩ (by k_call_by "fr" 0)

theorem e14 : (10 : Int) ^ (Int.toNat 14) = 100000000000000 := by decide
theorem e9 : (10 : Int) ^ (Int.toNat 9) = 1000000000 := by decide
theorem grow {f r : Int} {i : Nat} (h0 : 0 ≤ f) (h1 : f < 100000000000000 ^ i) (r0 : 0 ≤ r) (r1 : r < 100000000000000) : 0 ≤ f * 100000000000000 + r ∧ f * 100000000000000 + r < 100000000000000 ^ (i + 1) := by
  refine ⟨by omega, ?_⟩
  rw [Int.pow_succ]
  omega
theorem way_one {r : Int} (h0 : 0 ≤ r) (h1 : r < 8) (h2 : ¬ r = 0) : r = 1 ∨ r = 2 ∨ r = 3 ∨ r = 4 ∨ r = 5 ∨ r = 6 ∨ r = 7 := by omega

def sp_l_number (K : PySem.W.Frag) : Sp := fun vz H Q Ex => ∃ (a : Addr), vz = [.ref a] ∧ (Pot H a) ∧ (∀ r H', Num r → Pot H' a → Z.But a H H' → Q (.int r) H')
theorem c_l_number {K : PySem.W.Frag} {H : Hp} {Q : VK} {Ex : XK} {a : Addr} (h1 : Pot H a) (k : ∀ r H', Num r → Pot H' a → Z.But a H H' → Q (.int r) H') : sp_l_number K [.ref a] H Q Ex := ⟨a, rfl, h1, k⟩
theorem ok_l_number {g : Prop} {P : Program} {w : World} {K : PySem.W.Frag} {mg : Str → Option Value} {base : Heap} (E : Ev K mg) : Z.Pr g P w K mg base 2 (He.ga K "_law_number") d_l_number p_l_number (sp_l_number K) := by
  obtain ⟨fd, FD⟩ := E.fn 3 (d := d_l_number)
  refine ⟨fd, FD, Z.FunD.okG FD sc_l_number (fun vz H Q Ex h => ?_) (fun cdv A outer s H vz Q Ex hr hgd h => ?_)⟩
  · obtain ⟨_, rfl, _⟩ := h
    rfl
  · have hu := hr.units
    obtain ⟨a, rfl, h1, k⟩ := h
    have F_l_draw := ok_l_draw (g := g) (P := P) (w := w) (base := base) E
    refine ⟨_, (Z.zs_cons (Z.z_set (i := 1) sc_l_number.nd rfl (Or.inl rfl) (Z.pe_f F_l_draw (hr.mono (by decide)) hgd (by rfl) (E.glo 3) bd_l_draw (passL) (pa_cons (pv 0) (pa_cons pe_int pa_nil))))
   (Z.zs_cons (Z.z_if (pt_cmpR (Z.opEqK K rfl hu) (pv 1) pe_int (nomark _)) (Z.zs_cons (Z.z_set (i := 2) sc_l_number.nd rfl (Or.inl rfl) pe_int)
   (Z.zs_cons (Z.z_for (passes_of rfl) rfl (pi_range1 (by rfl) (E.free 4) (pa_cons pe_int pa_nil)) (pg_name (i := 3) sc_l_number.nd rfl (Or.inl rfl))
   (Z.zs_one (Z.z_set (i := 2) sc_l_number.nd rfl (Or.inl rfl) (pe_op (Z.opAddK K rfl) (pe_op (Z.opMulK K rfl) (pv 2) (pe_op op_pow pe_int pe_int)) (Z.pe_f F_l_draw (hr.mono (by decide)) hgd (by rfl) (E.glo 3) bd_l_draw (passL) (pa_cons (pv 0) (pa_cons (pe_op op_pow pe_int pe_int) pa_nil)))))))
   (Z.zs_one (Z.z_ret (pe_op (Z.opMulK K rfl) (pv 2) (pe_op op_sub pe_int (pe_op (Z.opMulK K rfl) pe_int (Z.pe_f F_l_draw (hr.mono (by decide)) hgd (by rfl) (E.glo 3) bd_l_draw (passL) (pa_cons (pv 0) (pa_cons pe_int pa_nil)))))))))) Z.zs_nil)
   (Z.zs_one (Z.z_ret (pe_op op_sub (Z.pe_f F_l_draw (hr.mono (by decide)) hgd (by rfl) (E.glo 3) bd_l_draw (passL) (pa_cons (pv 0) (pa_cons (pe_ix (Z.ixUK K rfl) (pe_lst (pa_cons pe_int (pa_cons pe_int (pa_cons pe_int (pa_cons pe_int (pa_cons pe_int (pa_cons pe_int (pa_cons (pe_op op_pow pe_int pe_int) pa_nil)))))))) (pe_op op_sub (pv 1) pe_int) (fun _ _ => rfl)) pa_nil))) (pe_ix (Z.ixUK K rfl) (pe_lst (pa_cons pe_int (pa_cons pe_int (pa_cons pe_int (pa_cons pe_int (pa_cons pe_int (pa_cons pe_int (pa_cons pe_int pa_nil)))))))) (pe_op op_sub (pv 1) pe_int) (fun _ _ => rfl))))))), ?_⟩
    refine Z.i_start (σ := [some (.ref a), none, none, none]) rfl ?_
    try dsimp only [Z.cxK]
    k_call_by "za" 0
    refine c_l_draw h1 (by decide) (by decide) fun r H1 r0 r1 p1 b1 => ?_
    k_call_by "za" 0
    refine Z.ite2' (fun hz => ?_) (fun hz => ?_)
    · k_call_by "za" 0
      refine Z.i_rng1L 4 rfl (by decide) ?_
      refine Z.loop_range0 (fun i σ H' => (∃ (f : Int) (x3 : Option V), σ = [some (.ref a), some (.int r), some (.int f), x3] ∧ 0 ≤ f ∧ f < 100000000000000 ^ i) ∧ Pot H' a ∧ Z.But a H H') ?_ ?_ ?_
      · exact ⟨⟨0, _, rfl, by decide, by decide⟩, p1, b1⟩
      · rintro i σ H2 hi ⟨⟨f, x3, rfl, f0, f1⟩, p2, b2⟩
        k_call_by "za" 0
        rw [e14]
        refine c_l_draw p2 (by decide) (by decide) fun q H3 q0 q1 p3 b3 => ?_
        k_call_by "za" 0
        have e := grow f0 f1 q0 q1
        exact ⟨⟨_, _, rfl, e.1, e.2⟩, p3, b2.trans b3⟩
      · rintro σ H2 ⟨⟨f, x3, rfl, f0, f1⟩, p2, b2⟩
        k_call_by "za" 0
        refine c_l_draw p2 (by decide) (by decide) fun q H3 q0 q1 p3 b3 => ?_
        k_call_by "za" 0
        have hf : f.natAbs < 2 ^ 190 := by
          have : (100000000000000 : Int) ^ 4 = 100000000000000000000000000000000000000000000000000000000 := by decide
          rw [this] at f1
          exact Nat.lt_trans (m := 100000000000000000000000000000000000000000000000000000000) (by omega) (by decide)
        have hs : (1 - 2 * q).natAbs < 2 ^ 2 := by omega
        refine k _ _ ?_ p3 (b2.trans b3)
        unfold Num
        rw [Int.natAbs_mul]
        have h9 : f.natAbs * (1 - 2 * q).natAbs < 2 ^ 190 * 2 ^ 2 := Nat.mul_lt_mul_of_lt_of_le hf (Nat.le_of_lt hs) (by decide)
        exact Nat.lt_of_lt_of_le h9 (by decide)
    · k_call_by "za" 0
      rename_i t1 H2 n2
      obtain ⟨m, hm, em⟩ := pick (xs := [21, 21, 21, 3, 201, 2001, (10 : Int) ^ (Int.toNat 9)]) (r := r - 1) (by omega) (by show _ < (7 : Int); omega)
      have hb : 0 < m ∧ m ≤ 1000000000 := by
        rw [e9] at em
        rcases way_one r0 r1 hz with rfl | rfl | rfl | rfl | rfl | rfl | rfl <;> cases em <;> decide
      refine Z.i_ixL n2.at hm ?_
      k_call_by "za" 0
      refine c_l_draw (p1.new n2) hb.1 (Nat.lt_of_le_of_lt (m := 1000000000) (by omega) (by decide)) fun q H3 q0 q1 p3 b3 => ?_
      k_call_by "za" 0
      rename_i t2 H4 n4
      obtain ⟨c, hc, ec⟩ := pick (xs := [10, 10, 5, 1, 100, 1000, 500000000]) (r := r - 1) (by omega) (by show _ < (7 : Int); omega)
      have hb2 : 0 < c ∧ c ≤ 500000000 := by
        rcases way_one r0 r1 hz with rfl | rfl | rfl | rfl | rfl | rfl | rfl <;> cases ec <;> decide
      refine Z.i_ixL n4.at hc ?_
      k_call_by "za" 0
      exact k _ _ (num_of (by omega)) (p3.new n4) (by k_call_by "fr" 0)
/-! ### the sorts of nodes -/
inductive Nd where
  | gain (gn : Int)
/-- what a node keeps -/
inductive Kp where
  | unit
  | int (i : Int)
  | tup (ns : List Int)
  | gain (f : Int) (ns : List Int)
def r0 (rows : List (List Int)) : Int := ((rows[0]?).getD []).headD 0
def r1 (rows : List (List Int)) : Int := ((rows[1]?).getD []).headD 0
def r2 (rows : List (List Int)) : Int := ((rows[2]?).getD []).headD 0
def Kp.tl : Kp → List Int
  | .tup ns => ns
  | _ => []
def Kp.num : Kp → Int
  | .int i => i
  | _ => 0
def Kp.now : Kp → Int × List Int
  | .gain f [] => (f, [])
  | .gain _ (n :: r) => (n, r)
  | _ => (0, [])
def tapped (ns ts : List Int) : Int := ((ns.zip ts).map fun p => p.1 * p.2).sum
def Nd.takes : Nd → List Nat
  | .gain gn => [1]
def Nd.gives : Nd → Nat
  | .gain gn => 1
def Nd.first : Nd → Kp
  | .gain gn => .gain gn []
def Nd.worked : Nd → Kp → List (List Int) → Kp × List Int
  | .gain gn, kp, rows => (.gain kp.now.1 kp.now.2, [r0 rows * kp.now.1])
def Nd.wf : Nd → Prop
  | .gain gn => Num gn
def Nd.tk (nd : Nd) : List Int := nd.takes.map fun n => ((n : Nat) : Int)
def Nd.fire (nd : Nd) (m : Nat) (kp : Kp) (rows : List (List Int)) : Nat × Kp × List Int := if m = 0 then (0, (nd.worked kp rows).1, (nd.worked kp rows).2) else (m - 1, kp, List.replicate nd.gives 0)
def IsNd (K : PySem.W.Frag) (H : Hp) (a : Addr) (l b : Nat) : Nd → Prop
  | .gain gn => ∃ dx , H a = some (.ins (He.ga K "Gain") dx [("own_late", .int (l : Nat)), ("own_begin", .int (b : Nat)), ("own_by", .int gn)])

/-- v is what kp tells -/
def IsKp (H : Hp) (v : V) : Kp → Prop
  | .unit => ∃ r, v = .ref r ∧ H r = some (.tup [])
  | .int i => v = .int i
  | .tup ns => ∃ r, v = .ref r ∧ H r = some (.tup (ns.map V.int))
  | .gain f ns => ∃ r s, v = .ref r ∧ H r = some (.tup [.int f, .ref s]) ∧ H s = some (.tup (ns.map V.int))
def IsMem (H : Hp) (v : V) (m : Nat) (kp : Kp) : Prop := ∃ r w, v = .ref r ∧ H r = some (.tup [.int (m : Nat), w]) ∧ IsKp H w kp
def IsRow (H : Hp) (v : V) (row : List Int) : Prop := ∃ q, v = .ref q ∧ H q = some (.lst (row.map V.int))
def IsRows (H : Hp) (p : Addr) (rows : List (List Int)) : Prop := ∃ vs, H p = some (.lst vs) ∧ Z.All2 (IsRow H) vs rows
/-- tuples and instances stand -/
structure Kept (H H' : Hp) : Prop where
  t : ∀ r xs, H r = some (.tup xs) → H' r = some (.tup xs)
  i : ∀ r C dx fs, H r = some (.ins C dx fs) → H' r = some (.ins C dx fs)
theorem Kept.of {H H' : Hp} (s : Same H H') : Kept H H' := ⟨fun _ _ h => s _ _ h, fun _ _ _ _ h => s _ _ h⟩
theorem Kept.but {H H' : Hp} {a : Addr} {xs : List V} (b : Z.But a H H') (h : H a = some (.lst xs)) : Kept H H' :=
  ⟨fun _ _ e => b.get (Z.ne_tl e h) e, fun _ _ _ _ e => b.get (Z.ne_il e h) e⟩
theorem Kept.up {H H' : Hp} {a : Addr} {xs : List V} {o : HO} (u : Z.Up H a o H') (h : H a = some (.lst xs)) : Kept H H' := .but u.but h
theorem Kept.trans {H H1 H2 : Hp} (x : Kept H H1) (y : Kept H1 H2) : Kept H H2 := ⟨fun _ _ h => y.t _ _ (x.t _ _ h), fun _ _ _ _ h => y.i _ _ _ _ (x.i _ _ _ _ h)⟩
theorem Pot.kept {H H' : Hp} {a : Addr} (p : Pot H a) (b : Z.But a H H') : Kept H H' := by
  obtain ⟨x, y, h, _⟩ := p
  exact .but b h
theorem IsKp.kept {H H' : Hp} {v : V} (k : Kept H H') : ∀ {kp : Kp}, IsKp H v kp → IsKp H' v kp
  | .unit, ⟨r, e, h⟩ => ⟨r, e, k.t _ _ h⟩
  | .int _, h => h
  | .tup _, ⟨r, e, h⟩ => ⟨r, e, k.t _ _ h⟩
  | .gain _ _, ⟨r, s, e, h, h2⟩ => ⟨r, s, e, k.t _ _ h, k.t _ _ h2⟩
theorem IsMem.kept {H H' : Hp} {v : V} {m : Nat} {kp : Kp} (h : IsMem H v m kp) (k : Kept H H') : IsMem H' v m kp := by
  obtain ⟨r, w, e, h, h2⟩ := h
  exact ⟨r, w, e, k.t _ _ h, h2.kept k⟩
theorem IsNd.kept {K : PySem.W.Frag} {H H' : Hp} {a : Addr} {l b : Nat} (k : Kept H H') : ∀ {nd : Nd}, IsNd K H a l b nd → IsNd K H' a l b nd
  | .gain _, ⟨dx, h⟩ => ⟨dx, k.i _ _ _ _ h⟩
theorem IsNd.ins {K : PySem.W.Frag} {H : Hp} {a : Addr} {l b : Nat} : ∀ {nd : Nd}, IsNd K H a l b nd → ∃ C dx fs, H a = some (.ins C dx fs)
  | .gain _, ⟨dx, h⟩ => ⟨_, _, _, h⟩
theorem IsRows.same {H H' : Hp} {p : Addr} {rows : List (List Int)} (h : IsRows H p rows) (s : Same H H') : IsRows H' p rows := by
  obtain ⟨vs, h, a⟩ := h
  exact ⟨vs, s _ _ h, a.mono fun _ _ ⟨q, e, h⟩ => ⟨q, e, s _ _ h⟩⟩
theorem IsRows.row {H : Hp} {p : Addr} {rows : List (List Int)} {i : Nat} {row : List Int} (h : IsRows H p rows) (e : rows[i]? = some row) : ∃ vs q, H p = some (.lst vs) ∧ atI vs (i : Int) = some (.ref q) ∧ H q = some (.lst (row.map V.int)) := by
  obtain ⟨vs, h, a⟩ := h
  obtain ⟨v, hv, q, rfl, hq⟩ := a.get' e
  exact ⟨vs, q, h, atI_nat hv, hq⟩
/-- rows as a node takes them -/
def Fit (nd : Nd) (rows : List (List Int)) : Prop := rows.map List.length = nd.takes ∧ ∀ row ∈ rows, ∀ n ∈ row, Num n
theorem Fit.at {nd : Nd} {rows : List (List Int)} (f : Fit nd rows) {i w : Nat} (e : nd.takes[i]? = some w) : ∃ row, rows[i]? = some row ∧ row.length = w ∧ ∀ n ∈ row, Num n := by
  rw [← f.1, List.getElem?_map] at e
  cases h : rows[i]? with
  | none => rw [h] at e; cases e
  | some row => rw [h] at e; exact ⟨row, rfl, Option.some.inj e, f.2 row (List.mem_of_getElem? h)⟩

/-- a thing of any kind, and whether it is a whole number -/
inductive Thing (H : Hp) : V → Bool → Prop where
  | int (i : Int) : Thing H (.int i) true
  | bl (b : Bool) : Thing H (.bl b) false
  | non : Thing H .non false
  | str (x : Str) : Thing H (.str x) false
  | lst {p : Addr} {xs : List V} (h : H p = some (.lst xs)) : Thing H (.ref p) false
  | tup {p : Addr} {xs : List V} (h : H p = some (.tup xs)) : Thing H (.ref p) false
  | dK {p : Addr} {xs : List (Key × V)} (h : H p = some (.dK xs)) : Thing H (.ref p) false
def okFrom (v : V) (l m : Int) : Bool := match v with
  | .int i => decide (l ≤ i ∧ i ≤ m)
  | _ => false
theorem okFrom_in {i l m : Int} (h : l ≤ i ∧ i ≤ m) : okFrom (.int i) l m = true := decide_eq_true h
theorem okFrom_out {i l m : Int} (h : ¬ (l ≤ i ∧ i ≤ m)) : okFrom (.int i) l m = false := decide_eq_false h
theorem okFrom_not {H : Hp} {v : V} {l m : Int} (h : Thing H v false) : okFrom v l m = false := by cases h <;> rfl

def sp_is_whole (K : PySem.W.Frag) : Sp := fun vz H Q Ex => ∃ (v : V) (b : Bool), vz = [v] ∧ (Thing H v b) ∧ (Q (.bl b) H)
theorem c_is_whole {K : PySem.W.Frag} {H : Hp} {Q : VK} {Ex : XK} {v : V} {b : Bool} (h1 : Thing H v b) (k : Q (.bl b) H) : sp_is_whole K [v] H Q Ex := ⟨v, b, rfl, h1, k⟩
theorem ok_is_whole {g : Prop} {P : Program} {w : World} {K : PySem.W.Frag} {mg : Str → Option Value} {base : Heap} (E : Ev K mg) : Z.Pr g P w K mg base 1 (He.ga K "is_whole") d_is_whole p_is_whole (sp_is_whole K) := by
  obtain ⟨fd, FD⟩ := E.fn 4 (d := d_is_whole)
  refine ⟨fd, FD, Z.FunD.okG FD sc_is_whole (fun vz H Q Ex h => ?_) (fun cdv A outer s H vz Q Ex hr hgd h => ?_)⟩
  · obtain ⟨_, _, rfl, _⟩ := h
    rfl
  · have hu := hr.units
    obtain ⟨v, b, rfl, h1, k⟩ := h
    refine ⟨_, (Z.zs_one (Z.z_ret (pe_and (pe_callB (Z.cisiK K rfl) (by rfl) (E.free 5) (by decide +kernel) (pa_cons (pv 0) (pa_cons (pe_bltn (v := .ty "int") (u := .type "int") (by rfl) (E.free 7) (by decide +kernel) rfl) pa_nil))) (pe_one (pe_not (pe_callB (Z.cisiK K rfl) (by rfl) (E.free 5) (by decide +kernel) (pa_cons (pv 0) (pa_cons (pe_bltn (v := .ty "bool") (u := .type "bool") (by rfl) (E.free 6) (by decide +kernel) rfl) pa_nil)))))))), ?_⟩
    refine Z.i_start (σ := [some (v)]) rfl ?_
    try dsimp only [Z.cxK]
    cases h1
    · k_call_by "za" 0
      exact k
    · k_call_by "za" 0
      exact k
    · k_call_by "za" 0
      exact k
    · k_call_by "za" 0
      exact k
    · k_call_by "za" 0
      exact k
    · k_call_by "za" 0
      exact k
    · k_call_by "za" 0
      exact k
def sp_is_whole_from (K : PySem.W.Frag) : Sp := fun vz H Q Ex => ∃ (v : V) (b : Bool) (l m : Int), vz = [v, .int l, .int m] ∧ (Thing H v b) ∧ (Q (.bl (okFrom v l m)) H)
theorem c_is_whole_from {K : PySem.W.Frag} {H : Hp} {Q : VK} {Ex : XK} {v : V} {b : Bool} {l m : Int} (h1 : Thing H v b) (k : Q (.bl (okFrom v l m)) H) : sp_is_whole_from K [v, .int l, .int m] H Q Ex := ⟨v, b, l, m, rfl, h1, k⟩
theorem ok_is_whole_from {g : Prop} {P : Program} {w : World} {K : PySem.W.Frag} {mg : Str → Option Value} {base : Heap} (E : Ev K mg) : Z.Pr g P w K mg base 2 (He.ga K "is_whole_from") d_is_whole_from p_is_whole_from (sp_is_whole_from K) := by
  obtain ⟨fd, FD⟩ := E.fn 5 (d := d_is_whole_from)
  refine ⟨fd, FD, Z.FunD.okG FD sc_is_whole_from (fun vz H Q Ex h => ?_) (fun cdv A outer s H vz Q Ex hr hgd h => ?_)⟩
  · obtain ⟨_, _, _, _, rfl, _⟩ := h
    rfl
  · have hu := hr.units
    obtain ⟨v, b, l, m, rfl, h1, k⟩ := h
    have F_is_whole := ok_is_whole (g := g) (P := P) (w := w) (base := base) E
    refine ⟨_, (Z.zs_one (Z.z_ret (pe_and (Z.pe_f F_is_whole (hr.mono (by decide)) hgd (by rfl) (E.glo 8) bd_is_whole (passL) (pa_cons (pv 0) pa_nil)) (pe_one (pe_chain op_le op_le (pv 1) (pv 0) (pv 2)))))), ?_⟩
    refine Z.i_start (σ := [some (v), some (.int l), some (.int m)]) rfl ?_
    try dsimp only [Z.cxK]
    k_call_by "za" 0
    refine c_is_whole h1 ?_
    cases h1 with
    | int i =>
      k_call_by "za" 0
      refine Z.ite2' (fun hz => ?_) (fun hz => ?_)
      · k_call_by "za" 0
        have e : okFrom (.int i) l m = decide (i ≤ m) := by unfold okFrom; simp [hz]
        rw [← e]
        exact k
      · have e : okFrom (.int i) l m = false := by unfold okFrom; simp [hz]
        rw [← e]
        exact k
    | _ =>
      k_call_by "za" 0
      exact k

def rampL (f l : Int) (n : Nat) : List Int := (List.range n).map fun k : Nat => f + (l - f) * ((k : Int) + 1) / (n : Int)

def sp_want_steps (K : PySem.W.Frag) : Sp := fun vz H Q Ex => ∃ (v : V) (b : Bool), vz = [v] ∧ (Thing H v b) ∧ ((okFrom v 0 400 = true → Q .non H) ∧ (okFrom v 0 400 = false → Ex (.ref (He.ga K "NoSteps")) none H))
theorem c_want_steps {K : PySem.W.Frag} {H : Hp} {Q : VK} {Ex : XK} {v : V} {b : Bool} (h1 : Thing H v b) (k : (okFrom v 0 400 = true → Q .non H) ∧ (okFrom v 0 400 = false → Ex (.ref (He.ga K "NoSteps")) none H)) : sp_want_steps K [v] H Q Ex := ⟨v, b, rfl, h1, k⟩
theorem ok_want_steps {g : Prop} {P : Program} {w : World} {K : PySem.W.Frag} {mg : Str → Option Value} {base : Heap} (E : Ev K mg) : Z.Pr g P w K mg base 3 (He.ga K "want_steps") d_want_steps p_want_steps (sp_want_steps K) := by
  obtain ⟨fd, FD⟩ := E.fn 6 (d := d_want_steps)
  refine ⟨fd, FD, Z.FunD.okG FD sc_want_steps (fun vz H Q Ex h => ?_) (fun cdv A outer s H vz Q Ex hr hgd h => ?_)⟩
  · obtain ⟨_, _, rfl, _⟩ := h
    rfl
  · have hu := hr.units
    obtain ⟨v, b, rfl, h1, k⟩ := h
    have F_is_whole_from := ok_is_whole_from (g := g) (P := P) (w := w) (base := base) E
    refine ⟨_, (Z.zs_one (Z.z_if (pt_not (pt_val (Z.pe_fS (W := Z.wo Ex) F_is_whole_from (hr.mono (by decide)) hgd (by rfl) (E.glo 9) bd_is_whole_from ((takes_of rfl rfl rfl rfl)) (pa_cons (pv 0) (pa_cons pe_int (pa_cons (Z.pe_gint rfl (E.int 10)) pa_nil)))))) (Z.zs_one (Z.z_raise0 (W := Z.wo Ex) rfl ((takes_of rfl rfl rfl rfl)) (E.own 3) (E.glo 11) (by rfl))) Z.zs_nil)), ?_⟩
    refine Z.i_start (σ := [some (v)]) rfl ?_
    try dsimp only [Z.cxK]
    k_call_by "za" 0
    refine c_is_whole_from h1 ?_
    k_call_by "za" 0
    cases e : okFrom v 0 400
    · k_call_by "za" 0
      exact k.2 e
    · k_call_by "za" 0
      exact k.1 e
def sp_ramp (K : PySem.W.Frag) : Sp := fun vz H Q Ex => ∃ (f l : Int) (v : V) (b : Bool), vz = [.int f, .int l, v] ∧ (Thing H v b) ∧ (Num f) ∧ (Num l) ∧ ((∀ n : Nat, v = .int (n : Nat) → n ≤ 400 → ∀ p H', H p = none → Same H H' → H' p = some (.lst ((rampL f l n).map V.int)) → Q (.ref p) H') ∧ (okFrom v 0 400 = false → ∀ H', Same H H' → Ex (.ref (He.ga K "NoSteps")) none H'))
theorem c_ramp {K : PySem.W.Frag} {H : Hp} {Q : VK} {Ex : XK} {f l : Int} {v : V} {b : Bool} (h1 : Thing H v b) (h2 : Num f) (h3 : Num l) (k : (∀ n : Nat, v = .int (n : Nat) → n ≤ 400 → ∀ p H', H p = none → Same H H' → H' p = some (.lst ((rampL f l n).map V.int)) → Q (.ref p) H') ∧ (okFrom v 0 400 = false → ∀ H', Same H H' → Ex (.ref (He.ga K "NoSteps")) none H')) : sp_ramp K [.int f, .int l, v] H Q Ex := ⟨f, l, v, b, rfl, h1, h2, h3, k⟩
theorem ok_ramp {g : Prop} {P : Program} {w : World} {K : PySem.W.Frag} {mg : Str → Option Value} {base : Heap} (E : Ev K mg) : Z.Pr g P w K mg base 4 (He.ga K "ramp") d_ramp p_ramp (sp_ramp K) := by
  obtain ⟨fd, FD⟩ := E.fn 7 (d := d_ramp)
  refine ⟨fd, FD, Z.FunD.okG FD sc_ramp (fun vz H Q Ex h => ?_) (fun cdv A outer s H vz Q Ex hr hgd h => ?_)⟩
  · obtain ⟨_, _, _, _, rfl, _⟩ := h
    rfl
  · have hu := hr.units
    obtain ⟨f, l, v, b, rfl, h1, h2, h3, k⟩ := h
    have F_want_steps := ok_want_steps (g := g) (P := P) (w := w) (base := base) E
    refine ⟨_, (Z.zs_cons (Z.z_expr (Z.pe_fS (W := Z.wo Ex) F_want_steps (hr.mono (by decide)) hgd (by rfl) (E.glo 12) bd_want_steps ((takes_of rfl rfl rfl rfl)) (pa_cons (pv 2) pa_nil)))
   (Z.zs_one (Z.z_ret (pe_lc (own := [("k", 3)]) (g := gName 3) rfl sc_ramp.nd (pi_range2 (by rfl) (E.free 4) (pa_cons pe_int (pa_cons (pe_op (Z.opAddK K rfl) (pv 2) pe_int) pa_nil))) (blkOk_by (own := [("k", 3)]) (N := n_ramp) (sc := (defScope s_ramp)) (by decide +kernel)) (fun _ _ _ _ _ => (pg_name (i := 3) sc_ramp.nd rfl (Or.inl rfl))) (fun _ _ _ _ _ => pts_nil) (fun _ _ _ _ _ => (pe_op (Z.opAddK K rfl) (pv 0) (pe_op op_fdivW (pe_op (Z.opMulK K rfl) (pe_op op_sub (pv 1) (pv 0)) (pv 3)) (pv 2)))))))), ?_⟩
    refine Z.i_start (σ := [some (.int f), some (.int l), some (v), none]) rfl ?_
    try dsimp only [Z.cxK]
    k_call_by "za" 0
    refine c_want_steps h1 ⟨fun e => ?_, fun e => k.2 e H (Same.refl _)⟩
    cases h1 with
    | int i =>
      have hi : 0 ≤ i ∧ i ≤ 400 := by unfold okFrom at e; simpa using e
      obtain ⟨n, rfl⟩ : ∃ n : Nat, i = n := ⟨i.toNat, by omega⟩
      have hn : n ≤ 400 := by omega
      k_call_by "za" 0
      refine Z.i_rng2I (by omega) ?_
      rw [show ((n : Int) + 1 - 1).toNat = n by omega]
      refine Z.comp_range (fun j acc H' => acc = ((rampL f l n).take j).map V.int ∧ Same H H') ?_ ?_ ?_
      · intro D H' nw
        exact ⟨rfl, nw.same⟩
      · rintro D j acc H2 fD hj hD ⟨rfl, s⟩
        k_call_by "za" 0
        refine Z.i_I (divW (i := (l - f) * (1 + (j : Int))) (m := (n : Int)) (by omega) (Nat.lt_of_le_of_lt (m := 400) (by omega) (by decide))) ?_
        k_call_by "za" 0
        refine Z.i_end (by k_call_by "hf" 0) (by simp only [List.length_map, List.length_take, sizeLine_eq]; omega) fun H6 u => ⟨?_, by k_call_by "fr" 0⟩
        rw [take_snoc (x := f + (l - f) * ((j : Int) + 1) / (n : Int)) (by unfold rampL; rw [List.getElem?_map, List.getElem?_range hj]; rfl), List.map_append, Int.add_comm 1]; rfl
      · rintro D acc H2 fD hD ⟨rfl, s⟩
        rw [List.take_of_length_le (by unfold rampL; simp)] at hD
        exact k.1 n rfl hn D H2 fD s hD
    | _ => cases e

theorem c_is_whole1 {K : PySem.W.Frag} {H : Hp} {Q : VK} {Ex : XK} {i : Int} (k : Q (.bl true) H) : sp_is_whole K [.int i] H Q Ex := c_is_whole (.int i) k
theorem c_is_whole_from1 {K : PySem.W.Frag} {H : Hp} {Q : VK} {Ex : XK} {i l m : Int} (h1 : l ≤ i) (h2 : i ≤ m) (k : Q (.bl true) H) : sp_is_whole_from K [.int i, .int l, .int m] H Q Ex := c_is_whole_from (.int i) (by rw [okFrom_in ⟨h1, h2⟩]; exact k)

def sp_want (K : PySem.W.Frag) : Sp := fun vz H Q Ex => ∃ (f : Str), vz = [.bl true, .str f] ∧ (Q .non H)
theorem c_want {K : PySem.W.Frag} {H : Hp} {Q : VK} {Ex : XK} {f : Str}  (k : Q .non H) : sp_want K [.bl true, .str f] H Q Ex := ⟨f, rfl, k⟩
theorem ok_want {g : Prop} {P : Program} {w : World} {K : PySem.W.Frag} {mg : Str → Option Value} {base : Heap} (E : Ev K mg) : Z.Pr g P w K mg base 1 (He.ga K "want") d_want p_want (sp_want K) := by
  obtain ⟨fd, FD⟩ := E.fn 8 (d := d_want)
  refine ⟨fd, FD, Z.FunD.okG FD sc_want (fun vz H Q Ex h => ?_) (fun cdv A outer s H vz Q Ex hr hgd h => ?_)⟩
  · obtain ⟨_, rfl, _⟩ := h
    rfl
  · have hu := hr.units
    obtain ⟨f, rfl, k⟩ := h
    refine ⟨_, (Z.zs_one (Z.z_if (pt_not (pt_val (pv 0))) (Z.zs_one Z.z_never) Z.zs_nil)), ?_⟩
    refine Z.i_start (σ := [some (.bl true), some (.str f)]) rfl ?_
    try dsimp only [Z.cxK]
    k_call_by "za" 0
    exact k
def kinds (K : PySem.W.Frag) : List Addr := [He.ga K "Gain"]
def sp_Node_u__init (K : PySem.W.Frag) : Sp := fun vz H Q Ex => ∃ (a C dx : Addr) (l b : Nat), vz = [.ref a, .int (l : Nat), .int (b : Nat)] ∧ (H a = some (.ins C dx [])) ∧ (C ∈ kinds K) ∧ (l ≤ 99) ∧ (b ≤ 9999) ∧ (∀ H', Z.Up H a (.ins C dx [("own_late", .int (l : Nat)), ("own_begin", .int (b : Nat))]) H' → Q .non H')
theorem c_Node_u__init {K : PySem.W.Frag} {H : Hp} {Q : VK} {Ex : XK} {a C dx : Addr} {l b : Nat} (h1 : H a = some (.ins C dx [])) (h2 : C ∈ kinds K) (h3 : l ≤ 99) (h4 : b ≤ 9999) (k : ∀ H', Z.Up H a (.ins C dx [("own_late", .int (l : Nat)), ("own_begin", .int (b : Nat))]) H' → Q .non H') : sp_Node_u__init K [.ref a, .int (l : Nat), .int (b : Nat)] H Q Ex := ⟨a, C, dx, l, b, rfl, h1, h2, h3, h4, k⟩
theorem ok_Node_u__init {g : Prop} {P : Program} {w : World} {K : PySem.W.Frag} {mg : Str → Option Value} {base : Heap} (E : Ev K mg) : Z.Pr g P w K mg base 3 (He.ma K (He.ga K "Node") "__init__") d_Node_u__init p_Node_u__init (sp_Node_u__init K) := by
  obtain ⟨fd, FD⟩ := E.fn 9 (d := d_Node_u__init)
  refine ⟨fd, FD, Z.FunD.okG FD sc_Node_u__init (fun vz H Q Ex h => ?_) (fun cdv A outer s H vz Q Ex hr hgd h => ?_)⟩
  · obtain ⟨_, _, _, _, _, rfl, _⟩ := h
    rfl
  · have hu := hr.units
    obtain ⟨a, C, dx, l, b, rfl, h1, h2, h3, h4, k⟩ := h
    have F_is_whole_from := ok_is_whole_from (g := g) (P := P) (w := w) (base := base) E
    have F_want := ok_want (g := g) (P := P) (w := w) (base := base) E
    have cl_Gain := E.cls 17
    have na_Gain_own_begin := E.noat 33
    have na_Gain_own_late := E.noat 0
    refine ⟨_, (Z.zs_cons (Z.z_expr (Z.pe_f F_want (hr.mono (by decide)) hgd (by rfl) (E.glo 13) bd_want (passL) (pa_cons (Z.pe_f F_is_whole_from (hr.mono (by decide)) hgd (by rfl) (E.glo 9) bd_is_whole_from (passL) (pa_cons (pv 1) (pa_cons pe_int (pa_cons (Z.pe_gint rfl (E.int 15)) pa_nil)))) (pa_cons pe_str pa_nil))))
   (Z.zs_cons (Z.z_expr (Z.pe_f F_want (hr.mono (by decide)) hgd (by rfl) (E.glo 13) bd_want (passL) (pa_cons (Z.pe_f F_is_whole_from (hr.mono (by decide)) hgd (by rfl) (E.glo 9) bd_is_whole_from (passL) (pa_cons (pv 2) (pa_cons pe_int (pa_cons (Z.pe_gint rfl (E.int 14)) pa_nil)))) (pa_cons pe_str pa_nil))))
   (Z.zs_cons (Z.z_fld (pv 0) (pv 1) rfl)
   (Z.zs_one (Z.z_fld (pv 0) (pv 2) rfl))))), ?_⟩
    refine Z.i_start (σ := [some (.ref a), some (.int (l : Nat)), some (.int (b : Nat))]) rfl ?_
    try dsimp only [Z.cxK]
    have hc : Cls K C := by 
      unfold kinds at h2
      simp only [List.mem_cons, List.not_mem_nil, or_false] at h2
      rcases h2 with rfl
      · exact cl_Gain
    have n1 : NoAttr K C "own_late" := by 
      unfold kinds at h2
      simp only [List.mem_cons, List.not_mem_nil, or_false] at h2
      rcases h2 with rfl
      · exact na_Gain_own_late
    have n2 : NoAttr K C "own_begin" := by 
      unfold kinds at h2
      simp only [List.mem_cons, List.not_mem_nil, or_false] at h2
      rcases h2 with rfl
      · exact na_Gain_own_begin
    k_call_by "za" 0
    refine c_is_whole_from1 (by omega) (by omega) ?_
    k_call_by "za" 0
    refine c_want ?_
    k_call_by "za" 0
    refine c_is_whole_from1 (by omega) (by omega) ?_
    k_call_by "za" 0
    refine c_want ?_
    k_call_by "za" 0
    
    rename_i H1 u1 H2 u2
    exact k H2 ⟨⟨_, h1⟩, by rw [u2.eq, u1.eq, Z.upd_upd]; rfl⟩
def KpOk : Nd → Kp → Prop
  | .gain gn, kp => ∃ f ns, kp = .gain f ns ∧ Num f ∧ (∀ n ∈ ns, Num n) ∧ ns.length ≤ 1000
def sp_Node_gives (K : PySem.W.Frag) : Sp := fun vz H Q Ex => ∃ (a : Addr), vz = [.ref a] ∧ (Q (.int 1) H)
theorem c_Node_gives {K : PySem.W.Frag} {H : Hp} {Q : VK} {Ex : XK} {a : Addr}  (k : Q (.int 1) H) : sp_Node_gives K [.ref a] H Q Ex := ⟨a, rfl, k⟩
theorem ok_Node_gives {g : Prop} {P : Program} {w : World} {K : PySem.W.Frag} {mg : Str → Option Value} {base : Heap} (E : Ev K mg) : Z.Pr g P w K mg base 1 (He.ma K (He.ga K "Node") "gives") d_Node_gives p_Node_gives (sp_Node_gives K) := by
  obtain ⟨fd, FD⟩ := E.fn 10 (d := d_Node_gives)
  refine ⟨fd, FD, Z.FunD.okG FD sc_Node_gives (fun vz H Q Ex h => ?_) (fun cdv A outer s H vz Q Ex hr hgd h => ?_)⟩
  · obtain ⟨_, rfl, _⟩ := h
    rfl
  · have hu := hr.units
    obtain ⟨a, rfl, k⟩ := h
    refine ⟨_, (Z.zs_one (Z.z_ret pe_int)), ?_⟩
    refine Z.i_start (σ := [some (.ref a)]) rfl ?_
    try dsimp only [Z.cxK]
    k_call_by "za" 0
    exact k
def sp_Gain_u__init (K : PySem.W.Frag) : Sp := fun vz H Q Ex => ∃ (a dx : Addr) (l b : Nat) (gn : Int), vz = [.ref a, .int gn, .int (l : Nat), .int (b : Nat)] ∧ (H a = some (.ins (He.ga K "Gain") dx [])) ∧ (l ≤ 99) ∧ (b ≤ 9999) ∧ (Num gn) ∧ (∀ H', IsNd K H' a l b (.gain gn) → Z.But a H H' → Q .non H')
theorem c_Gain_u__init {K : PySem.W.Frag} {H : Hp} {Q : VK} {Ex : XK} {a dx : Addr} {l b : Nat} {gn : Int} (h1 : H a = some (.ins (He.ga K "Gain") dx [])) (h2 : l ≤ 99) (h3 : b ≤ 9999) (h4 : Num gn) (k : ∀ H', IsNd K H' a l b (.gain gn) → Z.But a H H' → Q .non H') : sp_Gain_u__init K [.ref a, .int gn, .int (l : Nat), .int (b : Nat)] H Q Ex := ⟨a, dx, l, b, gn, rfl, h1, h2, h3, h4, k⟩
theorem ok_Gain_u__init {g : Prop} {P : Program} {w : World} {K : PySem.W.Frag} {mg : Str → Option Value} {base : Heap} (E : Ev K mg) : Z.Pr g P w K mg base 4 (He.ma K (He.ga K "Gain") "__init__") d_Gain_u__init p_Gain_u__init (sp_Gain_u__init K) := by
  obtain ⟨fd, FD⟩ := E.fn 11 (d := d_Gain_u__init)
  refine ⟨fd, FD, Z.FunD.okG FD sc_Gain_u__init (fun vz H Q Ex h => ?_) (fun cdv A outer s H vz Q Ex hr hgd h => ?_)⟩
  · obtain ⟨_, _, _, _, _, rfl, _⟩ := h
    rfl
  · have hu := hr.units
    obtain ⟨a, dx, l, b, gn, rfl, h1, h2, h3, h4, k⟩ := h
    have F_Node_u__init := ok_Node_u__init (g := g) (P := P) (w := w) (base := base) E
    have F_is_whole := ok_is_whole (g := g) (P := P) (w := w) (base := base) E
    have F_want := ok_want (g := g) (P := P) (w := w) (base := base) E
    have cl_Gain := E.cls 17
    have na_Gain_own_by := E.noat 34
    refine ⟨_, (Z.zs_cons (Z.z_expr (Z.pe_f F_want (hr.mono (by decide)) hgd (by rfl) (E.glo 13) bd_want (passL) (pa_cons (Z.pe_f F_is_whole (hr.mono (by decide)) hgd (by rfl) (E.glo 8) bd_is_whole (passL) (pa_cons (pv 1) pa_nil)) (pa_cons pe_str pa_nil))))
   (Z.zs_cons (Z.z_expr (Z.pe_cm F_Node_u__init (hr.mono (by decide)) hgd (by rfl) (E.glo 16) (Z.fxC_ok (E.own 4)) bd_Node_u__init passL (pa_cons (pv 0) (pa_cons (pv 2) (pa_cons (pv 3) pa_nil)))))
   (Z.zs_one (Z.z_fld (pv 0) (pv 1) rfl)))), ?_⟩
    refine Z.i_start (σ := [some (.ref a), some (.int gn), some (.int (l : Nat)), some (.int (b : Nat))]) rfl ?_
    try dsimp only [Z.cxK]
    have hl := h2
    have hb := h3
    k_call_by "za" 0
    refine c_is_whole1 ?_
    k_call_by "za" 0
    refine c_want ?_
    k_call_by "za" 0
    refine c_Node_u__init h1 (by simp [kinds]) hl hb fun H1 u1 => ?_
    k_call_by "za" 0
    rename_i H2 u2
    exact k H2 ⟨dx, u2.at⟩ (by k_call_by "fr" 0)
def sp_Gain_at_first (K : PySem.W.Frag) : Sp := fun vz H Q Ex => ∃ (a : Addr) (l b : Nat) (gn : Int), vz = [.ref a] ∧ (IsNd K H a l b (.gain gn)) ∧ (Num gn) ∧ (∀ v H', Same H H' → IsKp H' v (.gain gn []) → Q v H')
theorem c_Gain_at_first {K : PySem.W.Frag} {H : Hp} {Q : VK} {Ex : XK} {a : Addr} {l b : Nat} {gn : Int} (h1 : IsNd K H a l b (.gain gn)) (h2 : Num gn) (k : ∀ v H', Same H H' → IsKp H' v (.gain gn []) → Q v H') : sp_Gain_at_first K [.ref a] H Q Ex := ⟨a, l, b, gn, rfl, h1, h2, k⟩
theorem ok_Gain_at_first {g : Prop} {P : Program} {w : World} {K : PySem.W.Frag} {mg : Str → Option Value} {base : Heap} (E : Ev K mg) : Z.Pr g P w K mg base 1 (He.ma K (He.ga K "Gain") "at_first") d_Gain_at_first p_Gain_at_first (sp_Gain_at_first K) := by
  obtain ⟨fd, FD⟩ := E.fn 12 (d := d_Gain_at_first)
  refine ⟨fd, FD, Z.FunD.okG FD sc_Gain_at_first (fun vz H Q Ex h => ?_) (fun cdv A outer s H vz Q Ex hr hgd h => ?_)⟩
  · obtain ⟨_, _, _, _, rfl, _⟩ := h
    rfl
  · have hu := hr.units
    obtain ⟨a, l, b, gn, rfl, h1, h2, k⟩ := h
    have cl_Gain := E.cls 17
    have na_Gain_own_by := E.noat 34
    refine ⟨_, (Z.zs_one (Z.z_ret (pe_tup (pa_cons (Z.pe_fldK K rfl (pv 0) rfl) (pa_cons (pe_tup pa_nil) pa_nil))))), ?_⟩
    refine Z.i_start (σ := [some (.ref a)]) rfl ?_
    try dsimp only [Z.cxK]
    obtain ⟨dx, h1⟩ := h1
    k_call_by "za" 0
    rename_i t1 H1 n1 t2 H2 n2
    exact k _ _ (by k_call_by "fr" 0) ⟨t2, t1, rfl, n2.at, n2.get n1.at⟩
def sp_Gain_worked (K : PySem.W.Frag) : Sp := fun vz H Q Ex => ∃ (a p : Addr) (v : V) (l b : Nat) (gn : Int) (kp : Kp) (rows : List (List Int)), vz = [.ref a, v, .ref p] ∧ (IsNd K H a l b (.gain gn)) ∧ (Num gn) ∧ (IsKp H v kp) ∧ (IsRows H p rows) ∧ (Fit (.gain gn) rows) ∧ (KpOk (.gain gn) kp) ∧ (∀ t w q H', H q = none → Same H H' → H' t = some (.tup [w, .ref q]) → H' q = some (.lst ((Nd.worked (.gain gn) kp rows).2.map V.int)) → IsKp H' w (Nd.worked (.gain gn) kp rows).1 → Q (.ref t) H')
theorem c_Gain_worked {K : PySem.W.Frag} {H : Hp} {Q : VK} {Ex : XK} {a p : Addr} {v : V} {l b : Nat} {gn : Int} {kp : Kp} {rows : List (List Int)} (h1 : IsNd K H a l b (.gain gn)) (h2 : Num gn) (h3 : IsKp H v kp) (h4 : IsRows H p rows) (h5 : Fit (.gain gn) rows) (h6 : KpOk (.gain gn) kp) (k : ∀ t w q H', H q = none → Same H H' → H' t = some (.tup [w, .ref q]) → H' q = some (.lst ((Nd.worked (.gain gn) kp rows).2.map V.int)) → IsKp H' w (Nd.worked (.gain gn) kp rows).1 → Q (.ref t) H') : sp_Gain_worked K [.ref a, v, .ref p] H Q Ex := ⟨a, p, v, l, b, gn, kp, rows, rfl, h1, h2, h3, h4, h5, h6, k⟩
theorem ok_Gain_worked {g : Prop} {P : Program} {w : World} {K : PySem.W.Frag} {mg : Str → Option Value} {base : Heap} (E : Ev K mg) : Z.Pr g P w K mg base 1 (He.ma K (He.ga K "Gain") "worked") d_Gain_worked p_Gain_worked (sp_Gain_worked K) := by
  obtain ⟨fd, FD⟩ := E.fn 13 (d := d_Gain_worked)
  refine ⟨fd, FD, Z.FunD.okG FD sc_Gain_worked (fun vz H Q Ex h => ?_) (fun cdv A outer s H vz Q Ex hr hgd h => ?_)⟩
  · obtain ⟨_, _, _, _, _, _, _, _, rfl, _⟩ := h
    rfl
  · have hu := hr.units
    obtain ⟨a, p, v, l, b, gn, kp, rows, rfl, h1, h2, h3, h4, h5, h6, k⟩ := h
    refine ⟨_, (Z.zs_cons (Z.z_asg (pv 1) (pg_tup (n := 2) (by rfl) (pgs_cons (pg_name (i := 3) sc_Gain_worked.nd rfl (Or.inl rfl)) (pgs_cons (pg_name (i := 4) sc_Gain_worked.nd rfl (Or.inl rfl)) pgs_nil))))
   (Z.zs_cons (Z.z_if (pt_cmpR (Z.opNeK K rfl hu) (pv 4) (pe_tup pa_nil) (nomark _)) (Z.zs_one (Z.z_set (i := 3) sc_Gain_worked.nd rfl (Or.inl rfl) (pe_ix (Z.ixUK K rfl) (pv 4) pe_int (fun _ _ => rfl)))) Z.zs_nil)
   (Z.zs_one (Z.z_ret (pe_tup (pa_cons (pe_tup (pa_cons (pv 3) (pa_cons (pe_slice (Z.slUK K rfl) (pv 4) (po_some pe_int) po_none) pa_nil))) (pa_cons (pe_lst (pa_cons (pe_op (Z.opMulK K rfl) (pe_ix (Z.ixUK K rfl) (pe_ix (Z.ixUK K rfl) (pv 2) pe_int (fun _ _ => rfl)) pe_int (fun _ _ => rfl)) (pv 3)) pa_nil)) pa_nil))))))), ?_⟩
    refine Z.i_start (σ := [some (.ref a), some (v), some (.ref p), none, none]) rfl ?_
    try dsimp only [Z.cxK]
    obtain ⟨dx, h1⟩ := h1
    
    obtain ⟨row, e0, l0, nums⟩ := h5.at (i := 0) (w := 1) rfl
    obtain ⟨x, rfl⟩ : ∃ x, row = [x] := by
      match row, l0 with
      | [x], _ => exact ⟨x, rfl⟩
    obtain ⟨vs, q0, g1, g2, g3⟩ := h4.row e0
    have er : r0 rows = x := by unfold r0; rw [e0]; rfl
    have nx : Num x := nums x List.mem_cons_self
    
    obtain ⟨f, ns, rfl, nf, nn, ln⟩ := h6
    obtain ⟨rk, s, rfl, hr, hs⟩ := h3
    k_call_by "za" 0
    rename_i e H1 n1
    refine Z.i_neTI (ns := ns) (ms := []) (n1.get hs) n1.at ?_
    have sH : Same H H1 := n1.same
    k_call_by "za" 0
    cases ns with
    | nil =>
      refine Z.itnF (show ([] : List Int) = [] from rfl) ?_
      k_call_by "za" 0
      refine Z.i_slT1 (xs := []) (n1.get hs) fun t2 H2 s2 e2 => ?_
      k_call_by "za" 0
      rename_i t3 H3 n3
      have e2 : H2 t2 = some (.tup []) := e2
      refine Z.i_ixL (by k_call_by "hf" 0) g2 ?_
      k_call_by "za" 0
      refine Z.i_mulI (num_mul nx nf) ?_
      k_call_by "za" 0
      rename_i t4 H4 n4 t5 H5 n5
      refine k _ _ _ _ (by k_call_by "fh" 0) (by k_call_by "fr" 0) n5.at ?_ ⟨t3, t2, rfl, (by show H5 t3 = some (HO.tup [V.int f, V.ref t2]); k_call_by "hf" 0), (by show H5 t2 = some (HO.tup []); k_call_by "hf" 0)⟩
      rw [n5.get n4.at]
      show _ = some (HO.lst ([r0 rows * f].map V.int))
      rw [er]; rfl
    | cons n0 ns =>
      refine Z.itnT (by simp) ?_
      k_call_by "za" 0
      refine Z.i_ixT (v := .int n0) (n1.get hs) (atI_nat (j := 0) rfl) ?_
      k_call_by "za" 0
      refine Z.i_slT1 (xs := (n0 :: ns).map V.int) (n1.get hs) fun t2 H2 s2 e2 => ?_
      k_call_by "za" 0
      rename_i t3 H3 n3
      refine Z.i_ixL (by k_call_by "hf" 0) g2 ?_
      k_call_by "za" 0
      refine Z.i_mulI (num_mul nx (nn n0 List.mem_cons_self)) ?_
      k_call_by "za" 0
      rename_i t4 H4 n4 t5 H5 n5
      have e2 : H2 t2 = some (.tup (ns.map V.int)) := e2
      refine k _ _ _ _ (by k_call_by "fh" 0) (by k_call_by "fr" 0) n5.at ?_ ⟨t3, t2, rfl, (by show H5 t3 = some (HO.tup [V.int n0, V.ref t2]); k_call_by "hf" 0), (by show H5 t2 = some (HO.tup (ns.map V.int)); k_call_by "hf" 0)⟩
      rw [n5.get n4.at]
      show _ = some (HO.lst ([r0 rows * n0].map V.int))
      rw [er]; rfl
abbrev Ms_gives (K : PySem.W.Frag) : List Z.MA := [⟨He.ga K "Gain", 1, fun _ vs _ => vs, sp_Node_gives K⟩]
abbrev Ms_at_first (K : PySem.W.Frag) : List Z.MA := [⟨He.ga K "Gain", 1, fun _ vs _ => vs, sp_Gain_at_first K⟩]
abbrev Ms_worked (K : PySem.W.Frag) : List Z.MA := [⟨He.ga K "Gain", 3, fun _ vs _ => vs, sp_Gain_worked K⟩]
theorem m_gives {K : PySem.W.Frag} {E : XK} {σ : L2.St} {H : Hp} {Q : VK} {a : Addr} {l b : Nat} : ∀ {nd : Nd}, IsNd K H a l b nd → Q (.int (nd.gives : Nat)) H → Z.zM1 K "gives" 0 E (Ms_gives K) tNil tNil (.ref a) σ H Q
  | .gain _, ⟨dx, h⟩, k => by refine Z.i_Mi 0 h rfl rfl ⟨rfl, rfl, ?_⟩; dsimp only; exact c_Node_gives k

theorem m_at_first {K : PySem.W.Frag} {E : XK} {σ : L2.St} {H : Hp} {Q : VK} {a : Addr} {l b : Nat} : ∀ {nd : Nd}, IsNd K H a l b nd → nd.wf → (∀ v H', Same H H' → IsKp H' v nd.first → Q v H') → Z.zM1 K "at_first" 0 E (Ms_at_first K) tNil tNil (.ref a) σ H Q
  | .gain _, ⟨dx, h⟩, w, k => by refine Z.i_Mi 0 h rfl rfl ⟨rfl, rfl, ?_⟩; dsimp only; exact c_Gain_at_first ⟨dx, h⟩ w k

theorem m_worked {K : PySem.W.Frag} {E : XK} {σ : L2.St} {H : Hp} {Q : VK} {a : Addr} {l b : Nat} {p : Addr} {v : V} {kp : Kp} {rows : List (List Int)} {i j : Nat} (e1 : σ[i]? = some (some v)) (e2 : σ[j]? = some (some (.ref p))) : ∀ {nd : Nd}, IsNd K H a l b nd → nd.wf → IsKp H v kp → IsRows H p rows → Fit nd rows → KpOk nd kp → (∀ t w q H', H q = none → Same H H' → H' t = some (.tup [w, .ref q]) → H' q = some (.lst ((nd.worked kp rows).2.map V.int)) → IsKp H' w (nd.worked kp rows).1 → Q (.ref t) H') → Z.zM1 K "worked" 0 E (Ms_worked K) (tCons (tVar i) (tCons (tVar j) tNil)) tNil (.ref a) σ H Q
  | .gain _, ⟨dx, h⟩, w, h3, h4, h5, h6, k => by refine Z.i_Mi 0 h rfl rfl (Z.i_cons (Z.i_var e1 (Z.i_cons (Z.i_var e2 (Z.i_nil (Z.i_nil ⟨rfl, rfl, ?_⟩)))))); dsimp only; exact c_Gain_worked ⟨dx, h⟩ w h3 h4 h5 h6 k

def kindsOf (K : PySem.W.Frag) : Nd → Addr
  | .gain _ => He.ga K "Gain"
theorem IsNd.own {K : PySem.W.Frag} {H : Hp} {a : Addr} {l b : Nat} {nd : Nd} (hf : ∀ C ∈ kinds K, Cls K C ∧ NoAttr K C "own_late" ∧ NoAttr K C "own_begin") (h : IsNd K H a l b nd) : ∃ C dx fs, H a = some (.ins C dx fs) ∧ Cls K C ∧ NoAttr K C "own_late" ∧ NoAttr K C "own_begin" ∧ fs.lookup ("own_late" : Str) = some (.int (l : Nat)) ∧ fs.lookup ("own_begin" : Str) = some (.int (b : Nat)) := by
  cases nd with
  | gain gn => obtain ⟨dx, h⟩ := h; obtain ⟨c1, c2, c3⟩ := hf (He.ga K "Gain") (by simp [kinds]); exact ⟨_, _, _, h, c1, c2, c3, rfl, rfl⟩
def sp_Node_fresh (K : PySem.W.Frag) : Sp := fun vz H Q Ex => ∃ (a : Addr) (l b : Nat) (nd : Nd), vz = [.ref a] ∧ (IsNd K H a l b nd) ∧ (nd.wf) ∧ (∀ v H', Same H H' → IsMem H' v b nd.first → Q v H')
theorem c_Node_fresh {K : PySem.W.Frag} {H : Hp} {Q : VK} {Ex : XK} {a : Addr} {l b : Nat} {nd : Nd} (h1 : IsNd K H a l b nd) (h2 : nd.wf) (k : ∀ v H', Same H H' → IsMem H' v b nd.first → Q v H') : sp_Node_fresh K [.ref a] H Q Ex := ⟨a, l, b, nd, rfl, h1, h2, k⟩
theorem ok_Node_fresh {g : Prop} {P : Program} {w : World} {K : PySem.W.Frag} {mg : Str → Option Value} {base : Heap} (E : Ev K mg) : Z.Pr g P w K mg base 2 (He.ma K (He.ga K "Node") "fresh") d_Node_fresh p_Node_fresh (sp_Node_fresh K) := by
  obtain ⟨fd, FD⟩ := E.fn 14 (d := d_Node_fresh)
  refine ⟨fd, FD, Z.FunD.okG FD sc_Node_fresh (fun vz H Q Ex h => ?_) (fun cdv A outer s H vz Q Ex hr hgd h => ?_)⟩
  · obtain ⟨_, _, _, _, rfl, _⟩ := h
    rfl
  · have hu := hr.units
    obtain ⟨a, l, b, nd, rfl, h1, h2, k⟩ := h
    have F_Gain_at_first := ok_Gain_at_first (g := g) (P := P) (w := w) (base := base) E
    have cl_Gain := E.cls 17
    have na_Gain_own_begin := E.noat 33
    refine ⟨_, (Z.zs_one (Z.z_ret (pe_tup (pa_cons (Z.pe_fldK K rfl (pv 0) rfl) (pa_cons (Z.pe_M0K K rfl (Z.ms_cons (Z.mt_of (E.cls 17) (Z.fxM_ok (E.own 5)) F_Gain_at_first bd_Gain_at_first (hr.mono (by decide)) hgd) Z.ms_nil) (passL) (pv 0)) pa_nil))))), ?_⟩
    refine Z.i_start (σ := [some (.ref a)]) rfl ?_
    try dsimp only [Z.cxK]
    obtain ⟨Cc, dx, fs, hi, cc, nn1, nn2, e1, e2⟩ := h1.own (fun C hC => by
        simp only [kinds, List.mem_cons, List.not_mem_nil, or_false] at hC
        rcases hC with rfl
        · exact ⟨cl_Gain, E.noat 0, na_Gain_own_begin⟩)
    k_call_by "za" 0
    refine Z.i_fld1 hi cc nn2 e2 ?_
    k_call_by "za" 0
    refine m_at_first h1 h2 fun v H1 s1 k1 => ?_
    k_call_by "za" 0
    rename_i r H2 n2
    exact k _ H2 (by k_call_by "fr" 0) ⟨r, v, rfl, n2.at, k1.kept (.of n2.same)⟩
def sp_Node_fire (K : PySem.W.Frag) : Sp := fun vz H Q Ex => ∃ (a p : Addr) (v : V) (l b m : Nat) (nd : Nd) (kp : Kp) (rows : List (List Int)), vz = [.ref a, v, .ref p] ∧ (IsNd K H a l b nd) ∧ (nd.wf) ∧ (IsMem H v m kp) ∧ (IsRows H p rows) ∧ (Fit nd rows) ∧ (KpOk nd kp) ∧ (nd.gives ≤ 1000) ∧ (∀ t mv q H', H q = none → Same H H' → H' t = some (.tup [mv, .ref q]) → H' q = some (.lst ((nd.fire m kp rows).2.2.map V.int)) → IsMem H' mv (nd.fire m kp rows).1 (nd.fire m kp rows).2.1 → Q (.ref t) H')
theorem c_Node_fire {K : PySem.W.Frag} {H : Hp} {Q : VK} {Ex : XK} {a p : Addr} {v : V} {l b m : Nat} {nd : Nd} {kp : Kp} {rows : List (List Int)} (h1 : IsNd K H a l b nd) (h2 : nd.wf) (h3 : IsMem H v m kp) (h4 : IsRows H p rows) (h5 : Fit nd rows) (h6 : KpOk nd kp) (h7 : nd.gives ≤ 1000) (k : ∀ t mv q H', H q = none → Same H H' → H' t = some (.tup [mv, .ref q]) → H' q = some (.lst ((nd.fire m kp rows).2.2.map V.int)) → IsMem H' mv (nd.fire m kp rows).1 (nd.fire m kp rows).2.1 → Q (.ref t) H') : sp_Node_fire K [.ref a, v, .ref p] H Q Ex := ⟨a, p, v, l, b, m, nd, kp, rows, rfl, h1, h2, h3, h4, h5, h6, h7, k⟩
theorem ok_Node_fire {g : Prop} {P : Program} {w : World} {K : PySem.W.Frag} {mg : Str → Option Value} {base : Heap} (E : Ev K mg) : Z.Pr g P w K mg base 2 (He.ma K (He.ga K "Node") "fire") d_Node_fire p_Node_fire (sp_Node_fire K) := by
  obtain ⟨fd, FD⟩ := E.fn 15 (d := d_Node_fire)
  refine ⟨fd, FD, Z.FunD.okG FD sc_Node_fire (fun vz H Q Ex h => ?_) (fun cdv A outer s H vz Q Ex hr hgd h => ?_)⟩
  · obtain ⟨_, _, _, _, _, _, _, _, _, rfl, _⟩ := h
    rfl
  · have hu := hr.units
    obtain ⟨a, p, v, l, b, m, nd, kp, rows, rfl, h1, h2, h3, h4, h5, h6, h7, k⟩ := h
    have F_Gain_worked := ok_Gain_worked (g := g) (P := P) (w := w) (base := base) E
    have F_Node_gives := ok_Node_gives (g := g) (P := P) (w := w) (base := base) E
    refine ⟨_, (Z.zs_cons (Z.z_asg (pv 1) (pg_tup (n := 2) (by rfl) (pgs_cons (pg_name (i := 3) sc_Node_fire.nd rfl (Or.inl rfl)) (pgs_cons (pg_name (i := 4) sc_Node_fire.nd rfl (Or.inl rfl)) pgs_nil))))
   (Z.zs_cons (Z.z_if (pt_cmpR op_gt (pv 3) pe_int (nomark _)) (Z.zs_one (Z.z_ret (pe_tup (pa_cons (pe_tup (pa_cons (pe_op op_sub (pv 3) pe_int) (pa_cons (pv 4) pa_nil))) (pa_cons (pe_op (Z.opMulK K rfl) (pe_lst (pa_cons pe_int pa_nil)) (Z.pe_M0K K rfl (Z.ms_cons (Z.mt_of (E.cls 17) (Z.fxM_ok (E.own 7)) F_Node_gives bd_Node_gives (hr.mono (by decide)) hgd) Z.ms_nil) (passL) (pv 0))) pa_nil))))) Z.zs_nil)
   (Z.zs_cons (Z.z_asg (Z.pe_MK K rfl (Z.ms_cons (Z.mt_of (E.cls 17) (Z.fxM_ok (E.own 6)) F_Gain_worked bd_Gain_worked (hr.mono (by decide)) hgd) Z.ms_nil) (passL) (pv 0) (pa_cons (pv 4) (pa_cons (pv 2) pa_nil))) (pg_tup (n := 2) (by rfl) (pgs_cons (pg_name (i := 5) sc_Node_fire.nd rfl (Or.inl rfl)) (pgs_cons (pg_name (i := 6) sc_Node_fire.nd rfl (Or.inl rfl)) pgs_nil))))
   (Z.zs_one (Z.z_ret (pe_tup (pa_cons (pe_tup (pa_cons pe_int (pa_cons (pv 5) pa_nil))) (pa_cons (pv 6) pa_nil)))))))), ?_⟩
    refine Z.i_start (σ := [some (.ref a), some (v), some (.ref p), none, none, none, none]) rfl ?_
    try dsimp only [Z.cxK]
    obtain ⟨r0', w0, rfl, hm, hk⟩ := h3
    k_call_by "za" 0
    refine Z.ite2' (fun hz => ?_) (fun hz => ?_)
    · k_call_by "za" 0
      rename_i t1 H1 n1 t2 H2 n2
      refine m_gives (h1.kept (.of (by k_call_by "fr" 0))) ?_
      k_call_by "za" 0
      rename_i q H3 n3 t3 H4 n4
      have e : nd.fire m kp rows = (m - 1, kp, List.replicate nd.gives 0) := by unfold Nd.fire; rw [if_neg (by omega)]
      rw [e] at k
      refine k _ _ _ _ (by k_call_by "fh" 0) (by k_call_by "fr" 0) n4.at (by rw [n4.get n3.at]; rfl) ⟨t1, w0, rfl, ?_, hk.kept (.of (by k_call_by "fr" 0))⟩
      rw [n4.get (n3.get (n2.get n1.at))]
      congr 4
      omega
    · k_call_by "za" 0
      refine m_worked rfl rfl h1 h2 hk h4 h5 h6 fun t w q H1 fq s1 et eq ek => ?_
      k_call_by "za" 0
      rename_i t1 H2 n2 t2 H3 n3
      have e : nd.fire m kp rows = (0, (nd.worked kp rows).1, (nd.worked kp rows).2) := by unfold Nd.fire; rw [if_pos (by omega)]
      rw [e] at k
      exact k _ _ _ _ fq (by k_call_by "fr" 0) n3.at (by k_call_by "hf" 0) ⟨t1, w, rfl, (by show H3 t1 = some (HO.tup [V.int 0, w]); exact n3.get n2.at), ek.kept (.of (by k_call_by "fr" 0))⟩
abbrev Ms_fresh (K : PySem.W.Frag) : List Z.MA := [⟨He.ga K "Gain", 1, fun _ vs _ => vs, sp_Node_fresh K⟩]
abbrev Ms_fire (K : PySem.W.Frag) : List Z.MA := [⟨He.ga K "Gain", 3, fun _ vs _ => vs, sp_Node_fire K⟩]
theorem m_fresh {K : PySem.W.Frag} {E : XK} {σ : L2.St} {H : Hp} {Q : VK} {a : Addr} {l b : Nat} : ∀ {nd : Nd}, IsNd K H a l b nd → nd.wf → (∀ v H', Same H H' → IsMem H' v b nd.first → Q v H') → Z.zM1 K "fresh" 0 E (Ms_fresh K) tNil tNil (.ref a) σ H Q
  | .gain _, ⟨dx, h⟩, w, k => by refine Z.i_Mi 0 h rfl rfl ⟨rfl, rfl, ?_⟩; dsimp only; exact c_Node_fresh (nd := .gain _) ⟨dx, h⟩ w k

theorem m_fire0 {K : PySem.W.Frag} {E : XK} {σ : L2.St} {H : Hp} {Q : VK} {a : Addr} {l b : Nat} {t : TA} : ∀ {nd : Nd}, IsNd K H a l b nd → (t σ H fun vs H2 => tNil σ H2 fun zs H3 => (V.ref a :: vs).length = 3 ∧ zs.length = 0 ∧ sp_Node_fire K (V.ref a :: vs) H3 Q E) → Z.zM1 K "fire" 0 E (Ms_fire K) t tNil (.ref a) σ H Q
  | .gain _, ⟨dx, h⟩, q => by refine Z.i_Mi 0 h rfl rfl ?_; dsimp only; exact q


theorem ramp_num {f l : Int} {n : Nat} (hf : Num f) (hl : Num l) : ∀ x ∈ rampL f l n, Num x := by
  intro x hx
  unfold rampL at hx
  obtain ⟨k, hk, rfl⟩ := List.mem_map.mp hx
  have hk := List.mem_range.mp hk
  have hf : f.natAbs < 2 ^ 200 := hf
  have hl : l.natAbs < 2 ^ 200 := hl
  have hn : (0 : Int) < (n : Int) := by omega
  generalize hd : l - f = d
  generalize hj : (k : Int) + 1 = j
  have j0 : 0 < j := by omega
  have j1 : j ≤ (n : Int) := by omega
  have key : (0 ≤ d → 0 ≤ d * j / (n : Int) ∧ d * j / (n : Int) ≤ d) ∧ (d ≤ 0 → d ≤ d * j / (n : Int) ∧ d * j / (n : Int) ≤ 0) := by
    refine ⟨fun h => ⟨Int.ediv_nonneg (Int.mul_nonneg h (by omega)) (by omega), ?_⟩, fun h => ⟨?_, ?_⟩⟩
    · refine Int.ediv_le_of_le_mul hn ?_
      exact Int.mul_le_mul_of_nonneg_left j1 h
    · refine Int.le_ediv_of_mul_le hn ?_
      exact Int.mul_le_mul_of_nonpos_left h j1
    · refine Int.ediv_le_of_le_mul hn ?_
      rw [Int.zero_mul]
      exact Int.mul_nonpos_of_nonpos_of_nonneg h (by omega)
  unfold Num
  rcases Int.le_total 0 d with h | h
  · have := key.1 h
    omega
  · have := key.2 h
    omega
theorem ramp_len {f l : Int} {n : Nat} : (rampL f l n).length = n := by unfold rampL; rw [List.length_map, List.length_range]

def sp_Gain_factor (K : PySem.W.Frag) : Sp := fun vz H Q Ex => ∃ (a : Addr) (v : V) (l b m : Nat) (gn f : Int) (ns : List Int), vz = [.ref a, v] ∧ (IsNd K H a l b (.gain gn)) ∧ (IsMem H v m (.gain f ns)) ∧ (Q (.int f) H)
theorem c_Gain_factor {K : PySem.W.Frag} {H : Hp} {Q : VK} {Ex : XK} {a : Addr} {v : V} {l b m : Nat} {gn f : Int} {ns : List Int} (h1 : IsNd K H a l b (.gain gn)) (h2 : IsMem H v m (.gain f ns)) (k : Q (.int f) H) : sp_Gain_factor K [.ref a, v] H Q Ex := ⟨a, v, l, b, m, gn, f, ns, rfl, h1, h2, k⟩
theorem ok_Gain_factor {g : Prop} {P : Program} {w : World} {K : PySem.W.Frag} {mg : Str → Option Value} {base : Heap} (E : Ev K mg) : Z.Pr g P w K mg base 1 (He.ma K (He.ga K "Gain") "factor") d_Gain_factor p_Gain_factor (sp_Gain_factor K) := by
  obtain ⟨fd, FD⟩ := E.fn 16 (d := d_Gain_factor)
  refine ⟨fd, FD, Z.FunD.okG FD sc_Gain_factor (fun vz H Q Ex h => ?_) (fun cdv A outer s H vz Q Ex hr hgd h => ?_)⟩
  · obtain ⟨_, _, _, _, _, _, _, _, rfl, _⟩ := h
    rfl
  · have hu := hr.units
    obtain ⟨a, v, l, b, m, gn, f, ns, rfl, h1, h2, k⟩ := h
    refine ⟨_, (Z.zs_one (Z.z_ret (pe_ix (Z.ixUK K rfl) (pe_ix (Z.ixUK K rfl) (pv 1) pe_int (fun _ _ => rfl)) pe_int (fun _ _ => rfl)))), ?_⟩
    refine Z.i_start (σ := [some (.ref a), some (v)]) rfl ?_
    try dsimp only [Z.cxK]
    obtain ⟨dx, h1⟩ := h1
    obtain ⟨r, w, rfl, hr, r2, s, rfl, h2, h3⟩ := h2
    k_call_by "za" 0
    exact k
abbrev Ms_factor (K : PySem.W.Frag) : List Z.MA := [⟨He.ga K "Gain", 2, fun _ vs _ => vs, sp_Gain_factor K⟩]
theorem m_factor0 {K : PySem.W.Frag} {E : XK} {σ : L2.St} {H : Hp} {Q : VK} {a : Addr} {l b : Nat} {t : TA} {gn : Int} : IsNd K H a l b (.gain gn) → (t σ H fun vs H2 => tNil σ H2 fun zs H3 => (V.ref a :: vs).length = 2 ∧ zs.length = 0 ∧ sp_Gain_factor K (V.ref a :: vs) H3 Q E) → Z.zM1 K "factor" 0 E (Ms_factor K) t tNil (.ref a) σ H Q
  := fun h q => by
    obtain ⟨dx, h⟩ := h
    refine Z.i_Mi 0 h rfl rfl ?_
    dsimp only
    exact q
def sp_Gain_turned (K : PySem.W.Frag) : Sp := fun vz H Q Ex => ∃ (a : Addr) (v wv : V) (l b m : Nat) (gn f by_ : Int) (ns : List Int) (wh : Bool), vz = [.ref a, v, .int by_, wv] ∧ (IsNd K H a l b (.gain gn)) ∧ (IsMem H v m (.gain f ns)) ∧ (Thing H wv wh) ∧ (Num f) ∧ (Num by_) ∧ ((∀ n : Nat, wv = .int (n : Nat) → n ≤ 400 → ∀ t H', H t = none → Same H H' → IsMem H' (.ref t) m (if n = 0 then .gain by_ [] else .gain f (rampL f by_ n)) → Q (.ref t) H') ∧ (okFrom wv 0 400 = false → ∀ H', Same H H' → Ex (.ref (He.ga K "NoSteps")) none H'))
theorem c_Gain_turned {K : PySem.W.Frag} {H : Hp} {Q : VK} {Ex : XK} {a : Addr} {v wv : V} {l b m : Nat} {gn f by_ : Int} {ns : List Int} {wh : Bool} (h1 : IsNd K H a l b (.gain gn)) (h2 : IsMem H v m (.gain f ns)) (h3 : Thing H wv wh) (h4 : Num f) (h5 : Num by_) (k : (∀ n : Nat, wv = .int (n : Nat) → n ≤ 400 → ∀ t H', H t = none → Same H H' → IsMem H' (.ref t) m (if n = 0 then .gain by_ [] else .gain f (rampL f by_ n)) → Q (.ref t) H') ∧ (okFrom wv 0 400 = false → ∀ H', Same H H' → Ex (.ref (He.ga K "NoSteps")) none H')) : sp_Gain_turned K [.ref a, v, .int by_, wv] H Q Ex := ⟨a, v, wv, l, b, m, gn, f, by_, ns, wh, rfl, h1, h2, h3, h4, h5, k⟩
theorem ok_Gain_turned {g : Prop} {P : Program} {w : World} {K : PySem.W.Frag} {mg : Str → Option Value} {base : Heap} (E : Ev K mg) : Z.Pr g P w K mg base 5 (He.ma K (He.ga K "Gain") "turned") d_Gain_turned p_Gain_turned (sp_Gain_turned K) := by
  obtain ⟨fd, FD⟩ := E.fn 17 (d := d_Gain_turned)
  refine ⟨fd, FD, Z.FunD.okG FD sc_Gain_turned (fun vz H Q Ex h => ?_) (fun cdv A outer s H vz Q Ex hr hgd h => ?_)⟩
  · obtain ⟨_, _, _, _, _, _, _, _, _, _, _, rfl, _⟩ := h
    rfl
  · have hu := hr.units
    obtain ⟨a, v, wv, l, b, m, gn, f, by_, ns, wh, rfl, h1, h2, h3, h4, h5, k⟩ := h
    have F_Gain_factor := ok_Gain_factor (g := g) (P := P) (w := w) (base := base) E
    have F_ramp := ok_ramp (g := g) (P := P) (w := w) (base := base) E
    refine ⟨_, (Z.zs_cons (Z.z_set (i := 4) sc_Gain_turned.nd rfl (Or.inl rfl) (Z.pe_fS (W := Z.wo Ex) F_ramp (hr.mono (by decide)) hgd (by rfl) (E.glo 19) bd_ramp ((takes_of rfl rfl rfl rfl)) (pa_cons (Z.pe_MKS (W := Z.wo Ex) K rfl (Z.ms_cons (Z.mt_of (E.cls 17) (Z.fxM_ok (E.own 8)) F_Gain_factor bd_Gain_factor (hr.mono (by decide)) hgd) Z.ms_nil) ((takes_of rfl rfl rfl rfl)) (pv 0) (pa_cons (pv 1) pa_nil)) (pa_cons (pv 2) (pa_cons (pv 3) pa_nil)))))
   (Z.zs_cons (Z.z_if (pt_cmpR (Z.opEqK K rfl hu) (pv 4) (pe_lst pa_nil) (nomark _)) (Z.zs_one (Z.z_ret (pe_tup (pa_cons (pe_ix (Z.ixUK K rfl) (pv 1) pe_int (fun _ _ => rfl)) (pa_cons (pe_tup (pa_cons (pv 2) (pa_cons (pe_tup pa_nil) pa_nil))) pa_nil))))) Z.zs_nil)
   (Z.zs_one (Z.z_ret (pe_tup (pa_cons (pe_ix (Z.ixUK K rfl) (pv 1) pe_int (fun _ _ => rfl)) (pa_cons (pe_tup (pa_cons (Z.pe_MKS (W := Z.wo Ex) K rfl (Z.ms_cons (Z.mt_of (E.cls 17) (Z.fxM_ok (E.own 8)) F_Gain_factor bd_Gain_factor (hr.mono (by decide)) hgd) Z.ms_nil) ((takes_of rfl rfl rfl rfl)) (pv 0) (pa_cons (pv 1) pa_nil)) (pa_cons (pe_callTy (Z.ctupleK K rfl) (by rfl) (E.free 18) (by decide +kernel) (pa_cons (pv 4) pa_nil)) pa_nil))) pa_nil))))))), ?_⟩
    refine Z.i_start (σ := [some (.ref a), some (v), some (.int by_), some (wv), none]) rfl ?_
    try dsimp only [Z.cxK]
    k_call_by "za" 0
    refine m_factor0 h1 ?_
    k_call_by "za" 0
    refine c_Gain_factor h1 h2 ?_
    k_call_by "za" 0
    refine c_ramp h3 h4 h5 ⟨fun n en hn p H1 f1 s1 e1 => ?_, fun e H1 s1 => k.2 e H1 s1⟩
    have k1 := k.1 n en hn
    obtain ⟨r, u, rfl, hr, r2, s, rfl, h2', h3'⟩ := h2
    k_call_by "za" 0
    rename_i q H2 n2
    refine Z.i_eqLI (ns := rampL f by_ n) (ms := []) (n2.get e1) n2.at ?_
    k_call_by "za" 0
    refine Z.ite2' (fun hz => ?_) (fun hz => ?_)
    · have h0 : n = 0 := by rw [← ramp_len (f := f) (l := by_) (n := n), hz]; rfl
      k_call_by "za" 0
      rename_i t3 H3 n3 t4 H4 n4 t5 H5 n5
      refine k1 t5 H5 (by k_call_by "fh" 0) (by k_call_by "fr" 0) ?_
      rw [if_pos h0]
      exact ⟨t5, .ref t4, rfl, n5.at, t4, t3, rfl, by k_call_by "hf" 0, (by show H5 t3 = some (HO.tup []); k_call_by "hf" 0)⟩
    · have h0 : n ≠ 0 := fun z => hz (by subst z; rfl)
      k_call_by "za" 0
      have i2 := h1.kept (Kept.of (by k_call_by "fr" 0 : Same H H2))
      refine m_factor0 i2 ?_
      k_call_by "za" 0
      have hm2 : IsMem H2 (.ref r) m (.gain f ns) := ⟨r, .ref r2, rfl, by k_call_by "hf" 0, r2, s, rfl, by k_call_by "hf" 0, by k_call_by "hf" 0⟩
      refine c_Gain_factor i2 hm2 ?_
      k_call_by "za" 0
      rename_i t3 H3 n3 t4 H4 n4 t5 H5 n5
      refine k1 t5 H5 (by k_call_by "fh" 0) (by k_call_by "fr" 0) ?_
      rw [if_neg h0]
      exact ⟨t5, .ref t4, rfl, n5.at, t4, t3, rfl, by k_call_by "hf" 0, by k_call_by "hf" 0⟩
abbrev Ms_turned (K : PySem.W.Frag) : List Z.MA := [⟨He.ga K "Gain", 4, fun _ vs _ => vs, sp_Gain_turned K⟩]
theorem m_turned0 {K : PySem.W.Frag} {E : XK} {σ : L2.St} {H : Hp} {Q : VK} {a : Addr} {l b : Nat} {t : TA} {gn : Int} : IsNd K H a l b (.gain gn) → (t σ H fun vs H2 => tNil σ H2 fun zs H3 => (V.ref a :: vs).length = 4 ∧ zs.length = 0 ∧ sp_Gain_turned K (V.ref a :: vs) H3 Q E) → Z.zM1 K "turned" 0 E (Ms_turned K) t tNil (.ref a) σ H Q
  := fun h q => by
    obtain ⟨dx, h⟩ := h
    refine Z.i_Mi 0 h rfl rfl ?_
    dsimp only
    exact q

structure S where
  m : Nat
  f : Int
  ns : List Int
def S.ok (s : S) : Prop := s.m ≤ 1000 ∧ Num s.f ∧ (∀ n ∈ s.ns, Num n) ∧ s.ns.length ≤ 400
def behind (s : S) : S := if s.m = 0 then ⟨0, (Kp.gain s.f s.ns).now.1, (Kp.gain s.f s.ns).now.2⟩ else ⟨s.m - 1, s.f, s.ns⟩
def dueOf (s : S) (x : Int) : Int := if s.m = 0 then x * (Kp.gain s.f s.ns).now.1 else 0
theorem fire_eq {gn : Int} {s : S} {x : Int} : (Nd.gain gn).fire s.m (.gain s.f s.ns) [[x]] = ((behind s).m, .gain (behind s).f (behind s).ns, [dueOf s x]) := by
  unfold Nd.fire behind dueOf
  by_cases h : s.m = 0
  · rw [if_pos h, if_pos h, if_pos h]; rfl
  · rw [if_neg h, if_neg h, if_neg h]; rfl
theorem now_num {f : Int} {ns : List Int} (h1 : Num f) (h2 : ∀ n ∈ ns, Num n) : Num (Kp.gain f ns).now.1 ∧ (∀ n ∈ (Kp.gain f ns).now.2, Num n) ∧ (Kp.gain f ns).now.2.length ≤ ns.length := by
  cases ns with
  | nil => exact ⟨h1, h2, Nat.le_refl _⟩
  | cons n r => exact ⟨h2 n List.mem_cons_self, fun m hm => h2 m (List.mem_cons_of_mem _ hm), Nat.le_succ _⟩
theorem behind_ok {s : S} (h : s.ok) : (behind s).ok := by
  obtain ⟨h1, h2, h3, h4⟩ := h
  unfold behind
  obtain ⟨a, b, c⟩ := now_num h2 h3
  split
  · exact ⟨Nat.zero_le _, a, b, Nat.le_trans c h4⟩
  · exact ⟨by show s.m - 1 ≤ 1000; omega, h2, h3, h4⟩
theorem due_big {s : S} {x : Int} (h : s.ok) (hx : Num x) : (dueOf s x).natAbs < Z.big := by
  unfold dueOf
  split
  · have hy := (now_num h.2.1 h.2.2.1).1
    rw [Int.natAbs_mul]
    refine Nat.lt_of_lt_of_le (Nat.mul_lt_mul_of_lt_of_le hx (Nat.le_of_lt hy) (Nat.pow_pos (by decide))) ?_
    unfold Z.big
    rw [← Nat.pow_add]
    exact Nat.pow_le_pow_right (by decide) (by decide)
  · unfold Z.big; exact Nat.pow_pos (by decide)
def memD (s : S) : PyData := .tuple [.int (s.m : Nat), .tuple [.int s.f, .tuple (s.ns.map PyData.int)]]
def ownD (s : S) : PyData := .list [.int (s.m : Nat), .int s.f, .list (s.ns.map PyData.int)]
def pairD (s : S) : PyData := .tuple [memD s, ownD s]
theorem mem_of {Lx : List Addr} {H : Hp} {v : V} {s : S} (h : Z.DA Lx H v (memD s)) : IsMem H v s.m (.gain s.f s.ns) := by
  obtain ⟨p, vs, rfl, n, hp, a⟩ := Z.DA.of_tup h
  simp only [Z.DAs] at a
  obtain ⟨v0, r0, rfl, d0, v1, r1, rfl, d1, rfl⟩ := a
  have e0 := Z.DA.of_int d0
  subst e0
  obtain ⟨q, ws, rfl, nq, hq, b⟩ := Z.DA.of_tup d1
  simp only [Z.DAs] at b
  obtain ⟨u0, t0, rfl, f0, u1, t1, rfl, f1, rfl⟩ := b
  have e1 := Z.DA.of_int f0
  subst e1
  obtain ⟨z, xs, rfl, nz, hz, c⟩ := Z.DA.of_tup f1
  have e := c.ints_eq
  subst e
  exact ⟨p, .ref q, rfl, hp, q, z, rfl, hq, hz⟩
theorem of_mem {Lx : List Addr} {H : Hp} {v : V} {s : S} (h : IsMem H v s.m (.gain s.f s.ns)) (l : ∀ b ∈ Lx, ∃ xs, H b = some (.lst xs)) : Z.DA Lx H v (memD s) := by
  have off : ∀ {r : Addr} {xs : List V}, H r = some (.tup xs) → r ∉ Lx := fun {r xs} e m => by
    obtain ⟨ys, z⟩ := l r m
    rw [e] at z; cases z
  obtain ⟨r, w, rfl, hr, q, z, rfl, hq, hz⟩ := h
  exact .tup (off hr) hr (.cons (by simp only [Z.DA]) (.cons (.tup (off hq) hq (.cons (by simp only [Z.DA]) (.cons (.tup (off hz) hz (.ints _)) .nil))) .nil))
theorem own_of {Lx : List Addr} {H : Hp} {v : V} {s : S} (h : Z.DA Lx H v (ownD s)) : ∃ p r, v = .ref p ∧ p ∉ Lx ∧ r ∉ Lx ∧ H p = some (.lst [.int (s.m : Nat), .int s.f, .ref r]) ∧ H r = some (.lst (s.ns.map V.int)) := by
  obtain ⟨p, vs, rfl, n, hp, a⟩ := Z.DA.of_lst h
  simp only [Z.DAs] at a
  obtain ⟨v0, r0, rfl, d0, v1, r1, rfl, d1, v2, r2, rfl, d2, rfl⟩ := a
  have e0 := Z.DA.of_int d0
  subst e0
  have e1 := Z.DA.of_int d1
  subst e1
  obtain ⟨r, rfl, nr, hr⟩ := d2.of_ints
  exact ⟨p, r, rfl, n, nr, hp, hr⟩
theorem of_own {Lx : List Addr} {H : Hp} {p r : Addr} {s : S} (np : p ∉ Lx) (nr : r ∉ Lx) (hp : H p = some (.lst [.int (s.m : Nat), .int s.f, .ref r])) (hr : H r = some (.lst (s.ns.map V.int))) : Z.DA Lx H (.ref p) (ownD s) :=
  .lst np hp (.cons (by simp only [Z.DA]) (.cons (by simp only [Z.DA]) (.cons (.ints nr hr) .nil)))
theorem pair_of {Lx : List Addr} {H : Hp} {v : V} {s : S} (h : Z.DA Lx H v (pairD s)) : ∃ t x y, v = .ref t ∧ t ∉ Lx ∧ H t = some (.tup [x, y]) ∧ Z.DA Lx H x (memD s) ∧ Z.DA Lx H y (ownD s) := by
  obtain ⟨p, vs, rfl, n, hp, a⟩ := Z.DA.of_tup h
  simp only [Z.DAs] at a
  obtain ⟨v0, r0, rfl, d0, v1, r1, rfl, d1, rfl⟩ := a
  exact ⟨p, v0, v1, rfl, n, hp, d0, d1⟩
theorem of_pair {Lx : List Addr} {H : Hp} {t : Addr} {x y : V} {s : S} (n : t ∉ Lx) (h : H t = some (.tup [x, y])) (d0 : Z.DA Lx H x (memD s)) (d1 : Z.DA Lx H y (ownD s)) : Z.DA Lx H (.ref t) (pairD s) := .tup n h (.cons d0 (.cons d1 .nil))
theorem neat_mem {s : S} (h : s.ok) : Z.Neat (memD s) := by
  obtain ⟨h1, h2, h3, h4⟩ := h
  have big0 : ∀ n : Nat, n ≤ 1000 → ((n : Nat) : Int).natAbs < Z.big := fun n hn => Nat.lt_of_le_of_lt (m := 1000) (by omega) (by unfold Z.big; exact Nat.lt_of_lt_of_le (by decide : 1000 < 2 ^ 10) (Nat.pow_le_pow_right (by decide) (by decide)))
  refine ⟨?_, ?_, ?_⟩
  · simp only [memD, Z.fine, Z.fines, Bool.and_eq_true, decide_eq_true_eq, and_true]
    exact ⟨big0 _ h1, h2.big, Z.fines_ints fun n hn => (h3 n hn).big⟩
  · simp only [memD, PyData.depth, PyData.depthAll, Z.depth_ints]; omega
  · simp only [memD, PyData.bulk, PyData.bulkAll, Z.bulk_ints]; omega
def IsL (Lx : List Addr) (H : Hp) : Prop := ∀ b ∈ Lx, ∃ xs, H b = some (.lst xs)
theorem IsL.same {Lx : List Addr} {H H' : Hp} (h : IsL Lx H) (s : Same H H') : IsL Lx H' := fun b m => by
  obtain ⟨xs, e⟩ := h b m
  exact ⟨xs, s _ _ e⟩
theorem IsL.but {Lx : List Addr} {H H' : Hp} {a : Addr} (h : IsL Lx H) (s : Z.But a H H') (p : Pot H' a) : IsL Lx H' := fun b m => by
  obtain ⟨xs, e⟩ := h b m
  by_cases z : b = a
  · subst z
    obtain ⟨x, y, q, _⟩ := p
    exact ⟨_, q⟩
  · exact ⟨xs, s.get z e⟩
theorem IsL.up {Lx : List Addr} {H H' : Hp} {a : Addr} {xs : List V} (h : IsL Lx H) (s : Z.Up H a (.lst xs) H') : IsL Lx H' := fun b m => by
  obtain ⟨ys, e⟩ := h b m
  by_cases z : b = a
  · subst z; exact ⟨_, s.at⟩
  · exact ⟨ys, s.get z e⟩
theorem IsL.nin {Lx : List Addr} {H : Hp} {p : Addr} (h : IsL Lx H) (f : H p = none) : p ∉ Lx := fun m => by
  obtain ⟨xs, e⟩ := h p m
  rw [f] at e; cases e
theorem fn_at {v : Nat → V} {r : Nat} (h : r < 2) : atI [v 0, v 1] (r : Int) = some (v r) := by
  obtain rfl | rfl : r = 0 ∨ r = 1 := by omega
  · rfl
  · rfl
theorem fn_set {v : Nat → V} {z : V} {r : Nat} (h : r < 2) : [v 0, v 1].set r z = [(fun i => if i = r then z else v i) 0, (fun i => if i = r then z else v i) 1] := by
  obtain rfl | rfl : r = 0 ∨ r = 1 := by omega
  · rfl
  · rfl
theorem pot_lst {H : Hp} {a : Addr} (p : Pot H a) : ∀ b ∈ [a], ∃ xs, H b = some (.lst xs) := fun b hb => by
  rw [List.mem_singleton.mp hb]
  obtain ⟨x, y, h, _⟩ := p
  exact ⟨_, h⟩
theorem na {a b : Addr} (h : b ≠ a) : b ∉ [a] := by simpa using h

def sp_l_ramp (K : PySem.W.Frag) : Sp := fun vz H Q Ex => ∃ (f l : Int) (n : Nat), vz = [.int f, .int l, .int (n : Nat)] ∧ (n ≤ 400) ∧ (∀ p H', H p = none → Same H H' → H' p = some (.lst ((rampL f l n).map V.int)) → Q (.ref p) H')
theorem c_l_ramp {K : PySem.W.Frag} {H : Hp} {Q : VK} {Ex : XK} {f l : Int} {n : Nat} (h1 : n ≤ 400) (k : ∀ p H', H p = none → Same H H' → H' p = some (.lst ((rampL f l n).map V.int)) → Q (.ref p) H') : sp_l_ramp K [.int f, .int l, .int (n : Nat)] H Q Ex := ⟨f, l, n, rfl, h1, k⟩
theorem ok_l_ramp {g : Prop} {P : Program} {w : World} {K : PySem.W.Frag} {mg : Str → Option Value} {base : Heap} (E : Ev K mg) : Z.Pr g P w K mg base 1 (He.ga K "_law_ramp") d_l_ramp p_l_ramp (sp_l_ramp K) := by
  obtain ⟨fd, FD⟩ := E.fn 18 (d := d_l_ramp)
  refine ⟨fd, FD, Z.FunD.okG FD sc_l_ramp (fun vz H Q Ex h => ?_) (fun cdv A outer s H vz Q Ex hr hgd h => ?_)⟩
  · obtain ⟨_, _, _, rfl, _⟩ := h
    rfl
  · have hu := hr.units
    obtain ⟨f, l, n, rfl, h1, k⟩ := h
    refine ⟨_, (Z.zs_one (Z.z_ret (pe_lc (own := [("_law_k", 3)]) (g := gName 3) rfl sc_l_ramp.nd (pi_range1 (by rfl) (E.free 4) (pa_cons (pv 2) pa_nil)) (blkOk_by (own := [("_law_k", 3)]) (N := n_l_ramp) (sc := (defScope s_l_ramp)) (by decide +kernel)) (fun _ _ _ _ _ => (pg_name (i := 3) sc_l_ramp.nd rfl (Or.inl rfl))) (fun _ _ _ _ _ => pts_nil) (fun _ _ _ _ _ => (pe_op (Z.opAddK K rfl) (pv 0) (pe_op op_fdivW (pe_op (Z.opMulK K rfl) (pe_op op_sub (pv 1) (pv 0)) (pe_op (Z.opAddK K rfl) (pv 3) pe_int)) (pv 2))))))), ?_⟩
    refine Z.i_start (σ := [some (.int f), some (.int l), some (.int (n : Nat)), none]) rfl ?_
    try dsimp only [Z.cxK]
    k_call_by "za" 0
    refine Z.comp_range0 (fun j acc H' => acc = ((rampL f l n).take j).map V.int ∧ Same H H') ?_ ?_ ?_
    · intro D H' nw
      exact ⟨rfl, nw.same⟩
    · rintro D j acc H2 fD hj hD ⟨rfl, s⟩
      k_call_by "za" 0
      refine Z.i_I (divW (i := (l - f) * ((j : Int) + 1)) (m := (n : Int)) (by omega) (Nat.lt_of_le_of_lt (m := 400) (by omega) (by decide))) ?_
      k_call_by "za" 0
      refine Z.i_end (by k_call_by "hf" 0) (by simp only [List.length_map, List.length_take, sizeLine_eq]; omega) fun H6 u => ⟨?_, by k_call_by "fr" 0⟩
      rw [take_snoc (x := f + (l - f) * ((j : Int) + 1) / (n : Int)) (by unfold rampL; rw [List.getElem?_map, List.getElem?_range hj]; rfl), List.map_append]; rfl
    · rintro D acc H2 fD hD ⟨rfl, s⟩
      rw [List.take_of_length_le (by unfold rampL; simp)] at hD
      exact k D H2 fD s hD
def sp_l_refused (K : PySem.W.Frag) : Sp := fun vz H Q Ex => ∃ (nd : Addr) (gn : Int) (v wv : V) (b : Bool) (l bg : Nat) (s : S), vz = [.ref nd, v, wv] ∧ (IsNd K H nd l bg (.gain gn)) ∧ (Z.DA [] H v (memD s)) ∧ (s.ok) ∧ (Thing H wv b) ∧ (okFrom wv 0 400 = false) ∧ (∀ H', Same H H' → Q (.bl true) H')
theorem c_l_refused {K : PySem.W.Frag} {H : Hp} {Q : VK} {Ex : XK} {nd : Addr} {gn : Int} {v wv : V} {b : Bool} {l bg : Nat} {s : S} (h1 : IsNd K H nd l bg (.gain gn)) (h2 : Z.DA [] H v (memD s)) (h3 : s.ok) (h4 : Thing H wv b) (h5 : okFrom wv 0 400 = false) (k : ∀ H', Same H H' → Q (.bl true) H') : sp_l_refused K [.ref nd, v, wv] H Q Ex := ⟨nd, gn, v, wv, b, l, bg, s, rfl, h1, h2, h3, h4, h5, k⟩
theorem ok_l_refused {g : Prop} {P : Program} {w : World} {K : PySem.W.Frag} {mg : Str → Option Value} {base : Heap} (E : Ev K mg) : Z.Pr g P w K mg base 6 (He.ga K "_law_refused") d_l_refused p_l_refused (sp_l_refused K) := by
  obtain ⟨fd, FD⟩ := E.fn 19 (d := d_l_refused)
  refine ⟨fd, FD, Z.FunD.okG FD sc_l_refused (fun vz H Q Ex h => ?_) (fun cdv A outer s H vz Q Ex hr hgd h => ?_)⟩
  · obtain ⟨_, _, _, _, _, _, _, _, rfl, _⟩ := h
    rfl
  · have hu := hr.units
    obtain ⟨nd, gn, v, wv, b, l, bg, s, rfl, h1, h2, h3, h4, h5, k⟩ := h
    have F_Gain_turned := ok_Gain_turned (g := g) (P := P) (w := w) (base := base) E
    refine ⟨_, (Z.zs_cons (Z.z_set (i := 3) sc_l_refused.nd rfl (Or.inl rfl) pe_bl)
   (Z.zs_cons (Z.z_try_as (Wout := fun _ _ _ _ => False) (i := 4) rfl rfl sc_l_refused.nd rfl rfl (Z.names_g (by rfl) (E.glo 20)) takes0 (fun W pn xe tk hpo => (Z.zs_one (Z.z_expr (Z.pe_MKS K rfl (Z.ms_cons (Z.mt_of (E.cls 17) (Z.fxM_ok (E.own 9)) F_Gain_turned bd_Gain_turned (hr.mono (by decide)) hgd) Z.ms_nil) (tk) (pv 0) (pa_cons (pv 1) (pa_cons pe_int (pa_cons (pv 2) pa_nil))))))) (fun ea oe cls ed pn hz hf => (Z.zs_one (Z.z_set (i := 3) sc_l_refused.nd rfl (Or.inl rfl) (pe_callB (Z.cisiE K rfl hz hf) (by rfl) (E.free 5) (by decide +kernel) (pa_cons (pv 4) (pa_cons (pe_glob (v := .ref (He.ga K "NoSteps")) rfl (E.glo 11) rfl) pa_nil)))))))
   (Z.zs_one (Z.z_ret (pv 3))))), ?_⟩
    refine Z.i_start (σ := [some (.ref nd), some (v), some (wv), none, none]) rfl ?_
    try dsimp only [Z.cxK]
    have n1 : Num 1 := num_of (by omega)
    k_call_by "za" 0
    refine m_turned0 h1 ?_
    k_call_by "za" 0
    refine c_Gain_turned h1 (mem_of h2) h4 h3.2.1 n1 ⟨fun n e hn => ?_, fun _ H1 s1 => ?_⟩
    · subst e
      rw [okFrom_in (by omega)] at h5
      cases h5
    refine Z.i_catch (Z.fxExm_ok (E.own 0)) fun ea hea => ?_
    k_call_by "za" 0
    refine Z.i_isE (Z.fxExC_ok (E.own 1)) (.inl rfl) (Z.fxKit_ok (E.own 2)) ?_
    k_call_by "za" 0
    exact k _ s1
def sp_l_turned (K : PySem.W.Frag) : Sp := fun vz H Q Ex => ∃ (a nd : Addr) (gn : Int) (v o : V) (l bg : Nat) (s : S) (Lx : List Addr), vz = [.ref a, .ref nd, v, o] ∧ (Pot H a) ∧ (IsNd K H nd l bg (.gain gn)) ∧ (Num gn) ∧ (Z.DA Lx H v (memD s)) ∧ (Z.DA Lx H o (ownD s)) ∧ (s.ok) ∧ (IsL Lx H) ∧ (a ∈ Lx) ∧ (∀ t s' H', s'.ok → Z.DA Lx H' (.ref t) (pairD s') → Pot H' a → Z.But a H H' → Q (.ref t) H')
theorem c_l_turned {K : PySem.W.Frag} {H : Hp} {Q : VK} {Ex : XK} {a nd : Addr} {gn : Int} {v o : V} {l bg : Nat} {s : S} {Lx : List Addr} (h1 : Pot H a) (h2 : IsNd K H nd l bg (.gain gn)) (h3 : Num gn) (h4 : Z.DA Lx H v (memD s)) (h5 : Z.DA Lx H o (ownD s)) (h6 : s.ok) (h7 : IsL Lx H) (h8 : a ∈ Lx) (k : ∀ t s' H', s'.ok → Z.DA Lx H' (.ref t) (pairD s') → Pot H' a → Z.But a H H' → Q (.ref t) H') : sp_l_turned K [.ref a, .ref nd, v, o] H Q Ex := ⟨a, nd, gn, v, o, l, bg, s, Lx, rfl, h1, h2, h3, h4, h5, h6, h7, h8, k⟩
theorem ok_l_turned  {P : Program} {w : World} {K : PySem.W.Frag} {mg : Str → Option Value} {base : Heap} (E : Ev K mg) : Z.Pr True P w K mg base 6 (He.ga K "_law_turned") d_l_turned p_l_turned (sp_l_turned K) := by
  obtain ⟨fd, FD⟩ := E.fn 20 (d := d_l_turned)
  refine ⟨fd, FD, Z.FunD.okG FD sc_l_turned (fun vz H Q Ex h => ?_) (fun cdv A outer s H vz Q Ex hr hgd h => ?_)⟩
  · obtain ⟨_, _, _, _, _, _, _, _, _, rfl, _⟩ := h
    rfl
  · have hu := hr.units
    obtain ⟨a, nd, gn, v, o, l, bg, s, Lx, rfl, h1, h2, h3, h4, h5, h6, h7, h8, k⟩ := h
    have F_Gain_turned := ok_Gain_turned (g := True) (P := P) (w := w) (base := base) E
    have F_l_draw := ok_l_draw (g := True) (P := P) (w := w) (base := base) E
    have F_l_number := ok_l_number (g := True) (P := P) (w := w) (base := base) E
    have F_l_ramp := ok_l_ramp (g := True) (P := P) (w := w) (base := base) E
    refine ⟨_, (Z.zs_cons (Z.z_set (i := 4) sc_l_turned.nd rfl (Or.inl rfl) (Z.pe_f F_l_number (hr.mono (by decide)) hgd (by rfl) (E.glo 23) bd_l_number (passL) (pa_cons (pv 0) pa_nil)))
   (Z.zs_cons (Z.z_set (i := 5) sc_l_turned.nd rfl (Or.inl rfl) (pe_ix (Z.ixUK K rfl) (pe_lst (pa_cons (Z.pe_f F_l_draw (hr.mono (by decide)) hgd (by rfl) (E.glo 3) bd_l_draw (passL) (pa_cons (pv 0) (pa_cons pe_int pa_nil))) (pa_cons (Z.pe_f F_l_draw (hr.mono (by decide)) hgd (by rfl) (E.glo 3) bd_l_draw (passL) (pa_cons (pv 0) (pa_cons pe_int pa_nil))) pa_nil))) (pe_callTy Z.cint (by rfl) (E.free 7) (by decide +kernel) (pa_cons (pe_cmpR (Z.opEqK K rfl hu) (Z.pe_f F_l_draw (hr.mono (by decide)) hgd (by rfl) (E.glo 3) bd_l_draw (passL) (pa_cons (pv 0) (pa_cons pe_int pa_nil))) pe_int (nomark _)) pa_nil)) (fun _ _ => rfl)))
   (Z.zs_cons (Z.z_set (i := 6) sc_l_turned.nd rfl (Or.inl rfl) (pe_callB (Z.creprK K rfl hr hgd trivial) (by rfl) (E.free 22) (by decide +kernel) (pa_cons (pv 2) pa_nil)))
   (Z.zs_cons (Z.z_set (i := 7) sc_l_turned.nd rfl (Or.inl rfl) (Z.pe_MK K rfl (Z.ms_cons (Z.mt_of (E.cls 17) (Z.fxM_ok (E.own 9)) F_Gain_turned bd_Gain_turned (hr.mono (by decide)) hgd) Z.ms_nil) (passL) (pv 1) (pa_cons (pv 2) (pa_cons (pv 4) (pa_cons (pv 5) pa_nil)))))
   (Z.zs_cons (Z.z_if (pt_cmpR (Z.opNeK K rfl hu) (pe_callB (Z.creprK K rfl hr hgd trivial) (by rfl) (E.free 22) (by decide +kernel) (pa_cons (pv 2) pa_nil)) (pv 6) (nomark _)) (Z.zs_one (Z.z_ret pe_non)) Z.zs_nil)
   (Z.zs_cons (Z.z_if (pt_cmpR (Z.opEqK K rfl hu) (pv 5) pe_int (nomark _)) (Z.zs_one (Z.z_ret (pe_tup (pa_cons (pv 7) (pa_cons (pe_lst (pa_cons (pe_ix (Z.ixUK K rfl) (pv 3) pe_int (fun _ _ => rfl)) (pa_cons (pv 4) (pa_cons (pe_lst pa_nil) pa_nil)))) pa_nil))))) Z.zs_nil)
   (Z.zs_one (Z.z_ret (pe_tup (pa_cons (pv 7) (pa_cons (pe_lst (pa_cons (pe_ix (Z.ixUK K rfl) (pv 3) pe_int (fun _ _ => rfl)) (pa_cons (pe_ix (Z.ixUK K rfl) (pv 3) pe_int (fun _ _ => rfl)) (pa_cons (Z.pe_f F_l_ramp (hr.mono (by decide)) hgd (by rfl) (E.glo 21) bd_l_ramp (passL) (pa_cons (pe_ix (Z.ixUK K rfl) (pv 3) pe_int (fun _ _ => rfl)) (pa_cons (pv 4) (pa_cons (pv 5) pa_nil)))) pa_nil)))) pa_nil))))))))))), ?_⟩
    refine Z.i_start (σ := [some (.ref a), some (.ref nd), some (v), some (o), none, none, none, none]) rfl ?_
    try dsimp only [Z.cxK]
    k_call_by "za" 0
    refine c_l_number h1 fun x H1 nx p1 b1 => ?_
    k_call_by "za" 0
    refine c_l_draw p1 (by decide) (by decide) fun r2 H2 r20 r21 p2 b2 => ?_
    k_call_by "za" 0
    refine c_l_draw p2 (by decide) (by decide) fun r3 H3 r30 r31 p3 b3 => ?_
    k_call_by "za" 0
    rename_i l4 H4 n4
    refine c_l_draw (p3.new n4) (by decide) (by decide) fun r5 H5 r50 r51 p5 b5 => ?_
    k_call_by "za" 0
    have e5 := b5.get (p3.ne n4.fr) n4.at
    obtain ⟨m, hm, hle⟩ : ∃ m : Nat, atI [V.int r2, V.int r3] (if decide (r5 = 0) = true then 1 else 0) = some (.int (m : Nat)) ∧ m ≤ 400 := by
      split
      · exact ⟨r3.toNat, by rw [show ((r3.toNat : Nat) : Int) = r3 by omega]; rfl, by omega⟩
      · exact ⟨r2.toNat, by rw [show ((r2.toNat : Nat) : Int) = r2 by omega]; rfl, by omega⟩
    refine Z.i_ixL e5 hm ?_
    k_call_by "za" 0
    have b05 : Z.But a H H5 := (((b1.trans b2).trans b3).new n4).trans b5
    have bl : Z.ButL Lx H H5 := .ofBut b05 h8
    have L5 := h7.but b05 p5
    have d5 := h4.mono bl
    have o5 := h5.mono bl
    refine Z.i_repr d5.dp (neat_mem h6) ?_
    k_call_by "za" 0
    have i5 := h2.kept (h1.kept b05)
    refine m_turned0 i5 ?_
    k_call_by "za" 0
    refine c_Gain_turned i5 (mem_of d5) (.int _) h6.2.1 nx ⟨fun n en hn t6 H6 f6 s6 m6 => ?_, fun e => by
      rw [okFrom_in (by omega)] at e
      cases e⟩
    obtain rfl : m = n := by have := V.int.inj en; omega
    k_call_by "za" 0
    refine Z.i_repr (d5.same s6).dp (neat_mem h6) ?_
    k_call_by "za" 0
    generalize (memD s).shown = sh
    refine Z.itnF rfl ?_
    k_call_by "za" 0
    have p6 := p5.mono s6
    have L6 := L5.same s6
    obtain ⟨po, ro, eo, npo, nro, hpo, hro⟩ := own_of (o5.same s6)
    subst eo
    refine Z.ite2' (fun hz => ?_) (fun hz => ?_)
    · have m0 : m = 0 := by omega
      rw [if_pos m0] at m6
      k_call_by "za" 0
      rename_i r7 H7 n7 q8 H8 n8 t9 H9 n9
      have s69 : Same H6 H9 := by k_call_by "fr" 0
      have p7 : Pot H7 a := p6.new n7
      have p8 : Pot H8 a := p7.new n8
      have L7 : IsL Lx H7 := L6.same (by k_call_by "fr" 0)
      have L8 : IsL Lx H8 := L7.same n8.same
      refine k t9 ⟨s.m, x, []⟩ H9 ⟨h6.1, nx, (fun n h => by cases h), by simp⟩ (of_pair (L8.nin n9.fr) n9.at ((of_mem (s := ⟨s.m, x, []⟩) m6 L6).same s69) (of_own (L7.nin n8.fr) (L6.nin n7.fr) (n9.get n8.at) (n9.get (n8.get n7.at)))) (p6.mono s69) ((b05.same s6).same s69)
    · have m0 : m ≠ 0 := by omega
      rw [if_neg m0] at m6
      k_call_by "za" 0
      refine c_l_ramp hle fun r7 H7 f7 s7 e7 => ?_
      k_call_by "za" 0
      rename_i q8 H8 n8 t9 H9 n9
      have s69 : Same H6 H9 := by k_call_by "fr" 0
      have p7 : Pot H7 a := p6.mono s7
      have p8 : Pot H8 a := p7.new n8
      have L7 : IsL Lx H7 := L6.same (by k_call_by "fr" 0)
      have L8 : IsL Lx H8 := L7.same n8.same
      refine k t9 ⟨s.m, s.f, rampL s.f x m⟩ H9 ⟨h6.1, h6.2.1, ramp_num h6.2.1 nx, by rw [ramp_len]; exact hle⟩ (of_pair (L8.nin n9.fr) n9.at ((of_mem (s := ⟨s.m, s.f, rampL s.f x m⟩) m6 L6).same s69) (of_own (L7.nin n8.fr) (L6.nin f7) (n9.get n8.at) (n9.get (n8.get e7)))) (p6.mono s69) ((b05.same s6).same s69)
def sp_l_fired (K : PySem.W.Frag) : Sp := fun vz H Q Ex => ∃ (a nd : Addr) (gn : Int) (v o : V) (l bg : Nat) (s : S) (Lx : List Addr), vz = [.ref a, .ref nd, v, o] ∧ (Pot H a) ∧ (IsNd K H nd l bg (.gain gn)) ∧ (Num gn) ∧ (Z.DA Lx H v (memD s)) ∧ (Z.DA Lx H o (ownD s)) ∧ (s.ok) ∧ (IsL Lx H) ∧ (a ∈ Lx) ∧ (∀ t s' H', s'.ok → Z.DA Lx H' (.ref t) (pairD s') → Pot H' a → Z.But a H H' → Q (.ref t) H')
theorem c_l_fired {K : PySem.W.Frag} {H : Hp} {Q : VK} {Ex : XK} {a nd : Addr} {gn : Int} {v o : V} {l bg : Nat} {s : S} {Lx : List Addr} (h1 : Pot H a) (h2 : IsNd K H nd l bg (.gain gn)) (h3 : Num gn) (h4 : Z.DA Lx H v (memD s)) (h5 : Z.DA Lx H o (ownD s)) (h6 : s.ok) (h7 : IsL Lx H) (h8 : a ∈ Lx) (k : ∀ t s' H', s'.ok → Z.DA Lx H' (.ref t) (pairD s') → Pot H' a → Z.But a H H' → Q (.ref t) H') : sp_l_fired K [.ref a, .ref nd, v, o] H Q Ex := ⟨a, nd, gn, v, o, l, bg, s, Lx, rfl, h1, h2, h3, h4, h5, h6, h7, h8, k⟩
theorem ok_l_fired  {P : Program} {w : World} {K : PySem.W.Frag} {mg : Str → Option Value} {base : Heap} (E : Ev K mg) : Z.Pr True P w K mg base 3 (He.ga K "_law_fired") d_l_fired p_l_fired (sp_l_fired K) := by
  obtain ⟨fd, FD⟩ := E.fn 21 (d := d_l_fired)
  refine ⟨fd, FD, Z.FunD.okG FD sc_l_fired (fun vz H Q Ex h => ?_) (fun cdv A outer s H vz Q Ex hr hgd h => ?_)⟩
  · obtain ⟨_, _, _, _, _, _, _, _, _, rfl, _⟩ := h
    rfl
  · have hu := hr.units
    obtain ⟨a, nd, gn, v, o, l, bg, s, Lx, rfl, h1, h2, h3, h4, h5, h6, h7, h8, k⟩ := h
    have F_Node_fire := ok_Node_fire (g := True) (P := P) (w := w) (base := base) E
    have F_l_number := ok_l_number (g := True) (P := P) (w := w) (base := base) E
    refine ⟨_, (Z.zs_cons (Z.z_set (i := 4) sc_l_fired.nd rfl (Or.inl rfl) (Z.pe_f F_l_number (hr.mono (by decide)) hgd (by rfl) (E.glo 23) bd_l_number (passL) (pa_cons (pv 0) pa_nil)))
   (Z.zs_cons (Z.z_set (i := 5) sc_l_fired.nd rfl (Or.inl rfl) (pe_lst (pa_cons (pe_callB (Z.cmax2 rfl) (by rfl) (E.free 2) (by decide +kernel) (pa_cons pe_int (pa_cons (pe_op op_sub (pe_ix (Z.ixUK K rfl) (pv 3) pe_int (fun _ _ => rfl)) pe_int) pa_nil))) (pa_cons (pe_ix (Z.ixUK K rfl) (pv 3) pe_int (fun _ _ => rfl)) (pa_cons (pe_callTy (Z.clistK K rfl) (by rfl) (E.free 24) (by decide +kernel) (pa_cons (pe_ix (Z.ixUK K rfl) (pv 3) pe_int (fun _ _ => rfl)) pa_nil)) pa_nil)))))
   (Z.zs_cons (Z.z_set (i := 6) sc_l_fired.nd rfl (Or.inl rfl) pe_int)
   (Z.zs_cons (Z.z_if (pt_cmpR (Z.opEqK K rfl hu) (pe_ix (Z.ixUK K rfl) (pv 3) pe_int (fun _ _ => rfl)) pe_int (nomark _)) (Z.zs_cons (Z.z_if (pt_cmpR (Z.opNeK K rfl hu) (pe_ix (Z.ixUK K rfl) (pv 5) pe_int (fun _ _ => rfl)) (pe_lst pa_nil) (nomark _)) (Z.zs_one (Z.z_asg (pe_bm PySem.F.plainAttrs_list PySem.F.slot_list_pop PySem.F.type_list_pop mt_popAt (pe_ix (Z.ixUK K rfl) (pv 5) pe_int (fun _ _ => rfl)) (pa_cons pe_int pa_nil)) (pg_sub (pv 5) pe_int set_list))) Z.zs_nil)
   (Z.zs_one (Z.z_set (i := 6) sc_l_fired.nd rfl (Or.inl rfl) (pe_op (Z.opMulK K rfl) (pv 4) (pe_ix (Z.ixUK K rfl) (pv 5) pe_int (fun _ _ => rfl)))))) Z.zs_nil)
   (Z.zs_cons (Z.z_set (i := 7) sc_l_fired.nd rfl (Or.inl rfl) (pe_callB (Z.creprK K rfl hr hgd trivial) (by rfl) (E.free 22) (by decide +kernel) (pa_cons (pv 2) pa_nil)))
   (Z.zs_cons (Z.z_asg (Z.pe_MK K rfl (Z.ms_cons (Z.mt_of (E.cls 17) (Z.fxM_ok (E.own 10)) F_Node_fire bd_Node_fire (hr.mono (by decide)) hgd) Z.ms_nil) (passL) (pv 1) (pa_cons (pv 2) (pa_cons (pe_lst (pa_cons (pe_lst (pa_cons (pv 4) pa_nil)) pa_nil)) pa_nil))) (pg_tup (n := 2) (by rfl) (pgs_cons (pg_name (i := 8) sc_l_fired.nd rfl (Or.inl rfl)) (pgs_cons (pg_name (i := 9) sc_l_fired.nd rfl (Or.inl rfl)) pgs_nil))))
   (Z.zs_cons (Z.z_if (PW.pt (pw_or (pt_cmpR (Z.opNeK K rfl hu) (pe_callB (Z.creprK K rfl hr hgd trivial) (by rfl) (E.free 22) (by decide +kernel) (pa_cons (pv 9) pa_nil)) (pe_callB (Z.creprK K rfl hr hgd trivial) (by rfl) (E.free 22) (by decide +kernel) (pa_cons (pe_lst (pa_cons (pv 6) pa_nil)) pa_nil)) (nomark _)) (pw_or1 (pt_cmpR (Z.opNeK K rfl hu) (pe_callB (Z.creprK K rfl hr hgd trivial) (by rfl) (E.free 22) (by decide +kernel) (pa_cons (pv 2) pa_nil)) (pv 7) (nomark _))))) (Z.zs_one (Z.z_ret pe_non)) Z.zs_nil)
   (Z.zs_one (Z.z_ret (pe_tup (pa_cons (pv 8) (pa_cons (pv 5) pa_nil)))))))))))), ?_⟩
    refine Z.i_start (σ := [some (.ref a), some (.ref nd), some (v), some (o), none, none, none, none, none, none]) rfl ?_
    try dsimp only [Z.cxK]
    k_call_by "za" 0
    refine c_l_number h1 fun x H1 nx p1 b1 => ?_
    have bl1 : Z.ButL Lx H H1 := .ofBut b1 h8
    have L1 := h7.but b1 p1
    have d1 := h4.mono bl1
    obtain ⟨po, ro, eo, npo, nro, hpo, hro⟩ := own_of (h5.mono bl1)
    subst eo
    have i1 := h2.kept (h1.kept b1)
    have w1 : (Nd.gain gn).wf := h3
    have fit : Fit (.gain gn) [[x]] := ⟨rfl, fun row hrow m hm => by
      rw [List.mem_singleton.mp hrow] at hm
      rw [List.mem_singleton.mp hm]; exact nx⟩
    have ko : KpOk (.gain gn) (.gain s.f s.ns) := ⟨s.f, s.ns, rfl, h6.2.1, h6.2.2.1, by have := h6.2.2.2; omega⟩
    have e0 : max 0 ((s.m : Int) - 1) = ((s.m - 1 : Nat) : Int) := by omega
    k_call_by "ya" 0
    refine Z.i_seq ?_
    k_call_by "ya" 0
    refine Z.i_seq ?_
    k_call_by "ya" 0
    rename_i c2 H2 n2 q3 H3 n3
    rw [e0] at n3
    have s13 : Same H1 H3 := by k_call_by "fr" 0
    have p3 := p1.mono s13
    refine Z.i_ifG (fun σ' H' => (∃ z7 z8 z9, σ' = [some (.ref a), some (.ref nd), some v, some (.ref po), some (.int x), some (.ref q3), some (.int (dueOf s x)), z7, z8, z9]) ∧ H' q3 = some (.lst [.int ((behind s).m : Nat), .int (behind s).f, .ref c2]) ∧ H' c2 = some (.lst ((behind s).ns.map V.int)) ∧ Same H1 H') ?_ fun nx' kq => ?_
    rotate_left
    · k_call_by "za" 0
      refine Z.ite2' (fun hz => ?_) (fun hz => ?_)
      · have m0 : s.m = 0 := by omega
        k_call_by "za" 0
        rename_i e4 H4 n4
        have c4 : H4 c2 = some (.lst (s.ns.map V.int)) := n4.get (n3.get n2.at)
        refine Z.i_neLI (ns := s.ns) (ms := []) c4 n4.at ?_
        k_call_by "za" 0
        cases hs : s.ns with
        | nil =>
          refine Z.itnF rfl ?_
          k_call_by "za" 0
          have eb : behind s = ⟨0, s.f, []⟩ := by unfold behind; rw [if_pos m0, hs]; rfl
          have ed : dueOf s x = x * s.f := by unfold dueOf; rw [if_pos m0, hs]; rfl
          refine Z.i_mulI (num_mul nx h6.2.1) ?_
          k_call_by "za" 0
          rw [← ed]
          rw [hs] at c4
          refine kq _ _ ⟨⟨_, _, _, rfl⟩, ?_, ?_, by k_call_by "fr" 0⟩
          · rw [eb, n4.get n3.at, m0]
          · rw [eb]; exact c4
        | cons n0 ns =>
          rw [hs] at c4
          refine Z.itnT (by simp) ?_
          k_call_by "za" 0
          refine Z.i_pop0 (v := .int n0) (xs := ns.map V.int) c4 (by have := h6.2.2.2; rw [hs] at this; simp at this; simp; omega) fun H5 u5 => ?_
          have cq : c2 ≠ q3 := n3.ne n2.at
          have q5 : H5 q3 = some (.lst [.int ((s.m - 1 : Nat) : Int), .int s.f, .ref c2]) := u5.get cq.symm (n4.get n3.at)
          k_call_by "za" 0
          rename_i H6 u6
          have eb : behind s = ⟨0, n0, ns⟩ := by unfold behind; rw [if_pos m0, hs]; rfl
          have ed : dueOf s x = x * n0 := by unfold dueOf; rw [if_pos m0, hs]; rfl
          refine Z.i_mulI (num_mul nx (h6.2.2.1 n0 (by rw [hs]; exact List.mem_cons_self))) ?_
          k_call_by "za" 0
          rw [← ed]
          have f2 : H1 c2 = none := n2.fr
          have f3 : H1 q3 = none := by k_call_by "fh" 0
          refine kq _ _ ⟨⟨_, _, _, rfl⟩, ?_, ?_, ?_⟩
          · rw [eb, u6.at, m0]; rfl
          · rw [eb]; exact u6.get cq u5.at
          · exact Z.Same.up (Z.Same.up (by k_call_by "fr" 0 : Same H1 H4) u5 f2) u6 f3
      · have m0 : s.m ≠ 0 := by omega
        k_call_by "za" 0
        have eb : behind s = ⟨s.m - 1, s.f, s.ns⟩ := by unfold behind; rw [if_neg m0]
        have ed : dueOf s x = 0 := by unfold dueOf; rw [if_neg m0]
        rw [← ed]
        refine kq _ _ ⟨⟨_, _, _, rfl⟩, ?_, ?_, s13⟩
        · rw [eb]; exact n3.at
        · rw [eb]; exact n3.get n2.at
    rintro σ' H4 ⟨⟨z7, z8, z9, rfl⟩, q4, c4, s14⟩
    k_call_by "za" 0
    have d4 := d1.same s14
    refine Z.i_repr d4.dp (neat_mem h6) ?_
    k_call_by "za" 0
    have i4 := i1.kept (.of s14)
    refine m_fire0 i4 ?_
    k_call_by "za" 0
    rename_i e5 H5 n5 e6 H6 n6
    have s46 : Same H4 H6 := by k_call_by "fr" 0
    have d6 := d4.same s46
    have rows6 : IsRows H6 e6 [[x]] := ⟨_, n6.at, .one ⟨e5, rfl, n6.get n5.at⟩⟩
    refine c_Node_fire (i4.kept (.of s46)) w1 (mem_of d6) rows6 fit ko (show (1 : Nat) ≤ 1000 by decide) fun t7 mv q7 H7 fq7 s7 et7 eq7 em7 => ?_
    rw [fire_eq] at eq7 em7
    have eq7 : H7 q7 = some (.lst ([dueOf s x].map V.int)) := eq7
    have em7 : IsMem H7 mv (behind s).m (.gain (behind s).f (behind s).ns) := em7
    k_call_by "za" 0
    have gb : ∀ m ∈ [dueOf s x], m.natAbs < Z.big := fun m hm => by rw [List.mem_singleton.mp hm]; exact due_big h6 nx
    refine Z.i_repr (Z.dp_lints eq7) (Z.neat_ints gb (by simp)) ?_
    k_call_by "za" 0
    rename_i l8 H8 n8
    refine Z.i_repr (Z.dp_lints (ns := [dueOf s x]) n8.at) (Z.neat_ints gb (by simp)) ?_
    k_call_by "za" 0
    refine Z.itnF rfl ?_
    k_call_by "za" 0
    have s68 : Same H6 H8 := by k_call_by "fr" 0
    refine Z.i_repr (d6.same s68).dp (neat_mem h6) ?_
    k_call_by "za" 0
    generalize (memD s).shown = sh
    refine Z.itnF rfl ?_
    k_call_by "za" 0
    rename_i t9 H9 n9
    have s79 : Same H7 H9 := by k_call_by "fr" 0
    have s19 : Same H1 H9 := s14.trans (s46.trans (s7.trans s79))
    have p9 := p1.mono s19
    have s49 : Same H4 H9 := s46.trans (s7.trans s79)
    have L2 : IsL Lx H2 := L1.same n2.same
    have L8 : IsL Lx H8 := L1.same (s14.trans (s46.trans s68))
    exact k t9 (behind s) H9 (behind_ok h6) (of_pair (L8.nin n9.fr) n9.at (of_mem (em7.kept (.of s79)) (L1.same s19)) (of_own (L2.nin n3.fr) (L1.nin n2.fr) (s49 _ _ q4) (s49 _ _ c4))) p9 (b1.same s19)
def sp_law (K : PySem.W.Frag) : Sp := fun vz H Q Ex => ∃ (s0 : Addr) (ns0 : List Int), vz = [.ref s0] ∧ (SqL K H s0 (ns0.map V.int)) ∧ (ns0.length ≤ 63) ∧ (∀ H', Q (.bl true) H')
theorem c_law {K : PySem.W.Frag} {H : Hp} {Q : VK} {Ex : XK} {s0 : Addr} {ns0 : List Int} (h1 : SqL K H s0 (ns0.map V.int)) (h2 : ns0.length ≤ 63) (k : ∀ H', Q (.bl true) H') : sp_law K [.ref s0] H Q Ex := ⟨s0, ns0, rfl, h1, h2, k⟩
theorem ok_law  {P : Program} {w : World} {K : PySem.W.Frag} {mg : Str → Option Value} {base : Heap} (E : Ev K mg) : Z.Pr True P w K mg base 7 (He.ga K "law") d_law p_law (sp_law K) := by
  obtain ⟨fd, FD⟩ := E.fn 22 (d := d_law)
  refine ⟨fd, FD, Z.FunD.okG FD sc_law (fun vz H Q Ex h => ?_) (fun cdv A outer s H vz Q Ex hr hgd h => ?_)⟩
  · obtain ⟨_, _, rfl, _⟩ := h
    rfl
  · have hu := hr.units
    obtain ⟨s0, ns0, rfl, h1, h2, k⟩ := h
    have F_Gain_factor := ok_Gain_factor (g := True) (P := P) (w := w) (base := base) E
    have F_Gain_u__init := ok_Gain_u__init (g := True) (P := P) (w := w) (base := base) E
    have F_Node_fresh := ok_Node_fresh (g := True) (P := P) (w := w) (base := base) E
    have F_l_cell := ok_l_cell (g := True) (P := P) (w := w) (base := base) E
    have F_l_draw := ok_l_draw (g := True) (P := P) (w := w) (base := base) E
    have F_l_fired := ok_l_fired (P := P) (w := w) (base := base) E
    have F_l_number := ok_l_number (g := True) (P := P) (w := w) (base := base) E
    have F_l_pot := ok_l_pot (g := True) (P := P) (w := w) (base := base) E
    have F_l_refused := ok_l_refused (g := True) (P := P) (w := w) (base := base) E
    have F_l_turned := ok_l_turned (P := P) (w := w) (base := base) E
    refine ⟨_, (Z.zs_cons (Z.z_for (passes_of rfl) rfl (pi_range1 (by rfl) (E.free 4) (pa_cons (pe_callB (Z.cmax2 rfl) (by rfl) (E.free 2) (by decide +kernel) (pa_cons pe_int (pa_cons (pe_callB (Z.cmin2 rfl) (by rfl) (E.free 25) (by decide +kernel) (pa_cons (pe_callB (Z.clenK K rfl) (by rfl) (E.free 1) (by decide +kernel) (pa_cons (pv 0) pa_nil)) (pa_cons pe_int pa_nil))) pa_nil))) pa_nil)) (pg_name (i := 1) sc_law.nd rfl (Or.inl rfl))
   (Z.zs_cons (Z.z_set (i := 2) sc_law.nd rfl (Or.inl rfl) (Z.pe_f F_l_pot (hr.mono (by decide)) hgd (by rfl) (E.glo 31) bd_l_pot (passL) (pa_cons (Z.pe_f F_l_cell (hr.mono (by decide)) hgd (by rfl) (E.glo 32) bd_l_cell (passL) (pa_cons (pv 0) (pa_cons (pv 1) pa_nil))) pa_nil)))
   (Z.zs_cons (Z.z_par (i := 3) (j := 4) rfl sc_law.nd rfl rfl (by decide) rfl rfl (pa_cons (Z.pe_f F_l_number (hr.mono (by decide)) hgd (by rfl) (E.glo 23) bd_l_number (passL) (pa_cons (pv 2) pa_nil)) (pa_cons (Z.pe_f F_l_draw (hr.mono (by decide)) hgd (by rfl) (E.glo 3) bd_l_draw (passL) (pa_cons (pv 2) (pa_cons pe_int pa_nil))) pa_nil)) (by rfl))
   (Z.zs_cons (Z.z_set (i := 5) sc_law.nd rfl (Or.inr rfl) (Z.pe_newk (E.mkr 29) F_Gain_u__init (hr.mono (by decide)) hgd (by rfl) (E.glo 30) (passL) kb_Gain_u__init_2_begin (pa_cons (pv 3) pa_nil) (pk_cons (pv 4) pk_nil)))
   (Z.zs_cons (Z.z_set (i := 6) sc_law.nd rfl (Or.inl rfl) (pe_lst (pa_cons (pe_tup (pa_cons (Z.pe_M0K K rfl (Z.ms_cons (Z.mt_of (E.cls 17) (Z.fxM_ok (E.own 11)) F_Node_fresh bd_Node_fresh (hr.mono (by decide)) hgd) Z.ms_nil) (passL) (pv 5)) (pa_cons (pe_lst (pa_cons (pv 4) (pa_cons (pv 3) (pa_cons (pe_lst pa_nil) pa_nil)))) pa_nil))) (pa_cons (pe_tup (pa_cons (Z.pe_M0K K rfl (Z.ms_cons (Z.mt_of (E.cls 17) (Z.fxM_ok (E.own 11)) F_Node_fresh bd_Node_fresh (hr.mono (by decide)) hgd) Z.ms_nil) (passL) (pv 5)) (pa_cons (pe_lst (pa_cons (pv 4) (pa_cons (pv 3) (pa_cons (pe_lst pa_nil) pa_nil)))) pa_nil))) pa_nil))))
   (Z.zs_cons (Z.z_for (passes_of rfl) rfl (pi_range1 (by rfl) (E.free 4) (pa_cons (Z.pe_f F_l_draw (hr.mono (by decide)) hgd (by rfl) (E.glo 3) bd_l_draw (passL) (pa_cons (pv 2) (pa_cons pe_int pa_nil))) pa_nil)) (pg_name (i := 7) sc_law.nd rfl (Or.inl rfl))
   (Z.zs_cons (Z.z_set (i := 8) sc_law.nd rfl (Or.inl rfl) (Z.pe_f F_l_draw (hr.mono (by decide)) hgd (by rfl) (E.glo 3) bd_l_draw (passL) (pa_cons (pv 2) (pa_cons pe_int pa_nil))))
   (Z.zs_cons (Z.z_set (i := 9) sc_law.nd rfl (Or.inl rfl) (pe_ix (Z.ixUK K rfl) (pe_lst (pa_cons (pe_glob (v := .ref (He.ga K "_law_turned")) rfl (E.glo 28) rfl) (pa_cons (pe_glob (v := .ref (He.ga K "_law_fired")) rfl (E.glo 27) rfl) (pa_cons (pe_glob (v := .ref (He.ga K "_law_fired")) rfl (E.glo 27) rfl) pa_nil)))) (Z.pe_f F_l_draw (hr.mono (by decide)) hgd (by rfl) (E.glo 3) bd_l_draw (passL) (pa_cons (pv 2) (pa_cons pe_int pa_nil))) (fun _ _ => rfl)))
   (Z.zs_cons (Z.z_asg (Z.pe_V K rfl (Z.ft_cons F_l_turned bd_l_turned (hr.mono (by decide)) hgd (Z.ft_cons F_l_fired bd_l_fired (hr.mono (by decide)) hgd (Z.ft_cons F_l_fired bd_l_fired (hr.mono (by decide)) hgd Z.ft_nil))) (passL) (pv 9) (pa_cons (pv 2) (pa_cons (pv 5) (pa_cons (pe_ix (Z.ixUK K rfl) (pe_ix (Z.ixUK K rfl) (pv 6) (pv 8) (fun _ _ => rfl)) pe_int (fun _ _ => rfl)) (pa_cons (pe_ix (Z.ixUK K rfl) (pe_ix (Z.ixUK K rfl) (pv 6) (pv 8) (fun _ _ => rfl)) pe_int (fun _ _ => rfl)) pa_nil))))) (pg_sub (pv 6) (pv 8) set_list))
   (Z.zs_cons (Z.z_if (pt_cmpR Z.opIs (pe_ix (Z.ixUK K rfl) (pv 6) (pv 8) (fun _ _ => rfl)) pe_non (nomark _)) (Z.zs_one (Z.z_ret pe_bl)) Z.zs_nil)
   (Z.zs_one (Z.z_if (pt_cmpR (Z.opNeK K rfl hu) (pe_lc (own := [("_law_one", 11)]) (g := gName 11) rfl sc_law.nd (Z.pi_seqK K rfl (pv 6)) (blkOk_by (own := [("_law_one", 11)]) (N := n_law) (sc := (defScope s_law)) (by decide +kernel)) (fun _ _ _ _ _ => (pg_name (i := 11) sc_law.nd rfl (Or.inl rfl))) (fun _ _ _ _ _ => pts_nil) (fun _ _ _ _ _ => (Z.pe_MK K rfl (Z.ms_cons (Z.mt_of (E.cls 17) (Z.fxM_ok (E.own 8)) F_Gain_factor bd_Gain_factor (hr.mono (by decide)) hgd) Z.ms_nil) (passL) (pv 5) (pa_cons (pe_ix (Z.ixUK K rfl) (pv 11) pe_int (fun _ _ => rfl)) pa_nil)))) (pe_lc (own := [("_law_one", 11)]) (g := gName 11) rfl sc_law.nd (Z.pi_seqK K rfl (pv 6)) (blkOk_by (own := [("_law_one", 11)]) (N := n_law) (sc := (defScope s_law)) (by decide +kernel)) (fun _ _ _ _ _ => (pg_name (i := 11) sc_law.nd rfl (Or.inl rfl))) (fun _ _ _ _ _ => pts_nil) (fun _ _ _ _ _ => (pe_ix (Z.ixUK K rfl) (pe_ix (Z.ixUK K rfl) (pv 11) pe_int (fun _ _ => rfl)) pe_int (fun _ _ => rfl)))) (nomark _)) (Z.zs_one (Z.z_ret pe_bl)) Z.zs_nil)))))))
   (Z.zs_cons (Z.z_set (i := 10) sc_law.nd rfl (Or.inl rfl) (pe_ix (Z.ixUK K rfl) (pe_lst (pa_cons (pe_un un_neg pe_int) (pa_cons pe_int (pa_cons pe_bl (pa_cons pe_non (pa_cons pe_str (pa_cons (pe_tup (pa_cons pe_int pa_nil)) (pa_cons (pe_lst (pa_cons pe_int pa_nil)) (pa_cons pe_dnewK pa_nil))))))))) (Z.pe_f F_l_draw (hr.mono (by decide)) hgd (by rfl) (E.glo 3) bd_l_draw (passL) (pa_cons (pv 2) (pa_cons pe_int pa_nil))) (fun _ _ => rfl)))
   (Z.zs_one (Z.z_if (pt_not (pt_val (Z.pe_f F_l_refused (hr.mono (by decide)) hgd (by rfl) (E.glo 26) bd_l_refused (passL) (pa_cons (pv 5) (pa_cons (pe_ix (Z.ixUK K rfl) (pe_ix (Z.ixUK K rfl) (pv 6) pe_int (fun _ _ => rfl)) pe_int (fun _ _ => rfl)) (pa_cons (pv 10) pa_nil)))))) (Z.zs_one (Z.z_ret pe_bl)) Z.zs_nil)))))))))
   (Z.zs_one (Z.z_ret pe_bl))), ?_⟩
    refine Z.i_start (σ := [some (.ref s0), none, none, none, none, none, none, none, none, none, none, none]) rfl ?_
    try dsimp only [Z.cxK]
    k_call_by "za" 0
    refine Z.i_rng1I (by omega) (by omega) ?_
    refine Z.loop_range0 (fun i σ H1 => (∃ x1 x2 x3 x4 x5 x6 x7 x8 x9 x10 x11, σ = [some (.ref s0), x1, x2, x3, x4, x5, x6, x7, x8, x9, x10, x11]) ∧ Same H H1) ?_ ?_ ?_
    · exact ⟨⟨_, _, _, _, _, _, _, _, _, _, _, rfl⟩, .refl _⟩
    · rintro i σ H1 hi ⟨⟨x1, x2, x3, x4, x5, x6, x7, x8, x9, x10, x11, rfl⟩, s1⟩
      k_call_by "za" 0
      refine c_l_cell (i := i) (s1.seq h1) (by omega) fun z => ?_
      k_call_by "za" 0
      refine c_l_pot fun a H2 f2 s2 p2 => ?_
      k_call_by "za" 0
      refine c_l_number p2 fun gn H3 ng p3 b3 => ?_
      k_call_by "za" 0
      refine c_l_draw p3 (by decide) (by decide) fun r4 H4 r40 r41 p4 b4 => ?_
      obtain ⟨bg, rfl, hbg⟩ : ∃ bg : Nat, r4 = (bg : Int) ∧ bg ≤ 3 := ⟨r4.toNat, by omega, by omega⟩
      k_call_by "za" 0
      rename_i nd dx H5 m5
      refine c_Gain_u__init (l := 0) (b := bg) m5.at (by decide) (by omega) ng fun H6 i6 b6 => ⟨rfl, ?_⟩
      have s46 : Same H4 H6 := by k_call_by "fr" 0
      have p6 := p4.mono s46
      have w6 : (Nd.gain gn).wf := ng
      k_call_by "za" 0
      refine m_fresh i6 w6 fun v0 H7 s7 m7 => ?_
      k_call_by "za" 0
      rename_i l8 H8 n8 l9 H9 n9 t10 H10 n10
      have s710 : Same H7 H10 := by k_call_by "fr" 0
      have i10 := i6.kept (.of (s7.trans s710))
      refine m_fresh i10 w6 fun v1 H11 s11 m11 => ?_
      k_call_by "za" 0
      rename_i l12 H12 n12 l13 H13 n13 t14 H14 n14 B H15 n15
      have s1115 : Same H11 H15 := by k_call_by "fr" 0
      have s615 : Same H6 H15 := s7.trans (s710.trans (s11.trans s1115))
      have p15 := p6.mono s615
      have fa : H a = none := s1.free f2
      have pB : B ≠ a := (p6.mono (s7.trans (s710.trans (s11.trans (by k_call_by "fr" 0 : Same H11 H14))))).ne n15.fr
      have L15 : ∀ b ∈ [a, B], ∃ xs, H15 b = some (.lst xs) := fun b hb => by
        rcases List.mem_cons.mp hb with rfl | hb
        · exact pot_lst p15 _ List.mem_cons_self
        · rw [List.mem_singleton.mp hb]; exact ⟨_, n15.at⟩
      have ok0 : (S.mk bg gn []).ok := ⟨by show bg ≤ 1000; omega, ng, (fun n h => by cases h), by simp⟩
      have nB : ∀ {b : Addr} {u : HO}, H14 b = some u → b ≠ a → b ∉ [a, B] := fun {b u} hb ha => by
        have := n15.ne hb
        simp [ha, this]
      have pr : ∀ {t q r : Addr} {v : V}, H14 t = some (.tup [v, .ref q]) → H14 q = some (.lst [.int (bg : Nat), .int gn, .ref r]) → H14 r = some (.lst []) → t ≠ a → q ≠ a → r ≠ a → IsMem H15 v bg (.gain gn []) → Z.DA [a, B] H15 (.ref t) (pairD ⟨bg, gn, []⟩) := fun h1 h2 h3 t1 t2 t3 hm =>
        of_pair (nB h1 t1) (n15.get h1) (of_mem (s := ⟨bg, gn, []⟩) hm L15) (of_own (nB h2 t2) (nB h3 t3) (n15.get h2) (n15.get h3))
      have d0 : Z.DA [a, B] H15 (.ref t10) (pairD ⟨bg, gn, []⟩) := by
        have p7 := p6.mono s7
        have s1014 : Same H10 H14 := s11.trans (by k_call_by "fr" 0)
        have p8 := p7.new n8
        have p9 := p8.new n9
        exact pr (s1014 _ _ n10.at) (s1014 _ _ (n10.get n9.at)) (s1014 _ _ (n10.get (n9.get n8.at))) (p9.ne n10.fr) (p8.ne n9.fr) (p7.ne n8.fr) (m7.kept (.of (s710.trans (s11.trans s1115))))
      have d1 : Z.DA [a, B] H15 (.ref t14) (pairD ⟨bg, gn, []⟩) := by
        have p11 := p6.mono (s7.trans (s710.trans s11))
        have p12 := p11.new n12
        have p13 := p12.new n13
        exact pr n14.at (n14.get n13.at) (n14.get (n13.get n12.at)) (p13.ne n14.fr) (p12.ne n13.fr) (p11.ne n12.fr) (m11.kept (.of s1115))
      have i15 := i6.kept (.of s615)
      have fB : H B = none := s1.free (Z.free_back s2 ((b3.trans b4).free (Z.free_back s46 (Z.free_back (s7.trans (s710.trans (s11.trans (by k_call_by "fr" 0 : Same H11 H14)))) n15.fr)) pB))
      have s115 : Z.But a H2 H15 := ((b3.trans b4).same s46).same s615
      refine c_l_draw p15 (by decide) (by decide) fun r16 H16 r160 r161 p16 b16 => ?_
      have bl16 : Z.ButL [a, B] H15 H16 := .ofBut b16 (by simp)
      have k16 := p15.kept b16
      k_call_by "za" 0
      refine Z.i_rng1L r16.toNat (by omega) (by omega) ?_
      refine Z.loop_range0 (fun j σ H' => (∃ y7 y8 y9 y10 y11, σ = [some (.ref s0), some (.int (i : Nat)), some (.ref a), some (.int gn), some (.int (bg : Nat)), some (.ref nd), some (.ref B), y7, y8, y9, y10, y11]) ∧ (∃ (v : Nat → V) (st : Nat → S), H' B = some (.lst [v 0, v 1]) ∧ (∀ r, r < 2 → (st r).ok ∧ Z.DA [a, B] H' (v r) (pairD (st r)))) ∧ Pot H' a ∧ Z.ButL [a, B] H15 H' ∧ Kept H15 H') ?_ ?_ ?_
      · refine ⟨⟨_, _, _, _, _, rfl⟩, ⟨fun r => if r = 0 then .ref t10 else .ref t14, fun _ => ⟨bg, gn, []⟩, b16.get pB n15.at, fun r hr => ⟨ok0, ?_⟩⟩, p16, bl16, k16⟩
        obtain rfl | rfl : r = 0 ∨ r = 1 := by omega
        · exact d0.mono bl16
        · exact d1.mono bl16
      · rintro j σ H17 hj ⟨⟨y7, y8, y9, y10, y11, rfl⟩, ⟨v, st, B17, inv⟩, p17, bl17, k17⟩
        clear pr nB d0 d1 m5 b6 s46 s7 n8 n9 n10 s710 s11 n12 n13 n14 s1115 s615 s115 b3 b4 m7 m11 i6 i10 bl16 k16 b16
        k_call_by "za" 0
        refine c_l_draw p17 (by decide) (by decide) fun at_ H18 at0 at1 p18 b18 => ?_
        obtain ⟨r, rfl, hr⟩ : ∃ r : Nat, at_ = (r : Int) ∧ r < 2 := ⟨at_.toNat, by omega, by omega⟩
        have bl18 : Z.ButL [a, B] H17 H18 := .ofBut b18 (by simp)
        have B18 := b18.get pB B17
        obtain ⟨ok18, da18⟩ := inv r hr
        have da18 := da18.mono bl18
        obtain ⟨tt, mv, ow, ett, ntt, htt, dmv, dow⟩ := pair_of da18
        k_call_by "za" 0
        rename_i l19 H19 n19
        have p19 := p18.new n19
        refine c_l_draw p19 (by decide) (by decide) fun r20 H20 r200 r201 p20 b20 => ?_
        have e20 := b20.get (p18.ne n19.fr) n19.at
        have b1820 : Z.But a H18 H20 := (Z.But.ofSame n19.same).trans b20
        have bl1820 : Z.ButL [a, B] H18 H20 := .ofBut b1820 (by simp)
        have B20 := b1820.get pB B18
        have at20 := b1820.get (by simpa using fun z => ntt (by simp [z]) : tt ≠ a) htt
        have k20 : Kept H15 H20 := (k17.trans (p17.kept b18)).trans (p18.kept b1820)
        have i20 := i15.kept k20
        have bl1720 := bl18.trans bl1820
        have dmv20 := dmv.mono bl1820
        have dow20 := dow.mono bl1820
        have L15' : IsL [a, B] H15 := L15
        have L17 : IsL [a, B] H17 := fun b hb => by
          rcases List.mem_cons.mp hb with rfl | hb
          · exact pot_lst p17 _ List.mem_cons_self
          · rw [List.mem_singleton.mp hb]; exact ⟨_, B17⟩
        have L20 := (L17.but b18 p18).but b1820 p20
        have rest : ∀ (t : Addr) (s' : S) (H' : Hp), s'.ok → Z.DA [a, B] H' (.ref t) (pairD s') → Pot H' a → Z.But a H20 H' → ∀ H22, Z.Up H' B (.lst ([v 0, v 1].set r (.ref t))) H22 →
            ∃ (v : Nat → V) (st : Nat → S), H22 B = some (.lst [v 0, v 1]) ∧ (∀ r, r < 2 → (st r).ok ∧ Z.DA [a, B] H22 (v r) (pairD (st r))) ∧ Pot H22 a ∧ Z.ButL [a, B] H15 H22 ∧ Kept H15 H22 := fun t s' H' ok' da' p' b' H22 u22 => by
          have bl' : Z.ButL [a, B] H20 H' := .ofBut b' (by simp)
          have B' := b'.get pB B20
          have p22 := p'.up u22 pB.symm
          have k22 : Kept H15 H22 := (k20.trans (p20.kept b')).trans (.up u22 B')
          have bl22 : Z.ButL [a, B] H17 H22 := (bl1720.trans bl').up u22 (by simp)
          refine ⟨fun i => if i = r then .ref t else v i, fun i => if i = r then s' else st i, ?_, fun q hq => ?_, p22, bl17.trans bl22, k22⟩
          · rw [u22.at, fn_set hr]
          · by_cases e : q = r
            · subst e
              simp only [if_pos]
              refine ⟨ok', ?_⟩
              exact da'.mono (.ofUp u22 (by simp))
            · simp only [if_neg e]
              exact ⟨(inv q hq).1, (inv q hq).2.mono bl22⟩
        refine Z.i_ixL e20 (v := .ref (if r20 = 0 then He.ga K "_law_turned" else He.ga K "_law_fired")) ?_ ?_
        · obtain rfl | rfl | rfl : r20 = 0 ∨ r20 = 1 ∨ r20 = 2 := by omega
          · rfl
          · rfl
          · rfl
        k_call_by "za" 0
        refine Z.i_Vg (fun v H' => ∃ t s', v = .ref t ∧ S.ok s' ∧ Z.DA [a, B] H' (.ref t) (pairD s') ∧ Pot H' a ∧ Z.But a H20 H') ?_ fun Q' kq => ?_
        rotate_left
        · by_cases hz : r20 = 0
          · rw [if_pos hz]
            refine Z.i_Vi (M := ⟨He.ga K "_law_turned", 4, fun _ vs _ => vs, sp_l_turned K⟩) 0 (by rfl) ?_
            k_call_by "za" 0
            refine Z.i_ixL B20 (fn_at hr) ?_
            rw [ett]
            k_call_by "za" 0
            refine Z.i_ixL B20 (fn_at hr) ?_
            rw [ett]
            k_call_by "za" 0
            dsimp only
            exact c_l_turned p20 i20 ng dmv20 dow20 ok18 L20 (by simp) fun t s' H' a1 a2 a3 a4 => kq _ _ ⟨t, s', rfl, a1, a2, a3, a4⟩
          · rw [if_neg hz]
            refine Z.i_Vi (M := ⟨He.ga K "_law_fired", 4, fun _ vs _ => vs, sp_l_fired K⟩) 1 (by rfl) ?_
            k_call_by "za" 0
            refine Z.i_ixL B20 (fn_at hr) ?_
            rw [ett]
            k_call_by "za" 0
            refine Z.i_ixL B20 (fn_at hr) ?_
            rw [ett]
            k_call_by "za" 0
            dsimp only
            exact c_l_fired p20 i20 ng dmv20 dow20 ok18 L20 (by simp) fun t s' H' a1 a2 a3 a4 => kq _ _ ⟨t, s', rfl, a1, a2, a3, a4⟩
        rintro _ H21 ⟨t, s', rfl, ok21, da21, p21, b21⟩
        have B21 := b21.get pB B20
        k_call_by "za" 0
        refine Z.i_setL B21 (Z.ixN_nat (by simpa using hr)) fun H22 u22 => ?_
        obtain ⟨v2, st2, B22, inv22, p22, bl22, k22⟩ := rest t s' H21 ok21 da21 p21 b21 H22 u22
        k_call_by "za" 0
        obtain ⟨_, x0, y0, e0, n0, h0, m0, w0⟩ := pair_of (inv22 r hr).2
        refine Z.i_ixL B22 (fn_at hr) ?_
        rw [e0]
        k_call_by "za" 0
        obtain ⟨q0, x0, y0, e0, n0, h0, m0, w0⟩ := pair_of (inv22 0 (by decide)).2
        obtain ⟨q1, x1, y1, e1, n1, h1', m1, w1⟩ := pair_of (inv22 1 (by decide)).2
        have ii22 := i15.kept k22
        refine Z.comp_list (xs := [v2 0, v2 1]) (fun i acc H' => acc = ([(st2 0).f, (st2 1).f].take i).map V.int ∧ Same H22 H') ?_ ?_ ?_ ?_
        · intro D H' n
          exact ⟨rfl, n.same⟩
        · rintro i acc H' hi ⟨rfl, sx⟩
          exact SqL.of (sx _ _ B22)
        · rintro D i acc x H' fD hx hD ⟨rfl, sx⟩
          have hi : i < 2 := (List.getElem?_eq_some_iff.mp hx).1
          obtain rfl | rfl : i = 0 ∨ i = 1 := by omega
          · obtain rfl : v2 0 = x := Option.some.inj hx
            rw [e0]
            k_call_by "za" 0
            refine m_factor0 (ii22.kept (.of sx)) ?_
            k_call_by "za" 0
            refine c_Gain_factor (ii22.kept (.of sx)) (mem_of (m0.same sx)) ?_
            exact Z.i_end hD (by rw [sizeLine_eq]; show 0 < 16777216; decide) fun H6 u => ⟨rfl, by k_call_by "fr" 0⟩
          · obtain rfl : v2 1 = x := Option.some.inj hx
            rw [e1]
            k_call_by "za" 0
            refine m_factor0 (ii22.kept (.of sx)) ?_
            k_call_by "za" 0
            refine c_Gain_factor (ii22.kept (.of sx)) (mem_of (m1.same sx)) ?_
            exact Z.i_end hD (by rw [sizeLine_eq]; show 1 < 16777216; decide) fun H6 u => ⟨rfl, by k_call_by "fr" 0⟩
        rintro D1 acc H23 fD1 hD1 ⟨rfl, s23⟩
        k_call_by "za" 0
        refine Z.comp_list (xs := [v2 0, v2 1]) (fun i acc H' => acc = ([(st2 0).f, (st2 1).f].take i).map V.int ∧ Same H23 H') ?_ ?_ ?_ ?_
        · intro D H' n
          exact ⟨rfl, n.same⟩
        · rintro i acc H' hi ⟨rfl, sx⟩
          exact SqL.of (sx _ _ (s23 _ _ B22))
        · rintro D i acc x H' fD hx hD ⟨rfl, sx⟩
          have hi : i < 2 := (List.getElem?_eq_some_iff.mp hx).1
          obtain rfl | rfl : i = 0 ∨ i = 1 := by omega
          · obtain rfl : v2 0 = x := Option.some.inj hx
            rw [e0]
            obtain ⟨po, ro, eo, _, _, hpo, hro⟩ := own_of (w0.same (s23.trans sx))
            subst eo
            k_call_by "za" 0
            exact Z.i_end hD (by rw [sizeLine_eq]; show 0 < 16777216; decide) fun H6 u => ⟨rfl, by k_call_by "fr" 0⟩
          · obtain rfl : v2 1 = x := Option.some.inj hx
            rw [e1]
            obtain ⟨po, ro, eo, _, _, hpo, hro⟩ := own_of (w1.same (s23.trans sx))
            subst eo
            k_call_by "za" 0
            exact Z.i_end hD (by rw [sizeLine_eq]; show 1 < 16777216; decide) fun H6 u => ⟨rfl, by k_call_by "fr" 0⟩
        rintro D2 acc H24 fD2 hD2 ⟨rfl, s24⟩
        have f2e : ∀ L : List Int, L = [(st2 0).f, (st2 1).f] → True := fun _ _ => trivial
        refine Z.i_neLI (ns := [(st2 0).f, (st2 1).f]) (ms := [(st2 0).f, (st2 1).f]) (s24 _ _ hD1) hD2 ?_
        k_call_by "za" 0
        refine Z.itnF rfl ?_
        k_call_by "za" 0
        have s2224 : Same H22 H24 := s23.trans s24
        exact ⟨⟨_, _, _, _, _, rfl⟩, ⟨v2, st2, s2224 _ _ B22, fun q hq => ⟨(inv22 q hq).1, (inv22 q hq).2.same s2224⟩⟩, p22.mono s2224, bl22.same s2224, k22.trans (.of s2224)⟩
      · rintro σ H17 ⟨⟨y7, y8, y9, y10, y11, rfl⟩, ⟨v, st, B17, inv⟩, p17, bl17, k17⟩
        k_call_by "za" 0
        rename_i t18 H18 n18 l19 H19 n19 e20 H20 n20 d21 H21 n21
        have s1721 : Same H17 H21 := by k_call_by "fr" 0
        refine c_l_draw (p17.mono s1721) (by decide) (by decide) fun r22 H22 r220 r221 p22 b22 => ?_
        have k22 : ∀ {b : Addr} {u : HO}, H21 b = some u → b ≠ a → H22 b = some u := fun h n => b22.get n h
        have n18a : t18 ≠ a := p17.ne n18.fr
        have n19a : l19 ≠ a := (p17.new n18).ne n19.fr
        have n20a : e20 ≠ a := ((p17.new n18).new n19).ne n20.fr
        have n21a : d21 ≠ a := (((p17.new n18).new n19).new n20).ne n21.fr
        obtain ⟨th, b, ov, hth, tb⟩ : ∃ th b, okFrom th 0 400 = false ∧ atI [V.int (-1), V.int 401, V.bl true, V.non, V.str "1", V.ref t18, V.ref l19, V.ref e20] r22 = some th ∧ Thing H22 th b := by
          obtain ⟨m, rfl⟩ : ∃ m : Nat, r22 = m := ⟨r22.toNat, by omega⟩
          have hm : m < 8 := by omega
          obtain rfl | rfl | rfl | rfl | rfl | rfl | rfl | rfl : m = 0 ∨ m = 1 ∨ m = 2 ∨ m = 3 ∨ m = 4 ∨ m = 5 ∨ m = 6 ∨ m = 7 := by omega
          · exact ⟨_, _, okFrom_out (by omega), rfl, .int _⟩
          · exact ⟨_, _, okFrom_out (by omega), rfl, .int _⟩
          · exact ⟨_, _, rfl, rfl, .bl _⟩
          · exact ⟨_, _, rfl, rfl, .non⟩
          · exact ⟨_, _, rfl, rfl, .str _⟩
          · exact ⟨_, _, rfl, rfl, .tup (k22 (n21.get (n20.get (n19.get n18.at))) n18a)⟩
          · exact ⟨_, _, rfl, rfl, .lst (k22 (n21.get (n20.get n19.at)) n19a)⟩
          · exact ⟨_, _, rfl, rfl, .dK (k22 (n21.get n20.at) n20a)⟩
        refine Z.i_ixL (k22 n21.at n21a) hth ?_
        k_call_by "za" 0
        have bl22 : Z.ButL [a, B] H17 H22 := (Z.ButL.ofSame s1721).trans (.ofBut b22 (by simp))
        obtain ⟨q0, x0, y0, e0, n0, h0, m0, w0⟩ := pair_of ((inv 0 (by decide)).2.mono bl22)
        have B22 : H22 B = some (.lst [v 0, v 1]) := b22.get pB (s1721 _ _ B17)
        rw [e0]
        k_call_by "za" 0
        refine c_l_refused (i15.kept ((k17.trans (.of s1721)).trans ((p17.mono s1721).kept b22))) (m0.less (fun b h => by cases h)) (inv 0 (by decide)).1 tb ov fun H23 s23 => ?_
        k_call_by "za" 0
        have bl23 : Z.ButL [a, B] H15 H23 := (bl17.trans bl22).same s23
        refine ⟨⟨_, _, _, _, _, _, _, _, _, _, _, rfl⟩, fun b u hb => ?_⟩
        have hb2 := s2 _ _ (s1 _ _ hb)
        refine bl23 _ _ ?_ (s115.get (ne_of_none hb fa) hb2)
        have e1 := ne_of_none hb fB
        have e2 := ne_of_none hb fa
        simp only [List.mem_cons, List.not_mem_nil, or_false, not_or]
        exact ⟨e2, e1⟩
    · rintro σ H1 ⟨⟨x1, x2, x3, x4, x5, x6, x7, x8, x9, x10, x11, rfl⟩, s1⟩
      k_call_by "za" 0
      exact k _

theorem start_law {K : PySem.W.Frag} (H : Hp) (a : Addr) (ns : List Int) (l : ns.length ≤ 63) (_ : ∀ z ∈ ns, Builtin.Int.intBits z ≤ 1048576) (_ : L2.Only H) (h : SqL K H a (ns.map V.int)) :
    sp_law K [.ref a] H (fun v _ => v = .bl true) fun _ _ _ => False := c_law h l fun _ => rfl


abbrev R : PySem.W.OpenRow := PySem.W.OpenLaw.row PySem.Challenge.rw_sampleweave_k13_gains_turned
abbrev hk : PySem.W.Hook := Z.hookX 5 fa fx dl
def obs (s : PySem.W.SharedT) : He.AlD := Z.obsXG 5 fa fx dl (HandSHeadRun.getT s)
theorem obs_eq (s : PySem.W.SharedT) : obs s = hk.obs s.abs := Z.obsXG_eq (HandSHeadRun.getT_eq s)
def names : List Str := (["_wall", "WeaveError", "NoNode", "NoSteps", "MOST_STEPS", "is_whole", "is_whole_from", "want_steps", "ramp", "MOST_LATE", "MOST_BEGIN", "want", "Node", "Gain", "_law_cell", "_law_pot", "_law_draw", "_law_number", "_law_ramp", "_law_refused", "_law_turned", "_law_fired"] : List Str)
theorem run (w : World) : HandSHeadRun.RunEq R (PySem.W.view R.prog [26]) hk obs 12000 names w := by
  intro os
  kernel_rfl
end L
open PySem PySem.W PySem.Calls PyProof.Rows
set_option maxRecDepth 100000 in
set_option maxHeartbeats 0 in
theorem PySem.Challenge.cw_sampleweave_k13_gains_turned_holds : PySem.Challenge.rw_sampleweave_k13_gains_turned.Holds := by
  w_on; o_law
  refine HandSHeadRun.head_any (r := OpenLaw.row PySem.Challenge.rw_sampleweave_k13_gains_turned) (q := view (OpenLaw.row PySem.Challenge.rw_sampleweave_k13_gains_turned).prog [26]) (H := L.hk) (ob := L.obs) (M := 12000) (loose := L.names)
    (d := HandSHeadRun.topDef (OpenLaw.row PySem.Challenge.rw_sampleweave_k13_gains_turned).prog 26) (kwd := []) L.obs_eq (by kernel_rfl) (fun s => by kernel_rfl) L.run (by kernel_rfl) (by kernel_rfl) (by kernel_rfl) (by rfl)
    (by first | assumption | decide +kernel) (by decide +kernel) ⟨rfl, rfl, rfl, rfl, rfl, by decide +kernel⟩ ?hw ?hc
  case hw => w_witness2
  case hc =>
    refine Z.walk_ofG (l := PySem.Challenge.rw_sampleweave_k13_gains_turned) (n := 63) (k := 7) (x := "_law_script") rfl (by decide) (by kernel_rfl) ⟨rfl, by decide, by decide⟩ ?F
    intro w mg fa h Y G hmg0
    obtain ⟨K, KX, c⟩ := Y
    have hmg : mg ("law" : PySem.Str) = some (.ref fa) := by
      have e : (HandSHeadRun.topDef (OpenLaw.row PySem.Challenge.rw_sampleweave_k13_gains_turned).prog 26).name = ("law" : PySem.Str) := by kernel_rfl
      rw [← e]
      exact hmg0
    have E : L.Ev K mg := ⟨c, h, KX, G⟩
    have e := hmg.symm.trans (E.glo 35)
    cases e
    obtain ⟨fd, FD, OK⟩ := (L.ok_law (P := (PySem.Challenge.rw_sampleweave_k13_gains_turned).prog) (w := w) (base := h) E).ex
    refine ⟨K, fd, L.sp_law K, KX, fun s v => L2.FunD.bindsA (ps := ["_law_script"]) FD (fun _ _ _ _ _ _ us hl => match us, hl with | [_], _ => rfl) s [v] rfl, L.start_law, fun base b1 b2 => ?_⟩
    obtain ⟨fd', FD', OK'⟩ := (L.ok_law (P := (PySem.Challenge.rw_sampleweave_k13_gains_turned).prog) (w := w) (base := base) E).ex
    rw [Z.FunD.uniq FD FD']
    exact OK'
#print axioms PySem.Challenge.cw_sampleweave_k13_gains_turned_holds
