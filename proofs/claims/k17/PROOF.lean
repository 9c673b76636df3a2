import PyProof.Rows.All
import Wide.All
import OpenK.AllK
import Wide.FinOn
import HandS.ForMost
import HandS.Exc
import HandS.ExcOwn
import HandS.WordsExc
import HandS.Defaults
import HandS.MakeKwOnly
import HandS.Flow
import HandS.Style
import HandS.Wide
import HandS.WideBits
import HandS.IsInst
import HandS.TupAny
import HandS.TupMul
import HandS.Zip
import HandS.ClsMeth
import HandS.Deep
import HandS.Head0
import HandS.Head1
import HandS.Head2
import HandS.HeadEnd
import HandS.HeadHook1
import HandS.HeadHook2
import HandS.EndBits
import HandS.SortInts
import KE.KExcIs
import PySem.Challenge.RW_sampleweave_k17_whole_resampled
set_option Elab.async false
set_option linter.all false
set_option maxRecDepth 100000
set_option maxHeartbeats 4000000

/-! Z, part one: promises of defs where it is known that no repr goes on around (g), calls by them. -/
namespace Z
open PySem PySem.Spec PyProof.Rows L2

/-- the guards are known to be none, where g asks for it -/
def Gd (g : Prop) (A : Around) : Prop := g → A.guards = some []
theorem Gd.deeper {g : Prop} {A : Around} (h : Gd g A) (env : Env) : Gd g (A.deeper env) := fun x => h x
theorem Gd.make {g : Prop} {A : Around} (h : Gd g A) (C : Addr) (us : List Value) (kw : List (Str × Value)) :
    Gd g (A.under (.builtin "type.__call__" ⟨.ref C :: us, kw⟩)) := fun x => by
  have e := h x
  simp [Around.under, Code.guards, Code.isGuard, guardIds, pushGuards, e]

/-- a def's promise, with the guards -/
structure FnG (g : Prop) (P : Program) (w : World) (K : PySem.W.Frag) (mg : Str → Option Value) (base : Heap) (k : Nat) (f : Addr) (fd : FuncData) (ps : List Str) (sp : Sp) : Prop where
  len : ∀ vs H Q E, sp vs H Q E → vs.length = ps.length
  run : ∀ (A : Around) (outer : List Env) (s : Shared) (H : Hp) (args : Args) (us : List Value) (vs : List V) (Q : VK) (E : XK),
    Room k A → Gd g A → Env0 P w K mg base A outer s H → BindsTo s fd args (ps.zip us) → Vals vs us → sp vs H Q E →
    codeAny (model P w) A (.call (.ref f) args) (CR (L2.CX P w) outer P w H s Q E) s

section
variable {g : Prop} {P : Program} {w : World} {K : PySem.W.Frag} {mg : Str → Option Value} {base : Heap}
theorem FnG.mono {j k : Nat} {f : Addr} {fd : FuncData} {ps : List Str} {sp : Sp} (F : FnG g P w K mg base j f fd ps sp) (h : j ≤ k) :
    FnG g P w K mg base k f fd ps sp where
  len := F.len
  run := fun A outer s H args us vs Q E r gd => F.run A outer s H args us vs Q E (r.mono h) gd
theorem FnG.ofOk {k : Nat} {f : Addr} {fd : FuncData} {ps : List Str} {sp : Sp} (F : FnOk P w K mg base (L2.CX P w) k f fd ps sp) :
    FnG g P w K mg base k f fd ps sp := ⟨F.len, fun A outer s H args us vs Q E r _ => F.run A outer s H args us vs Q E r⟩
theorem FnG.ok {k : Nat} {f : Addr} {fd : FuncData} {ps : List Str} {sp : Sp} (F : FnG False P w K mg base k f fd ps sp) :
    FnOk P w K mg base (L2.CX P w) k f fd ps sp :=
  ⟨F.len, fun A outer s H args us vs Q E r e0 => F.run A outer s H args us vs Q E r (fun z => z.elim) e0⟩
theorem FnG.imp {k : Nat} {f : Addr} {fd : FuncData} {ps : List Str} {sp sp' : Sp} (F : FnG g P w K mg base k f fd ps sp)
    (h : ∀ vs H Q E, sp' vs H Q E → sp vs H Q E) : FnG g P w K mg base k f fd ps sp' where
  len := fun vs H Q E q => F.len vs H Q E (h _ _ _ _ q)
  run := fun A outer s H args us vs Q E r gd e0 hb hv q => F.run A outer s H args us vs Q E r gd e0 hb hv (h _ _ _ _ q)

/-- a def by its body -/
theorem FunD.okG {x qual : Str} {params : Arguments} {body : List Stmt} {scope : Scope} {dvs : List V} {kws : List (Str × V)} {f : Addr} {fd : FuncData} {N ps : List Str} {k : Nat} {sp : Sp}
    (F : FunD K x qual params body scope dvs kws f fd) (S : FnScope N ps scope) (len : ∀ vs H Q E, sp vs H Q E → vs.length = ps.length)
    (hb : ∀ (cdv : Value) (A : Around) (outer : List Env) (s : Shared) (H : Hp) (vs : List V) (Q : VK) (E : XK),
      Room k (A.deeper (envOfC qual scope s.heap.objs.size f cdv)) → Gd g (A.deeper (envOfC qual scope s.heap.objs.size f cdv)) → sp vs H Q E →
      ∃ t, PSs (cxOf (L2.CX P w) P w K mg base N qual scope f cdv A outer s H E) body t ∧ t { nx := fun _ H' => Q .non H', rt := Q } (start N vs) H) :
    FnG g P w K mg base (k + 1) f fd ps sp := by
  obtain ⟨oc, od, dV, kV, doc, pm, an, cdv, ct, osl, rfl, lk, hcd, _, _⟩ := F.ex
  refine ⟨len, fun A outer s H args us vs Q E r gd e0 bnd rel q0 => ?_⟩
  have vl := len _ _ _ _ q0
  have KX : K.In s.heap := e0.mod.kin.keeps fun b o z => (e0.bs b o z).1
  have nl : s.heap.NoLimit := e0.mod.nolimit.keeps fun b o z => (e0.bs b o z).1
  have kd : ∀ y ∈ ps.zip us, scope.names.lookup y.1 = some .local ∨ (scope.names.lookup y.1 = some .cell ∧ ((cellsFrom (s.heap.objs.size + 1) scope.names []).lookup y.1).isSome = true) := by
    intro y hy
    rcases S.par y.1 (List.of_mem_zip (show (y.1, y.2) ∈ ps.zip us from hy)).1 with z | z
    · exact Or.inl z
    · exact Or.inr ⟨z, PySem.W.cellsFrom_some _ _ _ (Or.inl z)⟩
  refine codeAny_call_function r.depth (KX _ _ lk) rfl S.co S.gen rfl (PySem.W.codeRec_of KX hcd) (bnd _ _ _ _ ?_)
  refine wpAny_newFunctionEnv_cells S.kind kd fun env ev s1 ic => ?_
  subst ev
  refine ⟨nl.keeps ic.toInCall.keep, codeAny_func ?_⟩
  obtain ⟨t, ht, q1⟩ := hb cdv A outer s H vs Q E (r.deeper _) (gd.deeper _) q0
  have I0 := inv_start (CX := L2.CX P w) (P := P) (w := w) (qual := qual) (f := f) (cd := cdv) (E := E) S r.hd e0 vl rel ic
  refine wpAny_mono (ht.run [] s1 (start N vs) H _ I0 q1) (fun fl s' z => ?_) fun e s' z => z
  match fl, z with
  | .ret u, ⟨v, σ', H', J, rv, q⟩ => exact ⟨v, H', J.os, J.bare, J.base, J.hok, rv, q⟩
  | .next, ⟨σ', H', J, q⟩ => exact ⟨.non, H', J.os, J.bare, J.base, J.hok, rfl, q⟩
  | .brk, ⟨_, _, _, q⟩ => exact q.elim
  | .cont, ⟨_, _, _, q⟩ => exact q.elim
end

/-- a def (a datum of the head) that stands at f and keeps its promise -/
structure Pr (g : Prop) (P : Program) (w : World) (K : PySem.W.Frag) (mg : Str → Option Value) (base : Heap) (k : Nat) (f : Addr) (d : He.DefD) (ps : List Str) (sp : Sp) : Prop where
  ex : ∃ fd, FunD K d.name d.qual d.params d.body d.scope (d.dvs K) (d.kws K) f fd ∧ FnG g P w K mg base k f fd ps sp
/-- how a call with n values and the keywords ks binds: gV puts them (and defaults) in the parameters' order -/
def Bd (d : He.DefD) (ps : List Str) (n : Nat) (ks : List Str) (gV : PySem.W.Frag → List V → List V → List V) : Prop :=
  ∀ (K : PySem.W.Frag) (f : Addr) (fd : FuncData), FunD K d.name d.qual d.params d.body d.scope (d.dvs K) (d.kws K) f fd → ∃ gg, KBn K fd ps n ks gg (gV K)
theorem Bd.plain {d : He.DefD} {ps : List Str} {n : Nat} (hn : n = ps.length) (hd : d.dfl = []) (hk : d.kwd = [])
    (h : ∀ (kV doc pm : Value) (an : Option Addr) (cdv ct : Value) (us : List Value), us.length = ps.length →
      bindArgs (PySem.W.fnOf d.name d.qual d.params d.body d.scope .none kV doc pm an cdv ct) ⟨us, []⟩ = pure (ps.zip us)) : Bd d ps n [] (fun _ vs _ => vs) := by
  subst hn
  intro K f fd F
  have e1 : d.dvs K = [] := by unfold He.DefD.dvs; rw [hd]; rfl
  have e2 : d.kws K = [] := by unfold He.DefD.kws; rw [hk]; rfl
  rw [e1, e2] at F
  have B := F.bindsN h
  refine ⟨fun us _ => us, ⟨fun s us ws X l1 l2 => ?_, fun r _ => r⟩⟩
  cases ws with
  | nil =>
    have z := B s us X (by rw [List.append_nil]; exact l1)
    rw [List.append_nil] at z
    exact z
  | cons a b => cases l2

section
variable {X : Cx} {g : Prop} {k n : Nat} {f C : Addr} {d : He.DefD} {ps ks : List Str} {gV : PySem.W.Frag → List V → List V → List V} {sp : Sp} {E : XK} {x m : Str} {p pos apos : Pos} {e o : Expr} {es : List Expr} {kws : List Keyword} {ta : TE} {t tk : TA}
/-- the callee runs -/
theorem run_g {fd : FuncData} {gg : List Value → List Value → List Value} {gW : List V → List V → List V} {pins : List (Addr × Obj)} {σ : L2.St} {H : Hp} {s : Shared} {Q : VK} {us ws : List Value} {vs zs : List V}
    (F : FnG g X.prog X.w X.K X.mg X.base k f fd ps sp) (hr : Room k X.A) (hgd : Gd g X.A) (hb : KBn X.K fd ps n ks gg gW) (hx : Passes (L2.CX X.prog X.w) X E)
    (I : Inv X pins σ H s) (r : Vals vs us) (rz : Vals zs ws) (l1 : vs.length = n) (l2 : zs.length = ks.length) (h : sp (gW vs zs) H Q E) :
    wpAny (model X.prog X.w) X.A (call (.ref f) us (ks.zip ws)) (EP X pins σ Q) X.xe s := by
  refine wpAny_call (codeAny_mono (F.run X.A X.stack s H ⟨us, ks.zip ws⟩ (gg us ws) (gW vs zs) Q E hr hgd I.env0 (hb.to s us ws I.kIn (r.length.symm.trans l1) (rz.length.symm.trans l2)) (hb.rel r rz) h) fun z s' hq => ?_)
  match z, hq with
  | .error e, hq => exact hx pins σ H s e s' I hq
  | .ok (.ret u), hq => exact I.after hq
  | .ok .next, hq => exact False.elim hq
  | .ok .brk, hq => exact False.elim hq
  | .ok .cont, hq => exact False.elim hq

/-- a call's reading: the values, the keywords' values, the promise -/
def zCall (K : PySem.W.Frag) (n m : Nat) (gV : PySem.W.Frag → List V → List V → List V) (sp : Sp) (E : XK) (t tk : TA) : TE := fun σ H Q =>
  t σ H fun vs H1 => tk σ H1 fun zs H2 => vs.length = n ∧ zs.length = m ∧ sp (gV K vs zs) H2 Q E

theorem pe_fk (F : Pr g X.prog X.w X.K X.mg X.base k f d ps sp) (hr : Room k X.A) (hgd : Gd g X.A) (hg : Gl X x) (hm : X.mg x = some (.ref f)) (hb : Bd d ps n ks gV) (hx : Passes (L2.CX X.prog X.w) X E)
    (ha : PA X (e :: es) t) (hkw : PK X kws tk) (hall : (backToKw pos (keywordEach kws X.env)).all (·.1.isSome) = true := by rfl)
    (hks : (backToKw pos (keywordEach kws X.env)).filterMap (·.1) = ks := by rfl) (hdb : (x == ("__debug__" : Str)) = false := by decide)
    (he : starEach (e :: es) X.env = (false, eval e X.env) :: starEach es X.env := by rfl)
    (hpl : ((backTo pos (starEach (e :: es) X.env)).any (·.1) || (backToKw pos (keywordEach kws X.env)).any (·.1.isNone)) = false := by rfl) :
    PE X (.Call (.Name x p) (e :: es) kws pos) (zCall X.K n ks.length gV sp E t tk) := by
  obtain ⟨fd, FD, OK⟩ := F.ex
  obtain ⟨gg, B⟩ := hb _ _ _ FD
  refine ⟨fun pins s σ H Q I h => ?_⟩
  refine wpAny_Call_Name_kw (ld_glob I hg hm ?_ hdb)
  refine PySem.W.callWith_KW (h₀ := X.base) I.ok.mod.kin FD.kp hall ?_ hpl he
  refine thn (ha.run pos pins s σ H _ I h) fun us s1 ⟨vs, H1, I1, r, q⟩ => ?_
  refine thn (hkw.run pos pins s1 σ H1 _ I1 q) fun ws s2 ⟨zs, H2, I2, rz, l1, l2, q2⟩ => ⟨I2.kIn, ?_⟩
  rw [hks]
  exact run_g OK hr hgd B hx I2 r rz l1 l2 q2
theorem pe_fk0 (F : Pr g X.prog X.w X.K X.mg X.base k f d ps sp) (hr : Room k X.A) (hgd : Gd g X.A) (hg : Gl X x) (hm : X.mg x = some (.ref f)) (hb : Bd d ps n ks gV) (hx : Passes (L2.CX X.prog X.w) X E)
    (hkw : PK X kws tk) (hall : (backToKw pos (keywordEach kws X.env)).all (·.1.isSome) = true := by rfl)
    (hks : (backToKw pos (keywordEach kws X.env)).filterMap (·.1) = ks := by rfl) (hdb : (x == ("__debug__" : Str)) = false := by decide)
    (hpl : ((backTo pos (starEach [] X.env)).any (·.1) || (backToKw pos (keywordEach kws X.env)).any (·.1.isNone)) = false := by rfl) :
    PE X (.Call (.Name x p) [] kws pos) (zCall X.K n ks.length gV sp E tNil tk) := by
  obtain ⟨fd, FD, OK⟩ := F.ex
  obtain ⟨gg, B⟩ := hb _ _ _ FD
  refine ⟨fun pins s σ H Q I h => ?_⟩
  refine wpAny_Call_Name_kw (ld_glob I hg hm ?_ hdb)
  refine PySem.W.callWith_KW0 (h₀ := X.base) I.ok.mod.kin FD.kp hall ?_ hpl
  refine thn (hkw.run pos pins s σ H _ I h) fun ws s2 ⟨zs, H2, I2, rz, l1, l2, q2⟩ => ⟨I2.kIn, ?_⟩
  rw [hks]
  exact run_g (us := []) (vs := []) OK hr hgd B hx I2 .nil rz l1 l2 q2
theorem pe_f (F : Pr g X.prog X.w X.K X.mg X.base k f d ps sp) (hr : Room k X.A) (hgd : Gd g X.A) (hg : Gl X x) (hm : X.mg x = some (.ref f)) (hb : Bd d ps n [] gV) (hx : Passes (L2.CX X.prog X.w) X E)
    (ha : PA X (e :: es) t) (hdb : (x == ("__debug__" : Str)) = false := by decide) (he : starEach (e :: es) X.env = (false, eval e X.env) :: starEach es X.env := by rfl)
    (hpl : (backTo pos (starEach es X.env)).any (·.1) = false := by rfl) : PE X (.Call (.Name x p) (e :: es) [] pos) (zCall X.K n 0 gV sp E t tNil) := by
  obtain ⟨fd, FD, OK⟩ := F.ex
  obtain ⟨gg, B⟩ := hb _ _ _ FD
  refine ⟨fun pins s σ H Q I h => ?_⟩
  refine wpAny_Call_Name_kw (ld_glob I hg hm ?_ hdb)
  refine PySem.W.callWith_K (h₀ := X.base) I.ok.mod.kin FD.kp ?_ he hpl
  refine thn (ha.run pos pins s σ H _ I h) fun us s1 ⟨vs, H1, I1, r, l1, l2, q⟩ => ⟨I1.kIn, ?_⟩
  exact run_g (ws := []) (zs := []) (ks := []) OK hr hgd B hx I1 r .nil l1 l2 q
theorem pe_f0 (F : Pr g X.prog X.w X.K X.mg X.base k f d ps sp) (hr : Room k X.A) (hgd : Gd g X.A) (hg : Gl X x) (hm : X.mg x = some (.ref f)) (hb : Bd d ps n [] gV) (hx : Passes (L2.CX X.prog X.w) X E)
    (hdb : (x == ("__debug__" : Str)) = false := by decide) : PE X (.Call (.Name x p) [] [] pos) (zCall X.K n 0 gV sp E tNil tNil) := by
  obtain ⟨fd, FD, OK⟩ := F.ex
  obtain ⟨gg, B⟩ := hb _ _ _ FD
  refine ⟨fun pins s σ H Q I ⟨l1, l2, q⟩ => ?_⟩
  refine wpAny_Call_Name_kw (ld_glob I hg hm ?_ hdb)
  exact PySem.W.callWith_K0 I.kIn FD.kp (run_g (us := []) (vs := []) (ws := []) (zs := []) (ks := []) OK hr hgd B hx I .nil .nil l1 l2 q)

/-- a method of the class at C: the promise of the def behind the name m -/
structure Mt (g : Prop) (X : Cx) (C : Addr) (m : Str) (n : Nat) (ks : List Str) (gV : PySem.W.Frag → List V → List V → List V) (sp : Sp) : Prop where
  cl : Cls X.K C
  ex : ∃ (k : Nat) (f : Addr) (d : He.DefD) (ps : List Str), Meth X.K C m f ∧ Pr g X.prog X.w X.K X.mg X.base k f d ps sp ∧ Bd d ps n ks gV ∧ Room k X.A ∧ Gd g X.A
/-- o.m(..): the object's class is looked up in the heap, and its method's promise is asked -/
def zMeth (X : Cx) (m : Str) (ks : List Str) (E : XK) (ta : TE) (t tk : TA) : TE := fun σ H Q => ta σ H fun x H1 =>
  ∃ (g : Prop) (a C dx : Addr) (fs : List (Str × V)) (n : Nat) (gV : PySem.W.Frag → List V → List V → List V) (sp : Sp), x = .ref a ∧ H1 a = some (.ins C dx fs) ∧ fs.lookup m = none ∧ Mt g X C m n ks gV sp ∧
    t σ H1 fun vs H2 => tk σ H2 fun zs H3 => (V.ref a :: vs).length = n ∧ zs.length = ks.length ∧ sp (gV X.K (.ref a :: vs) zs) H3 Q E
theorem pe_m {pl : Sem Bool} (hx : Passes (L2.CX X.prog X.w) X E) (he : PE X o ta) (ha : PA X (e :: es) t)
    (hst : starEach (e :: es) X.env = (false, eval e X.env) :: starEach es X.env := by rfl) (hpl : (backTo pos (starEach es X.env)).any (·.1) = false := by rfl)
    (ht : eval (.Call (.Attribute o m apos) (e :: es) [] pos) X.env = (do
      let ov ← eval o X.env; standAt apos.atName
      let (f, first) ← holding [ov] (getMethod ov m pl); callWith pos f first (backTo pos (starEach (e :: es) X.env)) (backToKw pos (keywordEach [] X.env))) := by rfl) :
    PE X (.Call (.Attribute o m apos) (e :: es) [] pos) (zMeth X m [] E ta t tNil) := by
  refine ⟨fun pins s σ H Q I h => ?_⟩
  refine PySem.W.methodCall_KW (pl := pl) (thn (he.run pins s σ H _ I h) fun u s1 ⟨x, H1, I1, rx, g, a, C, dx, fs, n, gV, sp, ex, ea, l, M, q⟩ => ?_) ht
  subst ex
  obtain rfl : u = Value.ref a := rx
  obtain ⟨k, f, d, ps, hm, F, hb, hr, hgd⟩ := M.ex
  obtain ⟨fd, FD, OK⟩ := F.ex
  obtain ⟨gg, B⟩ := hb _ _ _ FD
  refine getmeth_ok I1 ea M.cl hm l ?_
  refine PySem.W.callWith_K (first := [.ref a]) (h₀ := X.base) I.ok.mod.kin hm.kp ?_ hst hpl
  refine thn (ha.run pos pins s1 σ H1 _ I1 q) fun us s2 ⟨vs, H2, I2, r, l1, l2, q2⟩ => ⟨I2.kIn, ?_⟩
  exact run_g (us := .ref a :: us) (vs := .ref a :: vs) (ws := []) (zs := []) (ks := []) OK hr hgd B hx I2 (.cons rfl r) .nil l1 l2 q2
theorem pe_m0 {pl : Sem Bool} (hx : Passes (L2.CX X.prog X.w) X E) (he : PE X o ta)
    (ht : eval (.Call (.Attribute o m apos) [] [] pos) X.env = (do
      let ov ← eval o X.env; standAt apos.atName
      let (f, first) ← holding [ov] (getMethod ov m pl); callWith pos f first (backTo pos (starEach [] X.env)) (backToKw pos (keywordEach [] X.env))) := by rfl) :
    PE X (.Call (.Attribute o m apos) [] [] pos) (zMeth X m [] E ta tNil tNil) := by
  refine ⟨fun pins s σ H Q I h => ?_⟩
  refine PySem.W.methodCall_KW (pl := pl) (thn (he.run pins s σ H _ I h) fun u s1 ⟨x, H1, I1, rx, g, a, C, dx, fs, n, gV, sp, ex, ea, l, M, l1, l2, q⟩ => ?_) ht
  subst ex
  obtain rfl : u = Value.ref a := rx
  obtain ⟨k, f, d, ps, hm, F, hb, hr, hgd⟩ := M.ex
  obtain ⟨fd, FD, OK⟩ := F.ex
  obtain ⟨gg, B⟩ := hb _ _ _ FD
  refine getmeth_ok I1 ea M.cl hm l ?_
  exact PySem.W.callWith_K0 (first := [.ref a]) I1.kIn hm.kp (run_g (us := [.ref a]) (vs := [.ref a]) (ws := []) (zs := []) (ks := []) OK hr hgd B hx I1 (.cons rfl .nil) .nil l1 l2 q)
theorem pe_mk {pl : Sem Bool} (hx : Passes (L2.CX X.prog X.w) X E) (he : PE X o ta) (ha : PA X (e :: es) t) (hkw : PK X kws tk)
    (hall : (backToKw pos (keywordEach kws X.env)).all (·.1.isSome) = true := by rfl) (hks : (backToKw pos (keywordEach kws X.env)).filterMap (·.1) = ks := by rfl)
    (hst : starEach (e :: es) X.env = (false, eval e X.env) :: starEach es X.env := by rfl)
    (hpl : ((backTo pos (starEach (e :: es) X.env)).any (·.1) || (backToKw pos (keywordEach kws X.env)).any (·.1.isNone)) = false := by rfl)
    (ht : eval (.Call (.Attribute o m apos) (e :: es) kws pos) X.env = (do
      let ov ← eval o X.env; standAt apos.atName
      let (f, first) ← holding [ov] (getMethod ov m pl); callWith pos f first (backTo pos (starEach (e :: es) X.env)) (backToKw pos (keywordEach kws X.env))) := by rfl) :
    PE X (.Call (.Attribute o m apos) (e :: es) kws pos) (zMeth X m ks E ta t tk) := by
  refine ⟨fun pins s σ H Q I h => ?_⟩
  refine PySem.W.methodCall_KW (pl := pl) (thn (he.run pins s σ H _ I h) fun u s1 ⟨x, H1, I1, rx, g, a, C, dx, fs, n, gV, sp, ex, ea, l, M, q⟩ => ?_) ht
  subst ex
  obtain rfl : u = Value.ref a := rx
  obtain ⟨k, f, d, ps, hm, F, hb, hr, hgd⟩ := M.ex
  obtain ⟨fd, FD, OK⟩ := F.ex
  obtain ⟨gg, B⟩ := hb _ _ _ FD
  refine getmeth_ok I1 ea M.cl hm l ?_
  refine PySem.W.callWith_KW (first := [.ref a]) (h₀ := X.base) I.ok.mod.kin hm.kp hall ?_ hpl hst
  refine thn (ha.run pos pins s1 σ H1 _ I1 q) fun us s2 ⟨vs, H2, I2, r, q2⟩ => ?_
  refine thn (hkw.run pos pins s2 σ H2 _ I2 q2) fun ws s3 ⟨zs, H3, I3, rz, l1, l2, q3⟩ => ⟨I3.kIn, ?_⟩
  rw [hks]
  exact run_g (us := .ref a :: us) (vs := .ref a :: vs) OK hr hgd B hx I3 (.cons rfl r) rz l1 l2 q3
theorem pe_mk0 {pl : Sem Bool} (hx : Passes (L2.CX X.prog X.w) X E) (he : PE X o ta) (hkw : PK X kws tk)
    (hall : (backToKw pos (keywordEach kws X.env)).all (·.1.isSome) = true := by rfl) (hks : (backToKw pos (keywordEach kws X.env)).filterMap (·.1) = ks := by rfl)
    (hpl : ((backTo pos (starEach [] X.env)).any (·.1) || (backToKw pos (keywordEach kws X.env)).any (·.1.isNone)) = false := by rfl)
    (ht : eval (.Call (.Attribute o m apos) [] kws pos) X.env = (do
      let ov ← eval o X.env; standAt apos.atName
      let (f, first) ← holding [ov] (getMethod ov m pl); callWith pos f first (backTo pos (starEach [] X.env)) (backToKw pos (keywordEach kws X.env))) := by rfl) :
    PE X (.Call (.Attribute o m apos) [] kws pos) (zMeth X m ks E ta tNil tk) := by
  refine ⟨fun pins s σ H Q I h => ?_⟩
  refine PySem.W.methodCall_KW (pl := pl) (thn (he.run pins s σ H _ I h) fun u s1 ⟨x, H1, I1, rx, g, a, C, dx, fs, n, gV, sp, ex, ea, l, M, q⟩ => ?_) ht
  subst ex
  obtain rfl : u = Value.ref a := rx
  obtain ⟨k, f, d, ps, hm, F, hb, hr, hgd⟩ := M.ex
  obtain ⟨fd, FD, OK⟩ := F.ex
  obtain ⟨gg, B⟩ := hb _ _ _ FD
  refine getmeth_ok I1 ea M.cl hm l ?_
  refine PySem.W.callWith_KW0 (first := [.ref a]) (h₀ := X.base) I.ok.mod.kin hm.kp hall ?_ hpl
  refine thn (hkw.run pos pins s1 σ H1 _ I1 q) fun ws s3 ⟨zs, H3, I3, rz, l1, l2, q3⟩ => ⟨I3.kIn, ?_⟩
  rw [hks]
  exact run_g (us := [.ref a]) (vs := [.ref a]) OK hr hgd B hx I3 (.cons rfl .nil) rz l1 l2 q3

/-- C(..): a new instance and its dict, then __init__ (n counts the instance) -/
def zMake (K : PySem.W.Frag) (C : Addr) (n m : Nat) (gV : PySem.W.Frag → List V → List V → List V) (sp : Sp) (E : XK) (t tk : TA) : TE := fun σ H Q =>
  t σ H fun vs H1 => tk σ H1 fun zs H2 => vs.length + 1 = n ∧ zs.length = m ∧ ∀ x dx, H2 x = none → H2 dx = none → dx ≠ x →
    sp (gV K (.ref x :: vs) zs) (upd (upd H2 dx (.own x)) x (.ins C dx [])) (fun v H3 => v = .non ∧ Q (.ref x) H3) E
theorem run_mk {fd : FuncData} {gg : List Value → List Value → List Value} {gW : List V → List V → List V} {pins : List (Addr × Obj)} {σ : L2.St} {H : Hp} {s : Shared} {Q : VK} {us ws : List Value} {vs zs : List V}
    (M : L2.Mk X.K C f) (F : FnG g X.prog X.w X.K X.mg X.base k f fd ps sp) (hr : Room (k + 1) X.A) (hgd : Gd g X.A) (hb : KBn X.K fd ps n ks gg gW) (hx : Passes (L2.CX X.prog X.w) X E)
    (I : Inv X pins σ H s) (r : Vals vs us) (rz : Vals zs ws) (l1 : vs.length + 1 = n) (l2 : zs.length = ks.length)
    (h : ∀ x dx, H x = none → H dx = none → dx ≠ x → sp (gW (.ref x :: vs) zs) (upd (upd H dx (.own x)) x (.ins C dx [])) (fun v H2 => v = .non ∧ Q (.ref x) H2) E) :
    wpAny (model X.prog X.w) X.A (call (.ref C) us (ks.zip ws)) (EP X pins σ Q) X.xe s := by
  have q0 := h (s.heap.objs.size + 1) s.heap.objs.size (I.hok.fresh (Nat.le_succ _)) (I.hok.fresh (Nat.le_refl _)) (Nat.ne_of_lt (Nat.lt_succ_self _))
  have J := Inv.made (C := C) I
  have rs : Vals (V.ref (s.heap.objs.size + 1) :: vs) (Value.ref (s.heap.objs.size + 1) :: us) := .cons rfl r
  have ln : (Value.ref (s.heap.objs.size + 1) :: us).length = n := by rw [List.length_cons, ← r.length]; exact l1
  refine wpAny_call (make_map (f := f) I.kIn M.makes M.init (beq_iff_eq.mp M.fn) (codeAny_mono (F.run _ X.stack _ _ ⟨Value.ref (s.heap.objs.size + 1) :: us, ks.zip ws⟩ (gg (Value.ref (s.heap.objs.size + 1) :: us) ws) _ _ E
    (hr.make C us (ks.zip ws)) (hgd.make C us (ks.zip ws)) (J.env0.make C us (ks.zip ws)) (hb.to _ (Value.ref (s.heap.objs.size + 1) :: us) ws J.kIn ln (rz.length.symm.trans l2)) (hb.rel rs rz) q0) fun z s' hq => ?_))
  match z, hq with
  | .error e, hq => exact hx pins σ _ _ e s' J hq
  | .ok (.ret u), hq =>
    obtain ⟨v, H', I3, rv, ev, q3⟩ := J.after hq
    subst ev
    exact ⟨rv, ⟨V.ref (s.heap.objs.size + 1), H', I3, rfl, q3⟩⟩
  | .ok .next, hq => exact False.elim hq
  | .ok .brk, hq => exact False.elim hq
  | .ok .cont, hq => exact False.elim hq
section
variable (M : L2.Mk X.K C f) (F : Pr g X.prog X.w X.K X.mg X.base k f d ps sp) (hr : Room (k + 1) X.A) (hgd : Gd g X.A) (hg : Gl X x) (hm : X.mg x = some (.ref C)) (hx : Passes (L2.CX X.prog X.w) X E)
include M F hr hgd hg hm hx
theorem pe_new (hb : Bd d ps n [] gV) (ha : PA X (e :: es) t) (hdb : (x == ("__debug__" : Str)) = false := by decide) (he : starEach (e :: es) X.env = (false, eval e X.env) :: starEach es X.env := by rfl)
    (hpl : (backTo pos (starEach es X.env)).any (·.1) = false := by rfl) : PE X (.Call (.Name x p) (e :: es) [] pos) (zMake X.K C n 0 gV sp E t tNil) := by
  obtain ⟨fd, FD, OK⟩ := F.ex
  obtain ⟨gg, B⟩ := hb _ _ _ FD
  refine ⟨fun pins s σ H Q I h => ?_⟩
  refine wpAny_Call_Name_kw (ld_glob I hg hm ?_ hdb)
  refine PySem.W.callWith_K (h₀ := X.base) I.ok.mod.kin M.kp ?_ he hpl
  refine thn (ha.run pos pins s σ H _ I h) fun us s1 ⟨vs, H1, I1, r, l1, l2, q⟩ => ⟨I1.kIn, ?_⟩
  exact run_mk (ws := []) (zs := []) (ks := []) M OK hr hgd B hx I1 r .nil l1 l2 q
theorem pe_new0 (hb : Bd d ps n [] gV) (hdb : (x == ("__debug__" : Str)) = false := by decide) : PE X (.Call (.Name x p) [] [] pos) (zMake X.K C n 0 gV sp E tNil tNil) := by
  obtain ⟨fd, FD, OK⟩ := F.ex
  obtain ⟨gg, B⟩ := hb _ _ _ FD
  refine ⟨fun pins s σ H Q I ⟨l1, l2, q⟩ => ?_⟩
  refine wpAny_Call_Name_kw (ld_glob I hg hm ?_ hdb)
  exact PySem.W.callWith_K0 I.kIn M.kp (run_mk (us := []) (vs := []) (ws := []) (zs := []) (ks := []) M OK hr hgd B hx I .nil .nil l1 l2 q)
theorem pe_newk (hb : Bd d ps n ks gV) (ha : PA X (e :: es) t) (hkw : PK X kws tk)
    (hall : (backToKw pos (keywordEach kws X.env)).all (·.1.isSome) = true := by rfl) (hks : (backToKw pos (keywordEach kws X.env)).filterMap (·.1) = ks := by rfl) (hdb : (x == ("__debug__" : Str)) = false := by decide)
    (he : starEach (e :: es) X.env = (false, eval e X.env) :: starEach es X.env := by rfl)
    (hpl : ((backTo pos (starEach (e :: es) X.env)).any (·.1) || (backToKw pos (keywordEach kws X.env)).any (·.1.isNone)) = false := by rfl) :
    PE X (.Call (.Name x p) (e :: es) kws pos) (zMake X.K C n ks.length gV sp E t tk) := by
  obtain ⟨fd, FD, OK⟩ := F.ex
  obtain ⟨gg, B⟩ := hb _ _ _ FD
  refine ⟨fun pins s σ H Q I h => ?_⟩
  refine wpAny_Call_Name_kw (ld_glob I hg hm ?_ hdb)
  refine PySem.W.callWith_KW (h₀ := X.base) I.ok.mod.kin M.kp hall ?_ hpl he
  refine thn (ha.run pos pins s σ H _ I h) fun us s1 ⟨vs, H1, I1, r, q⟩ => ?_
  refine thn (hkw.run pos pins s1 σ H1 _ I1 q) fun ws s2 ⟨zs, H2, I2, rz, l1, l2, q2⟩ => ⟨I2.kIn, ?_⟩
  rw [hks]
  exact run_mk M OK hr hgd B hx I2 r rz l1 l2 q2
theorem pe_newk0 (hb : Bd d ps n ks gV) (hkw : PK X kws tk)
    (hall : (backToKw pos (keywordEach kws X.env)).all (·.1.isSome) = true := by rfl) (hks : (backToKw pos (keywordEach kws X.env)).filterMap (·.1) = ks := by rfl) (hdb : (x == ("__debug__" : Str)) = false := by decide)
    (hpl : ((backTo pos (starEach [] X.env)).any (·.1) || (backToKw pos (keywordEach kws X.env)).any (·.1.isNone)) = false := by rfl) :
    PE X (.Call (.Name x p) [] kws pos) (zMake X.K C n ks.length gV sp E tNil tk) := by
  obtain ⟨fd, FD, OK⟩ := F.ex
  obtain ⟨gg, B⟩ := hb _ _ _ FD
  refine ⟨fun pins s σ H Q I h => ?_⟩
  refine wpAny_Call_Name_kw (ld_glob I hg hm ?_ hdb)
  refine PySem.W.callWith_KW0 (h₀ := X.base) I.ok.mod.kin M.kp hall ?_ hpl
  refine thn (hkw.run pos pins s σ H _ I h) fun ws s2 ⟨zs, H2, I2, rz, l1, l2, q2⟩ => ⟨I2.kIn, ?_⟩
  rw [hks]
  exact run_mk (us := []) (vs := []) M OK hr hgd B hx I2 .nil rz l1 l2 q2
end
end
end Z

/-! Z, part two: statements with their ways out as arguments; operations by values; heaps by names. -/
namespace Z
open PySem PySem.Spec PyProof.Rows L2

/-! ### heaps -/
structure New (H : Hp) (p : Addr) (o : HO) (H' : Hp) : Prop where
  fr : H p = none
  eq : H' = upd H p o
structure Up (H : Hp) (p : Addr) (o : HO) (H' : Hp) : Prop where
  was : ∃ u, H p = some u
  eq : H' = upd H p o
/-- all but a stands -/
structure But (a : Addr) (H H' : Hp) : Prop where
  all : ∀ b u, b ≠ a → H b = some u → H' b = some u
section
variable {H H' H1 H2 : Hp} {a b p : Addr} {o u : HO}
theorem New.at (n : New H p o H') : H' p = some o := by rw [n.eq]; exact upd_same
theorem New.get (n : New H p o H') (h : H a = some u) : H' a = some u := by rw [n.eq, upd_ne (ne_of_none h n.fr)]; exact h
theorem New.same (n : New H p o H') : Same H H' := fun _ _ h => n.get h
theorem New.ne (n : New H p o H') (h : H a = some u) : a ≠ p := ne_of_none h n.fr
theorem New.ne' (n : New H p o H') (h : H a = some u) : p ≠ a := (ne_of_none h n.fr).symm
theorem Up.at (n : Up H p o H') : H' p = some o := by rw [n.eq]; exact upd_same
theorem Up.get (n : Up H p o H') (ne : a ≠ p) (h : H a = some u) : H' a = some u := by rw [n.eq, upd_ne ne]; exact h
theorem Up.but (n : Up H p o H') : But p H H' := ⟨fun _ _ ne h => n.get ne h⟩
theorem same_get (s : Same H H') (h : H a = some u) : H' a = some u := s a u h
theorem But.get (n : But p H H') (ne : a ≠ p) (h : H a = some u) : H' a = some u := n.all a u ne h
theorem But.refl : But p H H := ⟨fun _ _ _ h => h⟩
theorem But.trans (x : But p H H1) (y : But p H1 H2) : But p H H2 := ⟨fun b u ne h => y.get ne (x.get ne h)⟩
theorem But.ofSame (x : Same H H1) : But p H H1 := ⟨fun b u _ h => x b u h⟩
/-- p is new: what is done to it doesn't matter to what stood -/
theorem But.back (x : But p H H1) (f : H p = none) : Same H H1 := fun b u h => x.get (ne_of_none h f) h
theorem Same.thenBut (x : Same H H1) (y : But p H1 H2) (f : H p = none) : Same H H2 := fun b u h => y.get (ne_of_none h f) (x b u h)
theorem Same.up (x : Same H H1) (y : Up H1 p o H2) (f : H p = none) : Same H H2 := Same.thenBut x y.but f
theorem Same.new (x : Same H H1) (y : New H1 p o H2) : Same H H2 := fun b u h => y.get (x b u h)
theorem But.new (x : But a H H1) (y : New H1 p o H2) : But a H H2 := ⟨fun b u ne h => y.get (x.get ne h)⟩
theorem But.up (x : But a H H1) (y : Up H1 a o H2) : But a H H2 := x.trans y.but
theorem But.upNew (x : But a H H1) (y : Up H1 p o H2) (f : H p = none) : But a H H2 := ⟨fun b u ne h => y.get (ne_of_none h f) (x.get ne h)⟩
theorem But.same (x : But a H H1) (y : Same H1 H2) : But a H H2 := x.trans (.ofSame y)
theorem free_back (s : Same H H') (h : H' p = none) : H p = none := Same.free s h
theorem But.free (s : But a H H') (h : H' p = none) (ne : p ≠ a) : H p = none := by
  cases e : H p with
  | none => rfl
  | some u => rw [s.get ne e] at h; cases h
end
section
variable {H H1 H2 : Hp} {a p : Addr} {o : HO}
theorem fr_new (y : New H1 p o H2) (x : Same H H1) : Same H H2 := Same.new x y
theorem fr_same (y : Same H1 H2) (x : Same H H1) : Same H H2 := x.trans y
theorem fr_up (y : Up H1 p o H2) (x : Same H H1) (f : H p = none) : Same H H2 := Same.up x y f
theorem fr_but (y : But p H1 H2) (x : Same H H1) (f : H p = none) : Same H H2 := Same.thenBut x y f
theorem fb_new (y : New H1 p o H2) (x : But a H H1) : But a H H2 := x.new y
theorem fb_same (y : Same H1 H2) (x : But a H H1) : But a H H2 := x.same y
theorem fb_but (y : But a H1 H2) (x : But a H H1) : But a H H2 := x.trans y
theorem fb_up (y : Up H1 a o H2) (x : But a H H1) : But a H H2 := x.up y
theorem fb_upn (y : Up H1 p o H2) (x : But a H H1) (f : H p = none) : But a H H2 := x.upNew y f
theorem fb_butn (y : But p H1 H2) (x : But a H H1) (f : H p = none) : But a H H2 := ⟨fun b u ne h => y.get (ne_of_none h f) (x.get ne h)⟩
theorem fresh_by (n : New H1 p o H2) (s : Same H H1) : H p = none := free_back s n.fr
theorem fresh_at (n : H1 p = none) (s : Same H H1) : H p = none := free_back s n
theorem fresh_but (n : New H1 p o H2) (s : But a H H1) (ne : p ≠ a) : H p = none := s.free n.fr ne
end
theorem ne_fr {H : Hp} {a b : Addr} {u : HO} (f : H b = none) (h : H a = some u) : a ≠ b := ne_of_none h f
theorem ne_fr' {H : Hp} {a b : Addr} {u : HO} (f : H b = none) (h : H a = some u) : b ≠ a := (ne_of_none h f).symm
theorem sq_same {K : PySem.W.Frag} {H H' : Hp} {a : Addr} {xs : List V} (s : Same H H') (h : SqL K H a xs) : SqL K H' a xs := s.seq h
theorem sq_new {K : PySem.W.Frag} {H H' : Hp} {a p : Addr} {o : HO} {xs : List V} (n : New H p o H') (h : SqL K H a xs) : SqL K H' a xs := Same.seq n.same h
theorem i_wipe {σ σ2 : L2.St} {vs : List Nat} {G : Prop} (e : wipe σ2 vs = wipe σ vs) (h : G) : wipe σ2 vs = wipe σ vs ∧ G := ⟨e, h⟩
theorem in_new {G : V → Hp → Prop} {H : Hp} {o : HO} (h : ∀ p H', New H p o H' → G (.ref p) H') : ∀ p, H p = none → G (.ref p) (upd H p o) := fun p f => h p _ ⟨f, rfl⟩
theorem in_newA {G : Addr → Hp → Prop} {H : Hp} {o : HO} (h : ∀ p H', New H p o H' → G p H') : ∀ p, H p = none → G p (upd H p o) := fun p f => h p _ ⟨f, rfl⟩
theorem in_up {G : Hp → Prop} {H : Hp} {p : Addr} {o u : HO} (w : H p = some u) (h : ∀ H', Up H p o H' → G H') : G (upd H p o) := h _ ⟨⟨u, w⟩, rfl⟩

/-! ### statements: nx, what a return wants, break, continue, slots, heap -/
abbrev TZ := (L2.St → Hp → Prop) → VK → (L2.St → Hp → Prop) → (L2.St → Hp → Prop) → L2.St → Hp → Prop
def zS (t : TZ) : TS := fun D => t D.nx D.rt D.bk D.ct
section
variable {X : Cx} {st : Stmt} {rest : List Stmt} {t u : TZ} {pos : Pos} {e : Expr} {te : TE}
def zNext : TZ := fun nx _ _ _ σ H => nx σ H
def zSeq (t u : TZ) : TZ := fun nx rt bk ct σ H => t (fun σ H => u nx rt bk ct σ H) rt bk ct σ H
def zDrop (te : TE) : TZ := fun nx _ _ _ σ H => te σ H fun _ H1 => nx σ H1
def zRet (te : TE) : TZ := fun _ rt _ _ σ H => te σ H rt
def zRetN : TZ := fun _ rt _ _ _ H => rt .non H
def zBreak : TZ := fun _ _ bk _ σ H => bk σ H
def zCont : TZ := fun _ _ _ ct σ H => ct σ H
def zIf (c : TT) (t u : TZ) : TZ := fun nx rt bk ct σ H => c σ H fun b H1 => if b = true then t nx rt bk ct σ H1 else u nx rt bk ct σ H1
def zAsg (te : TE) (g : TG) : TZ := fun nx _ _ _ σ H => te σ H fun x H1 => g x σ H1 nx
def zAug (i : Nat) (te : TE) (ti : TIp) : TZ := fun nx _ _ _ σ H => ∃ x, σ[i]? = some (some x) ∧ te σ H fun y H1 => ti x y H1 fun z H2 => nx (σ.set i (some z)) H2
def zPar (i j : Nat) (ta : TA) : TZ := fun nx _ _ _ σ H => ta σ H fun vs H1 => ∃ v w, vs = [v, w] ∧ nx ((σ.set i (some v)).set j (some w)) H1
def zPar3 (i j l : Nat) (ta : TA) : TZ := fun nx _ _ _ σ H => ta σ H fun vs H1 => ∃ u v w, vs = [u, v, w] ∧ nx (((σ.set i (some u)).set j (some v)).set l (some w)) H1
def zFld (K : PySem.W.Frag) (ta tv : TE) (f : Str) : TZ := fun nx rt bk ct σ H => sFld K ta tv f ⟨nx, rt, bk, ct⟩ σ H
def zAugS (to ti te : TE) (tget : V → V → Hp → VK → Prop) (tip : TIp) (tset : TSet) : TZ := fun nx _ _ _ σ H =>
  to σ H fun o H1 => ti σ H1 fun i H2 => tget o i H2 fun x H3 => te σ H3 fun y H4 => tip x y H4 fun z H5 => tset o i z H5 fun H6 => nx σ H6
def zFldAug (K : PySem.W.Frag) (ta tv : TE) (rd : V → V → Hp → VK → Prop) (f : Str) : TZ := fun nx rt bk ct σ H => sFldAug K ta tv rd f ⟨nx, rt, bk, ct⟩ σ H
def zNever : TZ := fun _ _ _ _ _ _ => False
/-- a loop behind its iterator -/
def zLoop (J : It) (g : TG) (tb : TZ) (nx : L2.St → Hp → Prop) (rt : VK) (σ : L2.St) (H1 : Hp) : Prop :=
  ∃ W : Nat → Nat → L2.St → Hp → Prop, (∃ m, W 0 m σ H1) ∧ ∀ i m σ H, W i m σ H → (J.stop i H ∧ nx σ H) ∨ (J.go i H ∧ ∃ N : L2.St → Hp → Prop, (∀ σ' H', N σ' H' → ∃ m', m' < m ∧ W (i + 1) m' σ' H') ∧
    ∀ x H', J.yld i H x H' → g x σ H' fun σ2 H2 => tb N rt nx N σ2 H2)
def zFor (wi : TI) (g : TG) (tb : TZ) : TZ := fun nx rt _ _ σ H => wi σ H fun J H1 => zLoop J g tb nx rt σ H1
/-- a while's body, from a state with so great a measure -/
def zBody (W : Nat → L2.St → Hp → Prop) (m : Nat) (tb : TZ) (nx : L2.St → Hp → Prop) (rt : VK) (σ : L2.St) (H : Hp) : Prop :=
  ∃ N : L2.St → Hp → Prop, (∀ σ' H', N σ' H' → ∃ m', m' < m ∧ W m' σ' H') ∧ tb N rt nx N σ H
def zWhile (c : TT) (tb : TZ) : TZ := fun nx rt _ _ σ H => ∃ W : Nat → L2.St → Hp → Prop, (∃ m, W m σ H) ∧ ∀ m σ H, W m σ H →
  c σ H fun b H1 => if b = true then zBody W m tb nx rt σ H1 else nx σ H1

theorem zs_nil : PSs X [] (zS zNext) := pss_nil
theorem zs_cons (h1 : PS X st (zS t)) (h2 : PSs X rest (zS u)) : PSs X (st :: rest) (zS (zSeq t u)) := pss_cons h1 h2
theorem zs_one (h : PS X st (zS t)) : PSs X [st] (zS t) := pss_one h
theorem z_expr (he : PE X e te) (hs : swapsWith e none pos.line X.env = pure false := by rfl) : PS X (.Expr e pos) (zS (zDrop te)) := ps_expr he hs
theorem z_ret (he : PE X e te) : PS X (.Return (some e) pos) (zS (zRet te)) := ps_ret he
theorem z_retN : PS X (.Return none pos) (zS zRetN) := ps_retN
theorem z_pass : PS X (.Pass pos) (zS zNext) := ps_pass
theorem z_break : PS X (.Break pos) (zS zBreak) := ps_break
theorem z_continue : PS X (.Continue pos) (zS zCont) := ps_continue
theorem z_never : PS X st (zS zNever) := ps_never
theorem z_if {c : Expr} {a b : List Stmt} {tc : TT} (hc : PT X c tc) (ha : PSs X a (zS t)) (hb : PSs X b (zS u)) : PS X (.If c a b pos) (zS (zIf tc t u)) := ps_if hc ha hb
theorem z_asg {tg : Expr} {g : TG} (he : PE X e te) (hg : PG X tg g) (hs : swapsWithSole [tg] e pos.line X.env = pure false := by rfl) (hw : swappedStores [tg] e X.env = pure none := by rfl)
    (h1 : (assignEach [tg] X.env).map (·.2) = [assign tg X.env] := by rfl) : PS X (.Assign [tg] e pos) (zS (zAsg te g)) := ps_asg he hg hs hw h1
theorem z_set {i : Nat} {x : Str} {pos' : Pos} (hN : X.N.Nodup) (hi : X.N[i]? = some x) (hx : Loc X.env.scope x) (he : PE X e te) (hs : swapsWith e (some (.Name x pos')) pos.line X.env = pure false := by rfl)
    (hf : X.fn x = true ∨ X.env.scope.names.lookup x = some .local := by first | exact .inl rfl | exact .inr rfl | assumption) : PS X (.Assign [.Name x pos'] e pos) (zS (zAsg te (gName i))) := ps_set hN hi hx he hs hf
theorem z_aug {i : Nat} {x : Str} {op : Operator} {ti : TIp} {pos' : Pos} (hN : X.N.Nodup) (hi : X.N[i]? = some x) (hx : Loc X.env.scope x) (he : PE X e te) (ho : PIp X op ti)
    (hf : X.fn x = true ∨ X.env.scope.names.lookup x = some .local := by first | exact .inl rfl | exact .inr rfl | assumption) : PS X (.AugAssign (.Name x pos') op e pos) (zS (zAug i te ti)) := ps_aug hN hi hx he ho hf
theorem z_augS {o i : Expr} {to ti : TE} {tget : V → V → Hp → VK → Prop} {tip : TIp} {tset : TSet} {op : Operator} {tpos : Pos} (ho : PE X o to) (hi : PE X i ti) (hg : PGet X tget) (he : PE X e te) (hp : PIp X op tip) (hs : PSet X tset)
    (ha : ∀ ov iv new, augStore i ov iv new = (do holding [new, ov, iv] (setItem ov iv new); release [new, ov, iv] []; pure .next) := by intros; rfl) : PS X (.AugAssign (.Subscript o i tpos) op e pos) (zS (zAugS to ti te tget tip tset)) := ps_augS ho hi hg he hp hs ha
theorem z_fld {o : Expr} {ta : TE} {f : Str} {pos' : Pos} (ha : PE X o ta) (hv : PE X e te) (hs : swapsWith e (some (.Attribute o f pos')) pos.line X.env = pure false := by rfl) :
    PS X (.Assign [.Attribute o f pos'] e pos) (zS (zFld X.K ta te f)) := ps_fld ha hv hs
theorem z_fldaug {o : Expr} {ta : TE} {f : Str} {op : Operator} {rd : V → V → Hp → VK → Prop} {tpos : Pos} (ha : PE X o ta) (hv : PE X e te) (hop : InOp X op rd) : PS X (.AugAssign (.Attribute o f tpos) op e pos) (zS (zFldAug X.K ta te rd f)) := ps_fldaug ha hv hop
theorem z_par {i j : Nat} {x y : Str} {a b : Expr} {ta : TA} {px py pt : Pos} {kt k2 pt2} (hc : X.calm = true) (hN : X.N.Nodup) (hi : X.N[i]? = some x) (hj : X.N[j]? = some y) (hij : i ≠ j)
    (hx : X.env.scope.names.lookup x = some .local) (hy : X.env.scope.names.lookup y = some .local) (ha : PA X [a, b] ta)
    (hp : swappedStores [.Tuple [.Name x px, .Name y py] kt pt] (.Tuple [a, b] k2 pt2) X.env = pure (some [x, y])) :
    PS X (.Assign [.Tuple [.Name x px, .Name y py] kt pt] (.Tuple [a, b] k2 pt2) pos) (zS (zPar i j ta)) := ps_par hc hN hi hj hij hx hy ha hp
theorem z_par3 {i j l : Nat} {x y z : Str} {a b c : Expr} {ta : TA} {px py pz pt : Pos} {kt k2 pt2} (hc : X.calm = true) (hN : X.N.Nodup) (hi : X.N[i]? = some x) (hj : X.N[j]? = some y) (hl : X.N[l]? = some z)
    (h1 : i ≠ j) (h2 : i ≠ l) (h3 : j ≠ l) (hx : X.env.scope.names.lookup x = some .local) (hy : X.env.scope.names.lookup y = some .local) (hz : X.env.scope.names.lookup z = some .local) (ha : PA X [a, b, c] ta)
    (hp : swappedStores [.Tuple [.Name x px, .Name y py, .Name z pz] kt pt] (.Tuple [a, b, c] k2 pt2) X.env = pure (some [x, y, z])) :
    PS X (.Assign [.Tuple [.Name x px, .Name y py, .Name z pz] kt pt] (.Tuple [a, b, c] k2 pt2) pos) (zS (zPar3 i j l ta)) := ps_par3 hc hN hi hj hl h1 h2 h3 hx hy hz ha hp
theorem z_setLc {i : Nat} {y : Str} {py : Pos} {elt tg iter : Expr} {ifs : List Expr} {scope : Scope} {own : List (Str × Nat)} {spos : Pos} {wi : TI} {g : TG} {tt : TT} (hc : X.calm = true) (hN : X.N.Nodup) (hy : X.N[i]? = some y) (hyl : X.env.scope.names.lookup y = some .local)
    (hsw : swapsWith (.ListComp elt [⟨tg, iter, ifs, 0⟩] scope pos) (some (.Name y py)) spos.line X.env = pure true) (hi : PI X tg iter wi) (ok : BlkOk X.N X.env.scope scope own)
    (hg : ∀ (s : Shared) (H : Hp) (C : Addr) (cl : List (Str × Addr)) (fp : List Addr), PG (X.blk s H scope (compEnvC scope cl C X.env) fp) tg g)
    (ht : ∀ (s : Shared) (H : Hp) (C : Addr) (cl : List (Str × Addr)) (fp : List Addr), PTs (X.blk s H scope (compEnvC scope cl C X.env) fp) ifs tt)
    (he : ∀ (s : Shared) (H : Hp) (C : Addr) (cl : List (Str × Addr)) (fp : List Addr), PE (X.blk s H scope (compEnvC scope cl C X.env) fp) elt te) (hs : ∀ x, foldedSetIterable iter X.env x = pure x := by intro _; rfl) :
    PS X (.Assign [.Name y py] (.ListComp elt [⟨tg, iter, ifs, 0⟩] scope pos) spos) (zS (zAsg (tLc wi g tt te (own.map (·.2))) (gName i))) := ps_setLc hc hN hy hyl hsw hi ok hg ht he hs
theorem z_for {tg iter : Expr} {body : List Stmt} {wi : TI} {g : TG} {tb : TZ} (hp : PassesOwn (model X.prog X.w) X.A X.env X.xe) (hc : X.calm = true) (hi : PI X tg iter wi) (hg : PG X tg g) (hb : PSs X body (zS tb))
    (hs : ∀ x, foldedSetIterable iter X.env x = pure x := by intro _; rfl) : PS X (.For tg iter body [] pos) (zS (zFor wi g tb)) := ps_for hp hc hi hg hb hs
theorem z_while {c : Expr} {body : List Stmt} {tc : TT} {tb : TZ} (hp : PassesOwn (model X.prog X.w) X.A X.env X.xe) (hc : PT X c tc) (hb : PSs X body (zS tb)) : PS X (.While c body [] pos) (zS (zWhile tc tb)) := ps_while hp hc hb
end

/-! ### their readings, from the front -/
section
variable {nx bk ct : L2.St → Hp → Prop} {rt : VK} {σ : L2.St} {H : Hp} {t u : TZ} {te ta tb : TE} {g : TG} {Q : VK} {QA : List V → Hp → Prop} {QB : Bool → Hp → Prop} {x y v : V} {vs : List V} {r : R2} {i j l : Nat} {c d : TT} {tr tk : TA} {K : PySem.W.Frag}
theorem i_next (h : nx σ H) : zNext nx rt bk ct σ H := h
theorem i_seq (h : t (fun σ H => u nx rt bk ct σ H) rt bk ct σ H) : zSeq t u nx rt bk ct σ H := h
theorem i_drop (h : te σ H fun _ H1 => nx σ H1) : zDrop te nx rt bk ct σ H := h
theorem i_ret (h : te σ H rt) : zRet te nx rt bk ct σ H := h
theorem i_retN (h : rt .non H) : zRetN nx rt bk ct σ H := h
theorem i_break (h : bk σ H) : zBreak nx rt bk ct σ H := h
theorem i_cont (h : ct σ H) : zCont nx rt bk ct σ H := h
theorem i_if (h : c σ H fun b H1 => if b = true then t nx rt bk ct σ H1 else u nx rt bk ct σ H1) : zIf c t u nx rt bk ct σ H := h
theorem i_asg (h : te σ H fun x H1 => g x σ H1 nx) : zAsg te g nx rt bk ct σ H := h
theorem i_aug {ti : TIp} (e : σ[i]? = some (some x)) (h : te σ H fun y H1 => ti x y H1 fun z H2 => nx (σ.set i (some z)) H2) : zAug i te ti nx rt bk ct σ H := ⟨x, e, h⟩
theorem i_par (h : tr σ H fun vs H1 => ∃ v w, vs = [v, w] ∧ nx ((σ.set i (some v)).set j (some w)) H1) : zPar i j tr nx rt bk ct σ H := h
theorem i_par3 (h : tr σ H fun vs H1 => ∃ u v w, vs = [u, v, w] ∧ nx (((σ.set i (some u)).set j (some v)).set l (some w)) H1) : zPar3 i j l tr nx rt bk ct σ H := h
theorem i_two {v w : V} {G : V → V → Prop} (h : G v w) : ∃ v' w', [v, w] = [v', w'] ∧ G v' w' := ⟨v, w, rfl, h⟩
theorem i_three {z v w : V} {G : V → V → V → Prop} (h : G z v w) : ∃ z' v' w', [z, v, w] = [z', v', w'] ∧ G z' v' w' := ⟨z, v, w, rfl, h⟩
theorem i_name {Q : L2.St → Hp → Prop} (h : Q (σ.set i (some v)) H) : gName i v σ H Q := h
theorem i_tupT {n : Nat} {a : Addr} {gs : TGs} {Q : L2.St → Hp → Prop} (h : H a = some (.tup vs)) (hn : vs.length = n) (q : gs vs σ H Q) : gTup K n gs (.ref a) σ H Q := ⟨a, vs, rfl, SqT.of h, hn, q⟩
theorem i_gcons {t : TG} {u : TGs} {Q : L2.St → Hp → Prop} (h : t v σ H fun σ' H' => u vs σ' H' Q) : gCons t u (v :: vs) σ H Q := ⟨v, vs, rfl, h⟩
theorem i_gnil {Q : L2.St → Hp → Prop} (h : Q σ H) : gNil [] σ H Q := ⟨rfl, h⟩
theorem i_gsub {to ti : TE} {t : TSet} {Q : L2.St → Hp → Prop} (h : to σ H fun o H1 => ti σ H1 fun i H2 => t o i v H2 fun H3 => Q σ H3) : gSub to ti t v σ H Q := h
theorem i_augS {to ti te : TE} {tget : V → V → Hp → VK → Prop} {tip : TIp} {tset : TSet} (h : to σ H fun o H1 => ti σ H1 fun i H2 => tget o i H2 fun x H3 => te σ H3 fun y H4 => tip x y H4 fun z H5 => tset o i z H5 fun H6 => nx σ H6) :
    zAugS to ti te tget tip tset nx rt bk ct σ H := h
theorem i_for {wi : TI} {tb : TZ} (h : wi σ H fun J H1 => zLoop J g tb nx rt σ H1) : zFor wi g tb nx rt bk ct σ H := h
-- expressions
theorem i_var (e : σ[i]? = some (some v)) (q : Q v H) : tVar i σ H Q := ⟨v, e, q⟩
theorem i_c (q : Q v H) : tC v σ H Q := q
theorem i_op (h : ta σ H fun x H1 => tb σ H1 fun y H2 => r x y H2 Q) : tOp r ta tb σ H Q := h
theorem i_un {r : V → Hp → VK → Prop} (h : ta σ H fun x H1 => r x H1 Q) : tUn r ta σ H Q := h
theorem i_nil (q : QA [] H) : tNil σ H QA := q
theorem i_cons (h : ta σ H fun x H1 => tr σ H1 fun xs H2 => QA (x :: xs) H2) : tCons ta tr σ H QA := h
theorem i_cb {r : List V → Hp → VK → Prop} (h : tr σ H fun vs H1 => r vs H1 Q) : tCB r tr σ H Q := h
theorem i_ifE (h : c σ H fun b H1 => if b = true then ta σ H1 Q else tb σ H1 Q) : tIf c ta tb σ H Q := h
theorem i_ifEJ (k : ∀ z : Int, Q (.int z) H) (h : ∀ Q' : VK, (∀ z : Int, Q' (.int z) H) → c σ H fun b H1 => if b = true then ta σ H1 Q' else tb σ H1 Q') : tIf c ta tb σ H Q := h Q k
theorem i_test (h : te σ H fun x H1 => ∃ k, x = .bl k ∧ QB k H1) : tTest te σ H QB := h
theorem i_b (h : te σ H fun x H1 => ∃ k, x = .bl k ∧ QB k H1) : tB te σ H QB := h
theorem i_and (h : c σ H fun b H1 => if b = true then d σ H1 QB else QB false H1) : tAnd c d σ H QB := h
theorem i_or (h : c σ H fun b H1 => if b = true then QB true H1 else d σ H1 QB) : tOr c d σ H QB := h
theorem i_not (h : c σ H fun b H1 => QB (!b) H1) : tNot c σ H QB := h
theorem i_andV (h : ta σ H fun x H1 => ∃ k, x = .bl k ∧ if k = true then tb σ H1 Q else Q (.bl false) H1) : tAndV ta tb σ H Q := h
theorem i_orV (h : ta σ H fun x H1 => ∃ k, x = .bl k ∧ if k = true then Q (.bl true) H1 else tb σ H1 Q) : tOrV ta tb σ H Q := h
theorem i_blV {b : Bool} {G : Bool → Prop} (q : G b) : ∃ k, V.bl b = .bl k ∧ G k := ⟨b, rfl, q⟩
theorem i_tup (h : tr σ H fun xs H1 => xs.length ≤ sizeLine ∧ ∀ p H', New H1 p (.tup xs) H' → Q (.ref p) H') : tTup tr σ H Q := by
  show tr σ H _
  exact cast (by congr 1; funext xs H1; exact propext ⟨fun h => ⟨h.1, fun p f => h.2 p _ ⟨f, rfl⟩⟩, fun h => ⟨h.1, fun p H' n => n.eq ▸ h.2 p n.fr⟩⟩) h
theorem i_lst (h : tr σ H fun xs H1 => xs.length ≤ sizeLine ∧ ∀ p H', New H1 p (.lst xs) H' → Q (.ref p) H') : tLst tr σ H Q := by
  show tr σ H _
  exact cast (by congr 1; funext xs H1; exact propext ⟨fun h => ⟨h.1, fun p f => h.2 p _ ⟨f, rfl⟩⟩, fun h => ⟨h.1, fun p H' n => n.eq ▸ h.2 p n.fr⟩⟩) h
theorem i_sz {n : Nat} {G : Prop} (hn : n ≤ 1000) (h : G) : n ≤ sizeLine ∧ G := ⟨Nat.le_trans hn (by rw [sizeLine_eq]; decide), h⟩
theorem i_call {n m : Nat} {gV : PySem.W.Frag → List V → List V → List V} {sp : Sp} {E : XK} (h : tr σ H fun vs H1 => tk σ H1 fun zs H2 => vs.length = n ∧ zs.length = m ∧ sp (gV K vs zs) H2 Q E) : zCall K n m gV sp E tr tk σ H Q := h
theorem i_len2 {n m : Nat} {zs : List V} {G : Prop} (e1 : vs.length = n) (e2 : zs.length = m) (h : G) : vs.length = n ∧ zs.length = m ∧ G := ⟨e1, e2, h⟩
end
end Z

/-! Z: tuple * int. -/
namespace Z
open PySem PySem.Spec PyProof.Rows L2
/-! ### tuple * int: one time, no time -/
theorem tuple_mulZ1 (l : Addr) (items : Array Value) (n : Nat) (dd : Option Addr) (sl : Array (Option Value)) (x : Int) (u : Tok) (c0 : (decide (x < -(2 ^ 63)) || decide (x ≥ 2 ^ 63)) = false) (c1 : (items.isEmpty || x == 1) = true) :
    Meets (Builtin.«tuple.__mul__» ⟨[.ref l, .int x u], []⟩) (fun _ R s => s.heap.get? l = some { cls := .type "tuple", dict := dd, data := .seq items n, slots := sl } ∧
      R (.ok (.ret (Value.ref l))) { s with heap := s.heap, toks := s.toks }) :=
  .of_wp fun prog w A R s h => by
    obtain ⟨hp, g, d, tk, os⟩ := s
    obtain ⟨hl, h⟩ := h
    have f1 := AutoSeq1.idx_int
    wp_walk using wpAny_loadPart' hl
    repeat (first
      | (refine wpAny_ite_false (decide_eq_false (by rw [c0]; exact Bool.false_ne_true)) ?_; wp_walk using wpAny_loadPart' hl)
      | (refine wpAny_ite_true (decide_eq_true c1) ?_; wp_walk using wpAny_loadPart' hl))
    exact ⟨_, rfl, h⟩
theorem tuple_mulZ0 (l : Addr) (items : Array Value) (n : Nat) (dd : Option Addr) (sl : Array (Option Value)) (x : Int) (u : Tok) (c0 : (decide (x < -(2 ^ 63)) || decide (x ≥ 2 ^ 63)) = false) (c1 : (items.isEmpty || x == 1) = false) (c2 : (decide (x ≤ 0) || items.isEmpty) = true) :
    Meets (Builtin.«tuple.__mul__» ⟨[.ref l, .int x u], []⟩) (fun _ R s => s.heap.get? l = some { cls := .type "tuple", dict := dd, data := .seq items n, slots := sl } ∧
      R (.ok (.ret (Value.ref s.heap.objs.size))) { s with heap := s.heap.push { cls := Value.type "tuple", data := Data.seq #[] }, toks := s.toks }) :=
  .of_wp fun prog w A R s h => by
    obtain ⟨hp, g, d, tk, os⟩ := s
    obtain ⟨hl, h⟩ := h
    have f1 := AutoSeq1.idx_int
    wp_walk using wpAny_loadPart' hl
    repeat (first
      | (refine wpAny_ite_false (decide_eq_false (by rw [c0]; exact Bool.false_ne_true)) ?_; wp_walk using wpAny_loadPart' hl)
      | (refine wpAny_ite_false (decide_eq_false (by rw [c1]; exact Bool.false_ne_true)) ?_; wp_walk using wpAny_loadPart' hl)
      | (refine wpAny_ite_true (decide_eq_true c2) ?_; wp_walk using wpAny_loadPart' hl))
    exact ⟨_, rfl, h⟩
/-- a tuple that isn't empty, so many times -/
def rRepZ (K : PySem.W.Frag) : R2 := fun x y H Q => ∃ l k xs, x = .ref l ∧ y = .int k ∧ SqT K H l xs ∧ xs ≠ [] ∧ -1000 ≤ k ∧ k ≤ 1000 ∧ xs.length ≤ 1000 ∧ (k = 1 → Q (.ref l) H) ∧ (k ≠ 1 → ∀ p, H p = none → Q (.ref p) (upd H p (.tup (List.replicate k.toNat xs).flatten)))
theorem op_repZ {X : Cx} : OpR X (binaryOp .Mult) (rRepZ X.K) := by
  intro pins s σ H x y v u Q I rx ry h
  obtain ⟨l, k, xs, rfl, rfl, hT, hne, h1, h2, hz, q1, q2⟩ := h
  by_cases hk : 2 ≤ k
  · exact op_repT pins s σ H _ _ v u Q I rx ry ⟨l, k, xs, rfl, rfl, hT, hne, hk, h2, hz, q2 (by omega)⟩
  cases rx
  obtain ⟨t, rfl⟩ := ry
  obtain ⟨its, r, ⟨⟨cls, dd, data, sl⟩, ho, hc, n, hd⟩, hs⟩ := I.tuple hT
  simp only at hc hd
  subst hc hd
  have hle : its.length = xs.length := r.length.symm
  have hn : its ≠ [] := fun e => hne (by
    rw [e] at hle
    exact List.eq_nil_of_length_eq_zero hle.symm)
  have hi : its.toArray.isEmpty = false := by
    cases its with
    | nil => exact absurd rfl hn
    | cons a b => rfl
  have c0 : (decide (k < -(2 ^ 63)) || decide (k ≥ 2 ^ 63)) = false := by
    rw [decide_eq_false (by omega), decide_eq_false (by omega)] <;> rfl
  by_cases e1 : k = 1
  · subst e1
    refine wpAny_binaryOp_repeat_ref (T := "tuple") (U := "int") (by decide) ⟨_, ho, rfl⟩ (fun s' => typeIs_int s' 1 t) noFill_tuple_mul F.fills_int_mul F.slot_int_rmul repeat_tuple F.slot_int_index.lookup
      (call_meets F.slot_int_rmul (typeIs_int s 1 t) F.entry_int_rmul (F.args_int_rmul_2 _ _) (int_rmul_tuple 1 t l its.toArray n dd sl)
        ⟨ho, rfl, ⟨_, ho, rfl⟩, call_meets F.slot_tuple_mul ⟨_, ho, rfl⟩ F.entry_tuple_mul (F.args_tuple_mul_2 _ _) (tuple_mulZ1 l its.toArray n dd sl 1 t c0 (by simp)) ⟨ho, ?_⟩⟩)
    exact ⟨.ref l, H, I, rfl, q1 rfl⟩
  · have c1 : (its.toArray.isEmpty || k == 1) = false := by
      rw [hi, Bool.false_or]
      exact beq_eq_false_iff_ne.mpr e1
    have c2 : (decide (k ≤ 0) || its.toArray.isEmpty) = true := by
      rw [decide_eq_true (by omega), Bool.true_or]
    have e0 : k.toNat = 0 := by omega
    have q := q2 e1
    rw [e0] at q
    refine wpAny_binaryOp_repeat_ref (T := "tuple") (U := "int") (by decide) ⟨_, ho, rfl⟩ (fun s' => typeIs_int s' k t) noFill_tuple_mul F.fills_int_mul F.slot_int_rmul repeat_tuple F.slot_int_index.lookup
      (call_meets F.slot_int_rmul (typeIs_int s k t) F.entry_int_rmul (F.args_int_rmul_2 _ _) (int_rmul_tuple k t l its.toArray n dd sl)
        ⟨ho, rfl, ⟨_, ho, rfl⟩, call_meets F.slot_tuple_mul ⟨_, ho, rfl⟩ F.entry_tuple_mul (F.args_tuple_mul_2 _ _) (tuple_mulZ0 l its.toArray n dd sl k t c0 c1 c2) ⟨ho, ?_⟩⟩)
    refine ⟨.ref s.heap.objs.size, _, I.laid (t' := s.toks) (o := .tup ([] : List V)) (fun b ob q => Heap.get?_push_of_some _ q) (Nat.le_refl _) ?_, rfl, q _ (I.hok.fresh (Nat.le_refl _))⟩
    exact ⟨Nat.zero_le _, [], .nil, IsTup.new _ _⟩
end Z

/-! Z, part three: operations by values, loops, comprehensions. -/
namespace Z
open PySem PySem.Spec PyProof.Rows L2

/-! ### + -/
def rAdd (K : PySem.W.Frag) : R2 := fun x y H Q => (∃ i j, x = .int i ∧ y = .int j ∧ Q (.int (i + j)) H) ∨ (∃ i j, x = .str i ∧ y = .str j ∧ i.length + j.length ≤ sizeLine ∧ Q (.str (i ++ j)) H) ∨ rCat x y H Q ∨ rCatA K x y H Q
theorem opAdd {X : Cx} : OpR X (binaryOp .Add) (rAdd X.K) := op_add.or (op_add_str.or (op_cat.or op_catA))
section
variable {K : PySem.W.Frag} {H : Hp} {Q : VK} {i j : Int} {a b : Str} {p q : Addr} {xs ys : List V} {v : V}
theorem i_addI (h : Q (.int (i + j)) H) : rAdd K (.int i) (.int j) H Q := .inl ⟨i, j, rfl, rfl, h⟩
theorem i_addS (z : a.length + b.length ≤ sizeLine) (h : Q (.str (a ++ b)) H) : rAdd K (.str a) (.str b) H Q := .inr (.inl ⟨a, b, rfl, rfl, z, h⟩)
theorem i_addL (h1 : H p = some (.lst xs)) (h2 : H q = some (.lst ys)) (z : xs.length + ys.length ≤ sizeLine) (h : ∀ r H', New H r (.lst (xs ++ ys)) H' → Q (.ref r) H') : rAdd K (.ref p) (.ref q) H Q :=
  .inr (.inr (.inl ⟨p, q, xs, ys, rfl, rfl, h1, h2, z, fun r f => h r _ ⟨f, rfl⟩⟩))
/-! ### * -/
def rMul (K : PySem.W.Frag) : R2 := fun x y H Q => (∃ i j, x = .int i ∧ y = .int j ∧ CMulX i j ∧ Q (.int (i * j)) H) ∨ (∃ i j, x = .int i ∧ y = .int j ∧ CMul i j ∧ Q (.int (i * j)) H) ∨ rRep x y H Q ∨ rRepZ K x y H Q
theorem opMul {X : Cx} : OpR X (binaryOp .Mult) (rMul X.K) := op_mulX.or (op_mul.or (op_rep.or op_repZ))
theorem i_mulI (c : CMulX i j) (h : Q (.int (i * j)) H) : rMul K (.int i) (.int j) H Q := .inl ⟨i, j, rfl, rfl, c, h⟩
theorem i_mulR (c : -(2 ^ 64) < j ∧ j < 2 ^ 64) (h : Q (.int (i * j)) H) : rMul K (.int i) (.int j) H Q := .inr (.inl ⟨i, j, rfl, rfl, .inr c, h⟩)
theorem i_mulJ (c : -(2 ^ 64) < i ∧ i < 2 ^ 64) (h : Q (.int (i * j)) H) : rMul K (.int i) (.int j) H Q := .inr (.inl ⟨i, j, rfl, rfl, .inl c, h⟩)
theorem i_mulL (h1 : H p = some (.lst xs)) (z1 : -(2 ^ 63) ≤ j) (z2 : j < 2 ^ 63) (z : xs.length * j.toNat ≤ sizeLine) (h : ∀ r H', New H r (.lst (List.replicate j.toNat xs).flatten) H' → Q (.ref r) H') : rMul K (.ref p) (.int j) H Q :=
  .inr <| .inr <| .inl ⟨p, j, xs, rfl, rfl, h1, z1, z2, z, fun r f => h r _ ⟨f, rfl⟩⟩
theorem i_mulT (h1 : H p = some (.tup xs)) (hne : xs ≠ []) (z : -1000 ≤ j ∧ j ≤ 1000) (l : xs.length ≤ 1000) (q1 : j = 1 → Q (.ref p) H) (q2 : j ≠ 1 → ∀ r H', New H r (.tup (List.replicate j.toNat xs).flatten) H' → Q (.ref r) H') : rMul K (.ref p) (.int j) H Q :=
  .inr <| .inr <| .inr ⟨p, j, xs, rfl, rfl, SqT.of h1, hne, z.1, z.2, l, q1, fun e r f => q2 e r _ ⟨f, rfl⟩⟩
/-- (a,) * j: some tuple of so many a -/
theorem i_mulTI {a : V} (h1 : H p = some (.tup [a])) (z : -1000 ≤ j ∧ j ≤ 1000) (q : ∀ r H', Same H H' → H' r = some (.tup (List.replicate j.toNat a)) → Q (.ref r) H') : rMul K (.ref p) (.int j) H Q := by
  refine i_mulT h1 (by simp) z (by simp) (fun e => ?_) fun e r H' n => ?_
  · subst e
    exact q p H (Same.refl _) h1
  · refine q r H' n.same ?_
    rw [n.at]
    congr 2
    induction j.toNat with
    | zero => rfl
    | succ m ih => rw [List.replicate_succ, List.flatten_cons, ih, List.replicate_succ]; rfl
/-! ### other operations on ints -/
theorem i_I {C : Int → Int → Prop} {f : Int → Int → V} (c : C i j) (h : Q (f i j) H) : rI C f (.int i) (.int j) H Q := ⟨i, j, rfl, rfl, c, h⟩
theorem i_I0 {f : Int → Int → V} (h : Q (f i j) H) : rI0 f (.int i) (.int j) H Q := ⟨i, j, rfl, rfl, h⟩
theorem i_U {f : Int → V} (h : Q (f i) H) : rU f (.int i) H Q := ⟨i, rfl, h⟩
theorem i_ipI {f : Int → Int → Int} (h : Q (.int (f i j)) H) : ipI f (.int i) (.int j) H Q := ⟨i, j, rfl, rfl, h⟩
/-! ### == and != -/
def rEqU (K : PySem.W.Frag) : R2 := fun x y H Q => rEq x y H Q ∨ rEqD K x y H Q
def rNeU (K : PySem.W.Frag) : R2 := fun x y H Q => rNe x y H Q ∨ rNeD K x y H Q
theorem opEq {X : Cx} (hu : X.A.units + 64 < cLine) : OpR X (compareOp .Eq) (rEqU X.K) := op_eq.or (op_eqD hu)
theorem opNe {X : Cx} (hu : X.A.units + 64 < cLine) : OpR X (compareOp .NotEq) (rNeU X.K) := op_ne.or (op_neD hu)
theorem i_eqI (h : Q (.bl (decide (i = j))) H) : rEqU K (.int i) (.int j) H Q := .inl ⟨rfl, by rw [show decide (V.int i = V.int j) = decide (i = j) from decide_eq_decide.mpr ⟨fun e => V.int.inj e, fun e => e ▸ rfl⟩]; exact h⟩
theorem i_neI (h : Q (.bl (!decide (i = j))) H) : rNeU K (.int i) (.int j) H Q := .inl ⟨rfl, by rw [show decide (V.int i = V.int j) = decide (i = j) from decide_eq_decide.mpr ⟨fun e => V.int.inj e, fun e => e ▸ rfl⟩]; exact h⟩
theorem i_eqS (h : Q (.bl (decide (a = b))) H) : rEqU K (.str a) (.str b) H Q := .inl ⟨rfl, by rw [show decide (V.str a = V.str b) = decide (a = b) from decide_eq_decide.mpr ⟨fun e => V.str.inj e, fun e => e ▸ rfl⟩]; exact h⟩
theorem i_neS (h : Q (.bl (!decide (a = b))) H) : rNeU K (.str a) (.str b) H Q := .inl ⟨rfl, by rw [show decide (V.str a = V.str b) = decide (a = b) from decide_eq_decide.mpr ⟨fun e => V.str.inj e, fun e => e ▸ rfl⟩]; exact h⟩
/-! deep data -/
/-- ints, texts, truths, none, lists and tuples of such; the model's own == is that of D here -/
inductive D where
  | non | bl (b : Bool) | int (i : Int) | str (x : Str) | lst (l : List D) | tup (l : List D)
mutual
def D.py : D → PyData
  | .non => .none
  | .bl b => .bool b
  | .int i => .int i
  | .str x => .str x
  | .lst l => .list (D.pys l)
  | .tup l => .tuple (D.pys l)
def D.pys : List D → List PyData
  | [] => []
  | d :: l => d.py :: D.pys l
end
end
/-- v is the data d, in the heap H -/
abbrev Is (K : PySem.W.Frag) (H : Hp) (v : V) (d : D) : Prop := Dp K H v d.py
abbrev Iss (K : PySem.W.Frag) (H : Hp) (vs : List V) (ds : List D) : Prop := DpAll K H vs (D.pys ds)
mutual
theorem dp_same {K : PySem.W.Frag} {H H' : Hp} (s : Same H H') : ∀ {v : V} {d : PyData}, Dp K H v d → Dp K H' v d
  | _, _, .non => .non
  | _, _, .bl b => .bl b
  | _, _, .int i => .int i
  | _, _, .str x => .str x
  | _, _, .lst h a => .lst (s.seq h) (dpa_same s a)
  | _, _, .tup h a => .tup (by
      rcases h with (h | ⟨o, h⟩) | h
      · exact .inl (.inl (s _ _ h))
      · exact .inl (.inr ⟨o, s _ _ h⟩)
      · exact .inr h) (dpa_same s a)
theorem dpa_same {K : PySem.W.Frag} {H H' : Hp} (s : Same H H') : ∀ {v : List V} {d : List PyData}, DpAll K H v d → DpAll K H' v d
  | _, _, .nil => .nil
  | _, _, .cons h a => .cons (dp_same s h) (dpa_same s a)
end
section
variable {K : PySem.W.Frag} {H H' : Hp} {Q : VK} {i j : Int} {a b : Str} {p q : Addr} {xs ys : List V} {v x y : V} {d e : PyData} {ds : List PyData}
theorem dp_ints (ns : List Int) : DpAll K H (ns.map V.int) (ns.map PyData.int) := by
  induction ns with
  | nil => exact .nil
  | cons n r ih => exact .cons (.int n) ih
theorem dp_lints {ns : List Int} (h : H p = some (.lst (ns.map V.int))) : Dp K H (.ref p) (.list (ns.map PyData.int)) := .lst (SqL.of h) (dp_ints ns)
theorem dp_lst (h : H p = some (.lst xs)) (hd : DpAll K H xs ds) : Dp K H (.ref p) (.list ds) := .lst (SqL.of h) hd
theorem dp_tup (h : H p = some (.tup xs)) (hd : DpAll K H xs ds) : Dp K H (.ref p) (.tuple ds) := .tup (SqT.of h) hd
theorem i_eqD (h1 : Dp K H x d) (h2 : Dp K H y e) (s1 : SeqAt.shaped d = true) (s2 : SeqAt.shaped e = true) (h : Q (.bl (PyData.eqv d e)) H) : rEqU K x y H Q := .inr ⟨d, e, h1, h2, s1, s2, h⟩
theorem i_neD (h1 : Dp K H x d) (h2 : Dp K H y e) (s1 : SeqAt.shaped d = true) (s2 : SeqAt.shaped e = true) (h : Q (.bl (!PyData.eqv d e)) H) : rNeU K x y H Q := .inr ⟨d, e, h1, h2, s1, s2, h⟩

/-! ### subscripts, slices -/
theorem ixU {X : Cx} : IxR X (rIx X.K) := ix_seq
theorem i_ixL (h : H p = some (.lst xs)) (e : atI xs i = some v) (q : Q v H) : rIx K (.ref p) (.int i) H Q := .inl ⟨p, xs, i, v, rfl, rfl, SqL.of h, e, q⟩
theorem i_ixQ (h : SqL K H p xs) (e : atI xs i = some v) (q : Q v H) : rIx K (.ref p) (.int i) H Q := .inl ⟨p, xs, i, v, rfl, rfl, h, e, q⟩
theorem i_ixT (h : H p = some (.tup xs)) (e : atI xs i = some v) (q : Q v H) : rIx K (.ref p) (.int i) H Q := .inr (.inl ⟨p, xs, i, v, rfl, rfl, SqT.of h, e, q⟩)
theorem i_ixS {c : Nat} (h : a.length ≤ sizeLine) (e : atI a.cps.toList i = some c) (q : Q (.str ⟨#[c]⟩) H) : rIx K (.str a) (.int i) H Q := .inr (.inr ⟨a, i, c, rfl, rfl, h, e, q⟩)
def rGetL (K : PySem.W.Frag) : V → V → Hp → VK → Prop := fun x y H Q => ∃ p xs i v, x = .ref p ∧ y = .int i ∧ SqL K H p xs ∧ 0 ≤ i ∧ i < 2 ^ 62 ∧ xs[i.toNat]? = some v ∧ Q v H
theorem getL {X : Cx} : PGet X (rGetL X.K) := by
  intro pins s σ H o i ov iv Q I r1 r2 h
  obtain ⟨p, xs, k, v, rfl, rfl, hq, h0, h1, e, q⟩ := h
  cases r1
  obtain ⟨t, rfl⟩ := r2
  obtain ⟨its, r, pl, hz⟩ := I.list hq
  obtain ⟨u, eu, ru⟩ := r.get e
  exact wpAny_getItem_list pl.isList h0 (by omega) (by simpa using eu) ⟨v, H, I, ru, q⟩
theorem i_getL (h : H p = some (.lst xs)) (h0 : 0 ≤ i) (h1 : i < 2 ^ 62) (e : xs[i.toNat]? = some v) (q : Q v H) : rGetL K (.ref p) (.int i) H Q := ⟨p, xs, i, v, rfl, rfl, SqL.of h, h0, h1, e, q⟩
def rSlU (K : PySem.W.Frag) : V → Option Int → Option Int → Hp → VK → Prop := fun x lo hi H Q => rSlL K x lo hi H Q ∨ rSlA K x lo hi H Q
theorem slU {X : Cx} : SlR X (rSlU X.K) := sl_list.or sl_tupA
theorem i_slL {lo hi : Option Int} (h : H p = some (.lst xs)) (k : ∀ r H', New H r (.lst (cutV xs lo hi)) H' → Q (.ref r) H') : rSlU K (.ref p) lo hi H Q := .inl ⟨p, xs, rfl, SqL.of h, fun r f => k r _ ⟨f, rfl⟩⟩
theorem i_slQ {lo hi : Option Int} (h : SqL K H p xs) (k : ∀ r H', New H r (.lst (cutV xs lo hi)) H' → Q (.ref r) H') : rSlU K (.ref p) lo hi H Q := .inl ⟨p, xs, rfl, h, fun r f => k r _ ⟨f, rfl⟩⟩
theorem i_sl {r : V → Option Int → Option Int → Hp → VK → Prop} {te : TE} {tl th : TO} {σ : L2.St} (h : te σ H fun x H1 => tl σ H1 fun l H2 => th σ H2 fun u H3 => r x l u H3 Q) : tSl r te tl th σ H Q := h
theorem i_nopart {σ : L2.St} {QO : Option Int → Hp → Prop} (h : QO none H) : tNoPart σ H QO := h
theorem i_part {te : TE} {σ : L2.St} {QO : Option Int → Hp → Prop} (h : te σ H fun x H1 => ∃ i, x = .int i ∧ QO (some i) H1) : tPart te σ H QO := h
theorem i_partI {G : Int → Prop} (h : G i) : ∃ k, V.int i = .int k ∧ G k := ⟨i, rfl, h⟩
theorem i_setL {j : Nat} {QH : Hp → Prop} (h : H p = some (.lst xs)) (e : ixN xs.length i = some j) (k : ∀ H', Up H p (.lst (xs.set j v)) H' → QH H') : rSetL (.ref p) (.int i) v H QH :=
  ⟨p, xs, i, j, rfl, rfl, h, e, k _ ⟨⟨_, h⟩, rfl⟩⟩

/-! ### built-in functions -/
def rLenU (K : PySem.W.Frag) : List V → Hp → VK → Prop := fun xs H Q => ∃ x n, xs = [x] ∧ LenV K x H n ∧ Q (.int n) H
theorem clen {X : Cx} : CallR X (.builtin "len") (rLenU X.K) := call_len
theorem i_lenL (h : H p = some (.lst xs)) (q : Q (.int (xs.length : Nat)) H) : rLenU K [V.ref p] H Q := ⟨_, _, rfl, .inl ⟨xs, SqL.of h, rfl⟩, q⟩
theorem i_lenQ (h : SqL K H p xs) (q : Q (.int (xs.length : Nat)) H) : rLenU K [V.ref p] H Q := ⟨_, _, rfl, .inl ⟨xs, h, rfl⟩, q⟩
theorem i_lenT (h : H p = some (.tup xs)) (q : Q (.int (xs.length : Nat)) H) : rLenU K [V.ref p] H Q := ⟨_, _, rfl, .inr ⟨xs, SqT.of h, rfl⟩, q⟩
def rMax2 : List V → Hp → VK → Prop := fun xs H Q => ∃ i j, xs = [.int i, .int j] ∧ Q (.int (if j > i then j else i)) H
def rMin2 : List V → Hp → VK → Prop := fun xs H Q => ∃ i j, xs = [.int i, .int j] ∧ Q (.int (if j < i then j else i)) H
theorem cmax2 {X : Cx} (hc : X.calm = true) : CallR X (.builtin "max") rMax2 := call_max2 hc
theorem cmin2 {X : Cx} (hc : X.calm = true) : CallR X (.builtin "min") rMin2 := call_min2 hc
theorem i_max2 (q : Q (.int (max i j)) H) : rMax2 [V.int i, V.int j] H Q := ⟨i, j, rfl, by rw [show (if j > i then j else i) = max i j by omega]; exact q⟩
theorem i_min2 (q : Q (.int (min i j)) H) : rMin2 [V.int i, V.int j] H Q := ⟨i, j, rfl, by rw [show (if j < i then j else i) = min i j by omega]; exact q⟩
def rDivmod : List V → Hp → VK → Prop := fun xs H Q => ∃ i j, xs = [.int i, .int j] ∧ CDivP i j ∧ ∀ p, H p = none → Q (.ref p) (upd H p (.tup [.int (i / j), .int (i % j)]))
theorem cdivmod {X : Cx} : CallR X (.builtin "divmod") rDivmod := call_divmodW
theorem divP {i j : Int} {b : Nat} (h : 0 < j) (hb : j.natAbs < 2 ^ b) (h0 : 0 < b) (h9 : b ≤ 9000) : CDivP i j := ⟨h, PyProof.noPylong_of_log2 (Nat.lt_of_lt_of_le (PySem.Flt.log2_lt_of h0 hb) h9)⟩
theorem i_divmod (c : CDivP i j) (k : ∀ r H', New H r (.tup [.int (i / j), .int (i % j)]) H' → Q (.ref r) H') : rDivmod [V.int i, V.int j] H Q := ⟨i, j, rfl, c, fun r f => k r _ ⟨f, rfl⟩⟩
def rListU (K : PySem.W.Frag) : List V → Hp → VK → Prop := fun xs H Q => ∃ p ys, xs = [.ref p] ∧ (SqL K H p ys ∨ SqT K H p ys) ∧ ∀ l, H l = none → Q (.ref l) (upd H l (.lst ys))
theorem clist {X : Cx} : CallR X (.type "list") (rListU X.K) := call_list_of
theorem i_listL (h : H p = some (.lst xs)) (k : ∀ r H', New H r (.lst xs) H' → Q (.ref r) H') : rListU K [V.ref p] H Q := ⟨p, xs, rfl, .inl (SqL.of h), fun r f => k r _ ⟨f, rfl⟩⟩
theorem i_listT (h : H p = some (.tup xs)) (k : ∀ r H', New H r (.lst xs) H' → Q (.ref r) H') : rListU K [V.ref p] H Q := ⟨p, xs, rfl, .inr (SqT.of h), fun r f => k r _ ⟨f, rfl⟩⟩
def rTupU (K : PySem.W.Frag) : List V → Hp → VK → Prop := fun xs H Q => ∃ p ys, xs = [.ref p] ∧ ((SqL K H p ys ∧ ∀ l, H l = none → Q (.ref l) (upd H l (.tup ys))) ∨ (SqT K H p ys ∧ Q (.ref p) H))
theorem ctuple {X : Cx} : CallR X (.type "tuple") (rTupU X.K) := call_tuple_of
theorem i_tupleL (h : H p = some (.lst xs)) (k : ∀ r H', New H r (.tup xs) H' → Q (.ref r) H') : rTupU K [V.ref p] H Q := ⟨p, xs, rfl, .inl ⟨SqL.of h, fun r f => k r _ ⟨f, rfl⟩⟩⟩
def rInt1 : List V → Hp → VK → Prop := fun xs H Q => (∃ i, xs = [.int i] ∧ Q (.int i) H) ∨ ∃ k, xs = [.bl k] ∧ Q (.int (if k then 1 else 0)) H
theorem cint {X : Cx} : CallR X (.type "int") rInt1 := call_int1
theorem i_intI (q : Q (.int i) H) : rInt1 [V.int i] H Q := .inl ⟨i, rfl, q⟩
theorem i_intB {k : Bool} (q : Q (.int (if k then 1 else 0)) H) : rInt1 [V.bl k] H Q := .inr ⟨k, rfl, q⟩
def rAbs : List V → Hp → VK → Prop := fun xs H Q => ∃ i, xs = [.int i] ∧ Q (.int (if i < 0 then -i else i)) H
theorem cabs {X : Cx} : CallR X (.builtin "abs") rAbs := call_abs
theorem i_abs (q : Q (.int (if i < 0 then -i else i)) H) : rAbs [V.int i] H Q := ⟨i, rfl, q⟩
theorem i_sum {ns : List Int} (h : H p = some (.lst (ns.map V.int))) (q : Q (.int ns.sum) H) : rSum K [.ref p] H Q := ⟨p, ns, rfl, SqL.of h, q⟩
theorem i_all {bs : List Bool} (h : H p = some (.lst (bs.map V.bl))) (q : Q (.bl (bs.all id)) H) : rAll K [.ref p] H Q := ⟨p, bs, rfl, SqL.of h, q⟩
theorem i_any {bs : List Bool} (h : H p = some (.lst (bs.map V.bl))) (q : Q (.bl (bs.any id)) H) : rAny K [.ref p] H Q := ⟨p, bs, rfl, SqL.of h, q⟩
/-! ### list methods -/
theorem i_bm {T : String} {r : V → List V → Hp → VK → Prop} {to : TE} {t : TA} {σ : L2.St} (h : to σ H fun x H1 => tyV K T x H1 ∧ t σ H1 fun xs H2 => r x xs H2 Q) : tBM K T r to t σ H Q := h
theorem i_bm0 {T : String} {r : V → List V → Hp → VK → Prop} {to : TE} {σ : L2.St} (h : to σ H fun x H1 => tyV K T x H1 ∧ r x [] H1 Q) : tBM0 K T r to σ H Q := h
theorem i_tyL {G : Prop} (h : H p = some (.lst xs)) (g : G) : tyV K "list" (.ref p) H ∧ G := ⟨.inl ⟨rfl, _, SqL.of h⟩, g⟩
theorem i_append (h : H p = some (.lst xs)) (z : xs.length < sizeLine) (k : ∀ H', Up H p (.lst (xs ++ [v])) H' → Q .non H') : rAppend (.ref p) [v] H Q := ⟨p, xs, v, rfl, rfl, h, z, k _ ⟨⟨_, h⟩, rfl⟩⟩
theorem i_extend (h : H p = some (.lst xs)) (h2 : H q = some (.lst ys)) (z : xs.length + ys.length ≤ sizeLine) (k : ∀ H', Up H p (.lst (xs ++ ys)) H' → Q .non H') : rExtend (.ref p) [.ref q] H Q := ⟨p, q, xs, ys, rfl, rfl, h, h2, z, k _ ⟨⟨_, h⟩, rfl⟩⟩
theorem i_reverse (h : H p = some (.lst xs)) (k : ∀ H', Up H p (.lst xs.reverse) H' → Q .non H') : rReverse (.ref p) [] H Q := ⟨p, xs, rfl, rfl, h, k _ ⟨⟨_, h⟩, rfl⟩⟩
theorem i_clear (h : H p = some (.lst xs)) (k : ∀ H', Up H p (.lst []) H' → Q .non H') : rClear (.ref p) [] H Q := ⟨p, xs, rfl, rfl, h, k _ ⟨⟨_, h⟩, rfl⟩⟩
end

/-! ### branches -/
theorem ite2' {p A B : Prop} [Decidable p] (h1 : p → A) (h2 : ¬ p → B) : if decide p = true then A else B := by
  by_cases h : p
  · rw [if_pos (decide_eq_true h)]; exact h1 h
  · rw [if_neg (by rw [decide_eq_false h]; exact Bool.false_ne_true)]; exact h2 h
theorem iten' {p A B : Prop} [Decidable p] (h1 : ¬ p → A) (h2 : p → B) : if (!decide p) = true then A else B := by
  by_cases h : p
  · rw [decide_eq_true h]; rw [if_neg (by decide)]; exact h2 h
  · rw [decide_eq_false h]; rw [if_pos (by decide)]; exact h1 h
theorem itT {p A B : Prop} [Decidable p] (h : p) (a : A) : if decide p = true then A else B := ite2' (fun _ => a) fun z => absurd h z
theorem itF {p A B : Prop} [Decidable p] (h : ¬ p) (b : B) : if decide p = true then A else B := ite2' (fun z => absurd z h) fun _ => b
theorem itnT {p A B : Prop} [Decidable p] (h : ¬ p) (a : A) : if (!decide p) = true then A else B := iten' (fun _ => a) fun z => absurd z h
theorem itnF {p A B : Prop} [Decidable p] (h : p) (b : B) : if (!decide p) = true then A else B := iten' (fun z => absurd h z) fun _ => b

/-! ### loops -/
section
variable {K : PySem.W.Frag} {H : Hp} {a : Addr} {xs : List V} {g : TG} {tb : TZ} {nx bk ct : L2.St → Hp → Prop} {rt : VK} {σ : L2.St} {R : It → Hp → Prop} {n : Nat} {lo : Int}
/-- a loop of n turns by its invariant -/
theorem loop_by {J : It} (n : Nat) (Pv : Nat → L2.St → Hp → Prop) (h0 : Pv 0 σ H) (hgo : ∀ i σ H, i < n → Pv i σ H → J.go i H) (hst : ∀ σ H, Pv n σ H → J.stop n H)
    (hs : ∀ i x σ H H', i < n → Pv i σ H → J.yld i H x H' → g x σ H' fun σ2 H2 => tb (Pv (i + 1)) rt nx (Pv (i + 1)) σ2 H2) (hd : ∀ σ H, Pv n σ H → nx σ H) : zLoop J g tb nx rt σ H := by
  refine ⟨fun i m σ H => m = n - i ∧ i ≤ n ∧ Pv i σ H, ⟨n, rfl, Nat.zero_le _, h0⟩, ?_⟩
  rintro i m σ H ⟨rfl, hi, p⟩
  by_cases hlt : i < n
  · exact .inr ⟨hgo i σ H hlt p, Pv (i + 1), fun σ' H' p' => ⟨n - (i + 1), by omega, rfl, hlt, p'⟩, fun x H' y => hs i x σ H H' hlt p y⟩
  · have e : i = n := by omega
    subst e
    exact .inl ⟨hst σ H p, hd σ H p⟩
theorem loop_list (Pv : Nat → L2.St → Hp → Prop) (h0 : Pv 0 σ H) (hl : ∀ i σ H, i ≤ xs.length → Pv i σ H → SqL K H a xs)
    (hs : ∀ i x σ H, xs[i]? = some x → Pv i σ H → g x σ H fun σ2 H2 => tb (Pv (i + 1)) rt nx (Pv (i + 1)) σ2 H2) (hd : ∀ σ H, Pv xs.length σ H → nx σ H) : zLoop (Itl K a) g tb nx rt σ H := by
  refine loop_by xs.length Pv h0 (fun i σ H hi p => ⟨xs, xs[i], hl i σ H (Nat.le_of_lt hi) p, by simp [hi]⟩) (fun σ H p => ⟨xs, hl _ σ H (Nat.le_refl _) p, Nat.le_refl _⟩) (fun i x σ H H' hi p y => ?_) hd
  obtain ⟨e, y⟩ := y
  subst e
  exact hs i x σ _ (y xs (hl i σ _ (Nat.le_of_lt hi) p)) p
theorem loop_tup (Pv : Nat → L2.St → Hp → Prop) (h0 : Pv 0 σ H) (hl : ∀ i σ H, i ≤ xs.length → Pv i σ H → SqT K H a xs)
    (hs : ∀ i x σ H, xs[i]? = some x → Pv i σ H → g x σ H fun σ2 H2 => tb (Pv (i + 1)) rt nx (Pv (i + 1)) σ2 H2) (hd : ∀ σ H, Pv xs.length σ H → nx σ H) : zLoop (Itt K a) g tb nx rt σ H := by
  refine loop_by xs.length Pv h0 (fun i σ H hi p => ⟨xs, xs[i], hl i σ H (Nat.le_of_lt hi) p, by simp [hi]⟩) (fun σ H p => ⟨xs, hl _ σ H (Nat.le_refl _) p, Nat.le_refl _⟩) (fun i x σ H H' hi p y => ?_) hd
  obtain ⟨e, y⟩ := y
  subst e
  exact hs i x σ _ (y xs (hl i σ _ (Nat.le_of_lt hi) p)) p
theorem loop_range (Pv : Nat → L2.St → Hp → Prop) (h0 : Pv 0 σ H) (hs : ∀ i σ H, i < n → Pv i σ H → g (.int (lo + (i : Nat))) σ H fun σ2 H2 => tb (Pv (i + 1)) rt nx (Pv (i + 1)) σ2 H2) (hd : ∀ σ H, Pv n σ H → nx σ H) :
    zLoop (Itr lo n) g tb nx rt σ H := by
  refine loop_by n Pv h0 (fun i σ H hi p => hi) (fun σ H p => Nat.le_refl _) (fun i x σ H H' hi p y => ?_) hd
  obtain ⟨e, y⟩ := y
  subst e y
  exact hs i σ _ hi p
def zItL (K : PySem.W.Frag) (x : V) (H1 : Hp) (R : It → Hp → Prop) : Prop := ∃ a, x = .ref a ∧ (∃ xs, SqL K H1 a xs) ∧ R (Itl K a) H1
def zItT (K : PySem.W.Frag) (x : V) (H1 : Hp) (R : It → Hp → Prop) : Prop := ∃ a, x = .ref a ∧ (∃ xs, SqT K H1 a xs) ∧ R (Itt K a) H1
theorem i_iList {tl : TE} (h : tl σ H fun x H1 => zItL K x H1 R) : iList K tl σ H R := h
theorem i_iTup {tl : TE} (h : tl σ H fun x H1 => zItT K x H1 R) : iTup K tl σ H R := h
theorem i_itL (h : H a = some (.lst xs)) (q : R (Itl K a) H) : zItL K (.ref a) H R := ⟨a, rfl, ⟨xs, SqL.of h⟩, q⟩
theorem i_itQ (h : SqL K H a xs) (q : R (Itl K a) H) : zItL K (.ref a) H R := ⟨a, rfl, ⟨xs, h⟩, q⟩
theorem i_itT (h : H a = some (.tup xs)) (q : R (Itt K a) H) : zItT K (.ref a) H R := ⟨a, rfl, ⟨xs, SqT.of h⟩, q⟩
def zR1 (vs : List V) (H1 : Hp) (R : It → Hp → Prop) : Prop := ∃ j : Int, vs = [.int j] ∧ -(2 ^ 62) ≤ j ∧ j < 2 ^ 62 ∧ R (Itr 0 j.toNat) H1
def zR2 (vs : List V) (H1 : Hp) (R : It → Hp → Prop) : Prop := ∃ i j : Int, vs = [.int i, .int j] ∧ (-(2 ^ 62) ≤ i ∧ i < 2 ^ 62 ∧ -(2 ^ 62) ≤ j ∧ j < 2 ^ 62) ∧ R (Itr i (j - i).toNat) H1
theorem i_rng1 {ta : TA} (h : ta σ H fun vs H1 => zR1 vs H1 R) : iRng1 ta σ H R := h
theorem i_rng1I {j : Int} (h1 : -(2 ^ 62) ≤ j) (h2 : j < 2 ^ 62) (q : R (Itr 0 j.toNat) H) : zR1 [V.int j] H R := ⟨j, rfl, h1, h2, q⟩
theorem i_rng1N {n : Nat} (h : n ≤ 1000000) (q : R (Itr 0 n) H) : zR1 [V.int (n : Nat)] H R := ⟨n, rfl, by omega, by omega, q⟩
theorem i_rng2 {ta : TA} (h : ta σ H fun vs H1 => zR2 vs H1 R) : iRng2 ta σ H R := h
theorem i_rng2I {i j : Int} (h : -(2 ^ 62) ≤ i ∧ i < 2 ^ 62 ∧ -(2 ^ 62) ≤ j ∧ j < 2 ^ 62) (q : R (Itr i (j - i).toNat) H) : zR2 [V.int i, V.int j] H R := ⟨i, j, rfl, h, q⟩
def zEn (K : PySem.W.Frag) (vs : List V) (H1 : Hp) (R : It → Hp → Prop) : Prop := ∃ a xs, vs = [.ref a] ∧ SqL K H1 a xs ∧ R (Ite K a) H1
theorem i_enum {ta : TA} (h : ta σ H fun vs H1 => zEn K vs H1 R) : iEnum K ta σ H R := h
theorem i_enumL (h : SqL K H a xs) (q : R (Ite K a) H) : zEn K [V.ref a] H R := ⟨a, xs, rfl, h, q⟩
def zZi (K : PySem.W.Frag) (vs : List V) (H1 : Hp) (R : It → Hp → Prop) : Prop := ∃ a b xs ys, vs = [.ref a, .ref b] ∧ SqL K H1 a xs ∧ SqL K H1 b ys ∧ R (Itz K a b) H1
theorem i_zip {ta : TA} (h : ta σ H fun vs H1 => zZi K vs H1 R) : iZip K ta σ H R := h
theorem i_zipL {b : Addr} {ys : List V} (h : SqL K H a xs) (h2 : SqL K H b ys) (q : R (Itz K a b) H) : zZi K [V.ref a, V.ref b] H R := ⟨a, b, xs, ys, rfl, h, h2, q⟩
/-- while, by an invariant and a measure -/
theorem i_while {c : TT} (Pv : L2.St → Hp → Prop) (μ : L2.St → Hp → Nat) (h0 : Pv σ H)
    (hs : ∀ σ H, Pv σ H → c σ H fun b H1 => if b = true then zBody (fun m σ H => m = μ σ H ∧ Pv σ H) (μ σ H) tb nx rt σ H1 else nx σ H1) : zWhile c tb nx rt bk ct σ H := by
  refine ⟨fun m σ H => m = μ σ H ∧ Pv σ H, ⟨_, rfl, h0⟩, ?_⟩
  rintro m σ H ⟨rfl, p⟩
  exact hs σ H p
theorem i_body {Pv : L2.St → Hp → Prop} {μ : L2.St → Hp → Nat} {m : Nat} (h : tb (fun σ' H' => Pv σ' H' ∧ μ σ' H' < m) rt nx (fun σ' H' => Pv σ' H' ∧ μ σ' H' < m) σ H) : zBody (fun m σ H => m = μ σ H ∧ Pv σ H) m tb nx rt σ H :=
  ⟨_, fun σ' H' z => ⟨_, z.2, rfl, z.1⟩, h⟩
end

/-! ### comprehensions -/
section
variable {K : PySem.W.Frag} {H : Hp} {a : Addr} {xs : List V} {g : TG} {tt : TT} {te : TE} {vs : List Nat} {σ : L2.St} {Q : VK} {n : Nat} {lo : Int} {wi : TI}
/-- behind the iterator -/
def zComp (J : It) (g : TG) (tt : TT) (te : TE) (vs : List Nat) (σ : L2.St) (H1 : Hp) (Q : VK) : Prop := ∀ D, H1 D = none → ∃ W : Nat → Nat → Hp → Prop, (∃ m, W 0 m (upd H1 D (.lst []))) ∧ ∀ i m H, W i m H →
  (J.stop i H ∧ Q (.ref D) H) ∨ (J.go i H ∧ ∃ Nx : Hp → Prop, (∀ H', Nx H' → ∃ m', m' < m ∧ W (i + 1) m' H') ∧ ∀ x H', J.yld i H x H' → g x (wipe σ vs) H' fun σ2 H2 => wipe σ2 vs = wipe σ vs ∧ tt σ2 H2 fun b H3 =>
    if b = true then te σ2 H3 fun y H4 => ∃ acc, H4 D = some (.lst acc) ∧ acc.length < sizeLine ∧ Nx (upd H4 D (.lst (acc ++ [y]))) else Nx H3)
theorem i_lc (h : wi σ H fun J H1 => zComp J g tt te vs σ H1 Q) : tLc wi g tt te vs σ H Q := h
/-- what an element's end asks; what a left out one's does -/
def zEnd (D : Addr) (G : List V → Hp → Prop) (y : V) (H4 : Hp) : Prop := ∃ ac, H4 D = some (.lst ac) ∧ ac.length < sizeLine ∧ ∃ a2, upd H4 D (.lst (ac ++ [y])) D = some (.lst a2) ∧ G a2 (upd H4 D (.lst (ac ++ [y])))
def zSkip (D : Addr) (G : List V → Hp → Prop) (H4 : Hp) : Prop := ∃ a2, H4 D = some (.lst a2) ∧ G a2 H4
theorem i_end {D : Addr} {G : List V → Hp → Prop} {acc : List V} {y : V} {H4 : Hp} (h : H4 D = some (.lst acc)) (z : acc.length < sizeLine) (k : ∀ H6, Up H4 D (.lst (acc ++ [y])) H6 → G (acc ++ [y]) H6) : zEnd D G y H4 :=
  ⟨acc, h, z, acc ++ [y], upd_same, k _ ⟨⟨_, h⟩, rfl⟩⟩
theorem i_skip {D : Addr} {G : List V → Hp → Prop} {acc : List V} {H4 : Hp} (h : H4 D = some (.lst acc)) (k : G acc H4) : zSkip D G H4 := ⟨acc, h, k⟩
/-- a comprehension of n turns: G i acc H speaks of the list so far; the list's own place D is new for H -/
theorem comp_by {J : It} (n : Nat) (G : Nat → List V → Hp → Prop) (h0 : ∀ D H', New H D (.lst []) H' → G 0 [] H')
    (hgo : ∀ i acc H, i < n → G i acc H → J.go i H) (hst : ∀ acc H, G n acc H → J.stop n H)
    (hs : ∀ D i acc x H2 H', H D = none → i < n → H2 D = some (.lst acc) → G i acc H2 → J.yld i H2 x H' → g x (wipe σ vs) H' fun σ2 H3 => wipe σ2 vs = wipe σ vs ∧ tt σ2 H3 fun b H4 =>
      if b = true then te σ2 H4 fun y H5 => zEnd D (G (i + 1)) y H5 else zSkip D (G (i + 1)) H4)
    (hd : ∀ D acc H2, H D = none → H2 D = some (.lst acc) → G n acc H2 → Q (.ref D) H2) : zComp J g tt te vs σ H Q := by
  intro D fD
  refine ⟨fun i m H2 => m = n - i ∧ i ≤ n ∧ ∃ acc, H2 D = some (.lst acc) ∧ G i acc H2, ⟨n, rfl, Nat.zero_le _, [], upd_same, h0 D _ ⟨fD, rfl⟩⟩, ?_⟩
  rintro i m H2 ⟨rfl, hi, acc, hD, p⟩
  by_cases hlt : i < n
  · exact .inr ⟨hgo i acc H2 hlt p, fun H6 => ∃ acc, H6 D = some (.lst acc) ∧ G (i + 1) acc H6, fun H' p' => ⟨n - (i + 1), by omega, rfl, hlt, p'⟩, fun x H' y => hs D i acc x H2 H' fD hlt hD p y⟩
  · have e : i = n := by omega
    subst e
    exact .inl ⟨hst acc H2 p, hd D acc H2 fD hD p⟩
/-- over a list -/
theorem comp_list (G : Nat → List V → Hp → Prop) (h0 : ∀ D H', New H D (.lst []) H' → G 0 [] H') (hl : ∀ i acc H, i ≤ xs.length → G i acc H → SqL K H a xs)
    (hs : ∀ D i acc x H2, H D = none → xs[i]? = some x → H2 D = some (.lst acc) → G i acc H2 → g x (wipe σ vs) H2 fun σ2 H3 => wipe σ2 vs = wipe σ vs ∧ tt σ2 H3 fun b H4 =>
      if b = true then te σ2 H4 fun y H5 => zEnd D (G (i + 1)) y H5 else zSkip D (G (i + 1)) H4)
    (hd : ∀ D acc H2, H D = none → H2 D = some (.lst acc) → G xs.length acc H2 → Q (.ref D) H2) : zComp (Itl K a) g tt te vs σ H Q := by
  refine comp_by xs.length G h0 (fun i acc H hi p => ⟨xs, xs[i], hl i acc H (Nat.le_of_lt hi) p, by simp [hi]⟩) (fun acc H p => ⟨xs, hl _ acc H (Nat.le_refl _) p, Nat.le_refl _⟩) (fun D i acc x H2 H' fD hi hD p y => ?_) hd
  obtain ⟨e, y⟩ := y
  subst e
  exact hs D i acc x _ fD (y xs (hl i acc _ (Nat.le_of_lt hi) p)) hD p
theorem comp_tup (G : Nat → List V → Hp → Prop) (h0 : ∀ D H', New H D (.lst []) H' → G 0 [] H') (hl : ∀ i acc H, i ≤ xs.length → G i acc H → SqT K H a xs)
    (hs : ∀ D i acc x H2, H D = none → xs[i]? = some x → H2 D = some (.lst acc) → G i acc H2 → g x (wipe σ vs) H2 fun σ2 H3 => wipe σ2 vs = wipe σ vs ∧ tt σ2 H3 fun b H4 =>
      if b = true then te σ2 H4 fun y H5 => zEnd D (G (i + 1)) y H5 else zSkip D (G (i + 1)) H4)
    (hd : ∀ D acc H2, H D = none → H2 D = some (.lst acc) → G xs.length acc H2 → Q (.ref D) H2) : zComp (Itt K a) g tt te vs σ H Q := by
  refine comp_by xs.length G h0 (fun i acc H hi p => ⟨xs, xs[i], hl i acc H (Nat.le_of_lt hi) p, by simp [hi]⟩) (fun acc H p => ⟨xs, hl _ acc H (Nat.le_refl _) p, Nat.le_refl _⟩) (fun D i acc x H2 H' fD hi hD p y => ?_) hd
  obtain ⟨e, y⟩ := y
  subst e
  exact hs D i acc x _ fD (y xs (hl i acc _ (Nat.le_of_lt hi) p)) hD p
theorem comp_range (G : Nat → List V → Hp → Prop) (h0 : ∀ D H', New H D (.lst []) H' → G 0 [] H')
    (hs : ∀ D i acc H2, H D = none → i < n → H2 D = some (.lst acc) → G i acc H2 → g (.int (lo + (i : Nat))) (wipe σ vs) H2 fun σ2 H3 => wipe σ2 vs = wipe σ vs ∧ tt σ2 H3 fun b H4 =>
      if b = true then te σ2 H4 fun y H5 => zEnd D (G (i + 1)) y H5 else zSkip D (G (i + 1)) H4)
    (hd : ∀ D acc H2, H D = none → H2 D = some (.lst acc) → G n acc H2 → Q (.ref D) H2) : zComp (Itr lo n) g tt te vs σ H Q := by
  refine comp_by n G h0 (fun i acc H hi p => hi) (fun acc H p => Nat.le_refl _) (fun D i acc x H2 H' fD hi hD p y => ?_) hd
  obtain ⟨e, y⟩ := y
  subst e y
  exact hs D i acc _ fD hi hD p
/-- over enumerate(list): each pair is a new tuple -/
theorem comp_enum (G : Nat → List V → Hp → Prop) (h0 : ∀ D H', New H D (.lst []) H' → G 0 [] H') (hl : ∀ i acc H, i ≤ xs.length → G i acc H → SqL K H a xs)
    (hs : ∀ D i acc x T H2 H2', H D = none → xs[i]? = some x → H2 D = some (.lst acc) → G i acc H2 → New H2 T (.tup [.int (i : Nat), x]) H2' → g (.ref T) (wipe σ vs) H2' fun σ2 H3 => wipe σ2 vs = wipe σ vs ∧ tt σ2 H3 fun b H4 =>
      if b = true then te σ2 H4 fun y H5 => zEnd D (G (i + 1)) y H5 else zSkip D (G (i + 1)) H4)
    (hd : ∀ D acc H2, H D = none → H2 D = some (.lst acc) → G xs.length acc H2 → Q (.ref D) H2) : zComp (Ite K a) g tt te vs σ H Q := by
  refine comp_by xs.length G h0 (fun i acc H hi p => ⟨xs, xs[i], hl i acc H (Nat.le_of_lt hi) p, by simp [hi]⟩) (fun acc H p => ⟨xs, hl _ acc H (Nat.le_refl _) p, Nat.le_refl _⟩) (fun D i acc x H2 H' fD hi hD p y => ?_) hd
  obtain ⟨T, v, rfl, fT, rfl, y⟩ := y
  exact hs D i acc v T H2 _ fD (y xs (hl i acc H2 (Nat.le_of_lt hi) p)) hD p ⟨fT, rfl⟩
/-- over zip(list, list) of one length -/
theorem comp_zip {b : Addr} {ys : List V} (he : xs.length = ys.length) (G : Nat → List V → Hp → Prop) (h0 : ∀ D H', New H D (.lst []) H' → G 0 [] H') (hl : ∀ i acc H, i ≤ xs.length → G i acc H → SqL K H a xs ∧ SqL K H b ys)
    (hs : ∀ D i acc x y T H2 H2', H D = none → xs[i]? = some x → ys[i]? = some y → H2 D = some (.lst acc) → G i acc H2 → New H2 T (.tup [x, y]) H2' → g (.ref T) (wipe σ vs) H2' fun σ2 H3 => wipe σ2 vs = wipe σ vs ∧ tt σ2 H3 fun b H4 =>
      if b = true then te σ2 H4 fun y H5 => zEnd D (G (i + 1)) y H5 else zSkip D (G (i + 1)) H4)
    (hd : ∀ D acc H2, H D = none → H2 D = some (.lst acc) → G xs.length acc H2 → Q (.ref D) H2) : zComp (Itz K a b) g tt te vs σ H Q := by
  refine comp_by xs.length G h0 (fun i acc H hi p => ⟨xs, ys, xs[i], ys[i]'(he ▸ hi), (hl i acc H (Nat.le_of_lt hi) p).1, (hl i acc H (Nat.le_of_lt hi) p).2, by simp [hi], by simp [he ▸ hi]⟩)
    (fun acc H p => ⟨xs, ys, (hl _ acc H (Nat.le_refl _) p).1, (hl _ acc H (Nat.le_refl _) p).2, .inl (Nat.le_refl _)⟩) (fun D i acc x H2 H' fD hi hD p y => ?_) hd
  obtain ⟨T, v, u, rfl, fT, rfl, y1, y2⟩ := y
  have q := hl i acc H2 (Nat.le_of_lt hi) p
  exact hs D i acc v u T H2 _ fD (y1 xs q.1) (y2 ys q.2) hD p ⟨fT, rfl⟩
theorem i_yes {Q2 : Bool → Hp → Prop} (h : Q2 true H) : tYes σ H Q2 := h
end
/-! ### the same with the fragment written (in blocks the context's own is not at hand) -/
theorem opAddK {X : Cx} (K : PySem.W.Frag) (h : X.K = K) : OpR X (binaryOp .Add) (rAdd K) := h ▸ opAdd
theorem opMulK {X : Cx} (K : PySem.W.Frag) (h : X.K = K) : OpR X (binaryOp .Mult) (rMul K) := h ▸ opMul
theorem opEqK {X : Cx} (K : PySem.W.Frag) (h : X.K = K) (hu : X.A.units + 64 < cLine) : OpR X (compareOp .Eq) (rEqU K) := h ▸ opEq hu
theorem opNeK {X : Cx} (K : PySem.W.Frag) (h : X.K = K) (hu : X.A.units + 64 < cLine) : OpR X (compareOp .NotEq) (rNeU K) := h ▸ opNe hu
theorem ixUK {X : Cx} (K : PySem.W.Frag) (h : X.K = K) : IxR X (rIx K) := h ▸ ixU
theorem getLK {X : Cx} (K : PySem.W.Frag) (h : X.K = K) : PGet X (rGetL K) := h ▸ getL
theorem slUK {X : Cx} (K : PySem.W.Frag) (h : X.K = K) : SlR X (rSlU K) := h ▸ slU
theorem clenK {X : Cx} (K : PySem.W.Frag) (h : X.K = K) : CallR X (.builtin "len") (rLenU K) := h ▸ clen
theorem clistK {X : Cx} (K : PySem.W.Frag) (h : X.K = K) : CallR X (.type "list") (rListU K) := h ▸ clist
theorem ctupleK {X : Cx} (K : PySem.W.Frag) (h : X.K = K) : CallR X (.type "tuple") (rTupU K) := h ▸ ctuple
theorem csumK {X : Cx} (K : PySem.W.Frag) (h : X.K = K) (hc : X.calm = true) : CallR X (.builtin "sum") (rSum K) := h ▸ cr_sum hc
theorem callK {X : Cx} (K : PySem.W.Frag) (h : X.K = K) (hc : X.calm = true) : CallR X (.builtin "all") (rAll K) := h ▸ cr_all hc
theorem canyK {X : Cx} (K : PySem.W.Frag) (h : X.K = K) (hc : X.calm = true) : CallR X (.builtin "any") (rAny K) := h ▸ cr_any hc
end Z

/-! Z, part four: what the head tells; the law's end. -/
namespace Z
open PySem PySem.Spec PyProof.Rows L2

/-! ### the head's facts, and some of one's own -/
abbrev Fx : Type := PySem.W.Frag → Bool
def obsX (fa : List He.Fa) (fx : List Fx) (fn : List He.DefD) (K : PySem.W.Frag) : He.AlD := (((fa.all fun f => f.ok K) && fn.all fun d => d.ok K) && fx.all fun f => f K, fn.map fun d => He.fnW K d.at_)
def SaysX (fa : List He.Fa) (fx : List Fx) (fn : List He.DefD) (K : PySem.W.Frag) : Prop := obsX fa fx fn K = He.valD fn
def obsXG (n : Nat) (fa : List He.Fa) (fx : List Fx) (fn : List He.DefD) (g : Addr → Option Obj) : He.AlD := obsX fa fx fn (He.frG g (cStatics :: He.asD g n))
def hookX (n : Nat) (fa : List He.Fa) (fx : List Fx) (fn : List He.DefD) : PySem.W.Hook where
  α := He.AlD
  obs := fun s => obsXG n fa fx fn s.heap.get?
  val := fun _ => He.valD fn
  says := fun _ h => ∃ K : PySem.W.Frag, K.In h ∧ SaysX fa fx fn K
  of := fun _ _ e => ⟨_, He.frG_in, e⟩
  keeps := fun _ _ _ ⟨K, hK, c⟩ k => ⟨K, PySem.W.Frag.In.keeps hK k, c⟩
theorem obsXG_eq {n : Nat} {fa : List He.Fa} {fx : List Fx} {fn : List He.DefD} {g : Addr → Option Obj} {s : Shared} (h : ∀ a, g a = s.heap.get? a) : obsXG n fa fx fn g = (hookX n fa fx fn).obs s := by
  have e : g = s.heap.get? := funext h
  rw [e] <;> rfl
theorem SaysX.d {fa : List He.Fa} {fx : List Fx} {fn : List He.DefD} {K : PySem.W.Frag} (c : SaysX fa fx fn K) : He.SaysD fa fn K := by
  have e1 : (((fa.all fun f => f.ok K) && fn.all fun d => d.ok K) && fx.all fun f => f K) = true := congrArg (fun z : He.AlD => z.1) c
  have e2 : fn.map (fun d => He.fnW K d.at_) = fn.map He.DefD.val := congrArg (fun z : He.AlD => z.2) c
  rw [Bool.and_eq_true] at e1
  show (_, _) = (_, _)
  rw [e1.1, e2]
theorem SaysX.x {fa : List He.Fa} {fx : List Fx} {fn : List He.DefD} {K : PySem.W.Frag} (c : SaysX fa fx fn K) (i : Nat) {f : Fx} (h : fx[i]? = some f) : f K = true := by
  have e1 : (((fa.all fun f => f.ok K) && fn.all fun d => d.ok K) && fx.all fun f => f K) = true := congrArg (fun z : He.AlD => z.1) c
  rw [Bool.and_eq_true] at e1
  exact List.all_eq_true.mp e1.2 f (List.mem_of_getElem? h)
/-- what the head tells of the written part -/
structure Ev (fa : List He.Fa) (fx : List Fx) (fn : List He.DefD) (K : PySem.W.Frag) (mg : Str → Option Value) : Prop where
  y : SaysX fa fx fn K
  x : ∃ h : Heap, K.In h ∧ h.Ns mainGlobals mg
section
variable {fa : List He.Fa} {fx : List Fx} {dl : List He.DefD} {K : PySem.W.Frag} {mg : Str → Option Value} (E : Ev fa fx dl K mg)
include E
theorem Ev.c : He.SaysD fa dl K := E.y.d
theorem Ev.own (i : Nat) {f : Fx} (h : fx[i]? = some f := by rfl) : f K = true := E.y.x i h
theorem Ev.glo (i : Nat) {x : Str} (h : fa[i]? = some (.glo x) := by rfl) : mg x = some (.ref (He.ga K x)) := by
  obtain ⟨hp, a, b⟩ := E.x
  exact He.glo_ok a b (E.c.fact i h)
theorem Ev.free (i : Nat) {x : Str} (h : fa[i]? = some (.free x) := by rfl) : mg x = none := by
  obtain ⟨hp, a, b⟩ := E.x
  exact He.free_ok a b (E.c.fact i h)
theorem Ev.int (i : Nat) {x : Str} {z : Int} (h : fa[i]? = some (.int x z) := by rfl) : ∃ t, mg x = some (.int z t) := by
  obtain ⟨hp, a, b⟩ := E.x
  exact He.int_ok a b (E.c.fact i h)
theorem Ev.str (i : Nat) {x z : Str} (h : fa[i]? = some (.str x z) := by rfl) : ∃ t, mg x = some (.str z t) := by
  obtain ⟨hp, a, b⟩ := E.x
  exact He.str_ok a b (E.c.fact i h)
theorem Ev.cls (i : Nat) {x : Str} (h : fa[i]? = some (.cls x) := by rfl) : Cls K (He.ga K x) := He.cls_ok (E.c.fact i h)
theorem Ev.noat (i : Nat) {x f : Str} (h : fa[i]? = some (.noat x f) := by rfl) : NoAttr K (He.ga K x) f := He.noat_ok (E.c.fact i h)
theorem Ev.meth (i : Nat) {x m : Str} (h : fa[i]? = some (.meth x m) := by rfl) : Meth K (He.ga K x) m (He.ma K (He.ga K x) m) := He.meth_ok (E.c.fact i h)
theorem Ev.mkr (i : Nat) {x : Str} (h : fa[i]? = some (.mkr x) := by rfl) : L2.Mk K (He.ga K x) (He.ma K (He.ga K x) "__init__") := He.mkr_ok (E.c.fact i h)
theorem Ev.fn (i : Nat) {d : He.DefD} (h : dl[i]? = some d := by rfl) : ∃ fd, FunD K d.name d.qual d.params d.body d.scope (d.dvs K) (d.kws K) (He.fAd K d.at_) fd := E.c.def_ i h
end
theorem i_start {t : TZ} {Q : VK} {N : List Str} {vs : List V} {H : Hp} {σ : L2.St} (e : L2.start N vs = σ) (h : t (fun _ H' => Q .non H') Q (fun _ _ => False) (fun _ _ => False) σ H) :
    zS t { nx := fun _ H' => Q .non H', rt := Q } (L2.start N vs) H := e ▸ h
theorem cxK {CX : CXT} {P : Program} {w : World} {K : PySem.W.Frag} {mg : Str → Option Value} {base : Heap} {N : List Str} {qual : Str} {scope : Scope} {f : Addr} {cd : Value} {A : Around} {outer : List Env} {s : Shared} {H : Hp} {E : XK} :
    (cxOf CX P w K mg base N qual scope f cd A outer s H E).K = K := rfl
theorem pe_gint {X : Cx} {x : Str} {i : Int} {pos : Pos} (hg : Gl X x) (h : ∃ t, X.mg x = some (.int i t)) (hd : (x == ("__debug__" : Str)) = false := by decide) : PE X (.Name x pos) (tC (.int i)) := by
  obtain ⟨t, e⟩ := h
  exact pe_glob hg e ⟨t, rfl⟩ hd
theorem pe_gstr {X : Cx} {x z : Str} {pos : Pos} (hg : Gl X x) (h : ∃ t, X.mg x = some (.str z t)) (hd : (x == ("__debug__" : Str)) = false := by decide) : PE X (.Name x pos) (tC (.str z)) := by
  obtain ⟨t, e⟩ := h
  exact pe_glob hg e ⟨t, rfl⟩ hd

theorem FunD.uniq {K : PySem.W.Frag} {x qual : Str} {params : Arguments} {body : List Stmt} {scope : Scope} {dvs : List V} {kws : List (Str × V)} {f : Addr} {fd fd' : FuncData}
    (F : FunD K x qual params body scope dvs kws f fd) (F' : FunD K x qual params body scope dvs kws f fd') : fd = fd' := by
  obtain ⟨_, _, _, _, _, _, _, _, _, _, _, lk, _⟩ := F.ex
  obtain ⟨_, _, _, _, _, _, _, _, _, _, _, lk', _⟩ := F'.ex
  rw [lk] at lk'
  cases lk'
  rfl
/-! ### the law's end -/
section
variable {P : Program} {w : World} {K : PySem.W.Frag} {mg mb : Str → Option Value} {k : Nat} {fa a : Addr} {fd : FuncData} {x : Str} {sp : Sp} {s₁ : Shared} {vs : List Value} {ns : List Int}
/-- the law's call, from an abstract heap that tracks the script at most -/
theorem law_core (KX : K.In s₁.heap) (hns : s₁.heap.Ns mainGlobals mg) (hb : s₁.heap.Ns builtinsNs mb) (hbb : ∀ x : Str, x ≠ "__name__" → mb x = bootBuiltins x) (hlim : s₁.heap.NoLimit)
    (hgen : s₁.gens = #[]) (ha : s₁.heap.get? a = some { cls := .type "list", data := .seq vs.toArray }) (hr : Room k callerA)
    (F : ∀ base : Heap, K.In base → base.Ns mainGlobals mg → FnG True P w K mg base k fa fd [x] sp) (bnd : ∀ (s : Shared) (u : Value), BindsTo s fd ⟨[u], []⟩ [(x, u)])
    (H : Hp) (only : Only H) (hq : sp [.ref a] H (fun v _ => v = .bl true) fun _ _ _ => False) (hok : HOk P w H s₁.heap) (at_ : ∀ b, H b ≠ none → b = a) (nk : H a ≠ none → K.lookup a = none) :
    codeAny (model P w) callerA (.call (.ref fa) ⟨[.ref a], []⟩) (fun r s' => r = .ok (.ret (.bool true)) ∧ OldK s₁.heap s'.heap ∧ s'.os = s₁.os ∧ AllBare s'.gens) s₁ := by
  have isA : ∀ {b : Addr} {u : HO}, H b = some u → b = a := fun {b u} e => at_ b (by rw [e]; exact fun z => nomatch z)
  have hid : ∀ {b : Addr} {o : Obj}, s₁.heap.get? b = some o → H b = none → (hidT s₁.heap H).get? b = some o := fun e n => hidT_get e n
  have noDict : ∀ {b : Addr} {o : Obj} {es : Array DictEntry} {ep : Nat}, s₁.heap.get? b = some o → o.data = .dict es ep → H b = none := by
    intro b o es ep e d
    cases q : H b with
    | none => rfl
    | some u =>
      rw [isA q, ha] at e
      cases e
      exact absurd (show Data.seq vs.toArray _ = Data.dict es ep from d) (fun z => nomatch z)
  have nsK : ∀ {b : Addr} {m : Str → Option Value}, s₁.heap.Ns b m → (hidT s₁.heap H).Ns b m := fun {b m} z => by
    obtain ⟨o, es, ep, e, d, r⟩ := z
    exact ⟨o, es, ep, hid e (noDict e d), d, r⟩
  have kb : K.In (hidT s₁.heap H) := fun b o e => hid (KX b o e) (by
    cases q : H b with
    | none => rfl
    | some u =>
      have z := isA q
      subst z
      rw [nk (by rw [q]; exact fun z => nomatch z)] at e
      cases e)
  have lim : (hidT s₁.heap H).NoLimit := by
    obtain ⟨mc, h1, h2⟩ := hlim
    exact ⟨mc, nsK h1, h2⟩
  have none_in : ∀ b : Addr, b ∉ frs ([] : List Env) := fun b z => by cases (show b ∈ ([] : List Addr) from z)
  have e0 : Env0 P w K mg (hidT s₁.heap H) callerA [] s₁ H :=
    ⟨rfl, ⟨kb, nsK hns, ⟨mb, nsK hb, hbb⟩, lim⟩, fun b o e => of_hidT e, Nat.le_of_eq (hidT_size _ _), trivial, fun b z => absurd z (none_in b), hok, .of_eq hgen⟩
  refine codeAny_mono ((F _ kb (nsK hns)).run callerA [] s₁ H ⟨[.ref a], []⟩ [.ref a] [.ref a] _ _ hr (fun _ => rfl) e0 (bnd s₁ (.ref a)) (.cons rfl .nil) hq) fun r s' h => ?_
  match r, h with
  | .error e, h =>
    obtain ⟨_, _, _, _, _, _, _, _, _, _, _, _, z⟩ := (show L2.CX P w [] H s₁ (fun _ _ _ => False) e s' from h)
    exact z.elim
  | .ok .next, h => exact False.elim h
  | .ok .brk, h => exact False.elim h
  | .ok .cont, h => exact False.elim h
  | .ok (.ret u), h =>
    obtain ⟨v, H', os, bare, un, hok', r', q⟩ := h
    subst q
    obtain rfl : u = Value.bool true := r'
    refine ⟨rfl, OldK.of_keep fun b o e => ?_, os, bare⟩
    cases q : H b with
    | none => exact un.keep b o e q (none_in b) (by simp)
    | some u =>
      rcases only b with z | ⟨ob, xs, z⟩
      · rw [q] at z
        cases z
      · obtain ⟨e1, _⟩ := hok b _ z
        obtain ⟨e2, _⟩ := hok' b _ (un.frzs b ob _ z)
        rw [e] at e1
        cases e1
        exact e2
theorem law_callG (KX : K.In s₁.heap) (hns : s₁.heap.Ns mainGlobals mg) (hb : s₁.heap.Ns builtinsNs mb) (hbb : ∀ x : Str, x ≠ "__name__" → mb x = bootBuiltins x) (hlim : s₁.heap.NoLimit)
    (hgen : s₁.gens = #[]) (ha : s₁.heap.get? a = some { cls := .type "list", data := .seq vs.toArray }) (hi : IntsAre vs ns) (hl : ns.length ≤ sizeLine) (hr : Room k callerA)
    (F : ∀ base : Heap, K.In base → base.Ns mainGlobals mg → FnG True P w K mg base k fa fd [x] sp) (bnd : ∀ (s : Shared) (u : Value), BindsTo s fd ⟨[u], []⟩ [(x, u)])
    (hsp : ∀ H : Hp, Only H → SqL K H a (ns.map V.int) → sp [.ref a] H (fun v _ => v = .bl true) fun _ _ _ => False) :
    codeAny (model P w) callerA (.call (.ref fa) ⟨[.ref a], []⟩) (fun r s' => r = .ok (.ret (.bool true)) ∧ OldK s₁.heap s'.heap ∧ s'.os = s₁.os ∧ AllBare s'.gens) s₁ := by
  have rv := vals_ints hi
  have ln := hi.length
  cases hk : K.lookup a with
  | some o =>
    have e := KX a o hk
    rw [ha] at e
    cases e
    have S : SqL K (fun _ => none) a (ns.map V.int) := .inr ⟨_, vs.toArray, _, hk, rfl, rfl, rfl, by rw [List.size_toArray, ln]; exact hl, by simpa using rv⟩
    exact law_core KX hns hb hbb hlim hgen ha hr F bnd _ (fun _ => .inl rfl) (hsp _ (fun _ => .inl rfl) S) (fun b u z => nomatch (show (none : Option HO) = some u from z)) (fun b z => absurd rfl z) fun z => absurd rfl z
  | none =>
    let H : Hp := fun b => if b = a then some (.frz { cls := .type "list", data := .seq vs.toArray } (.lst (ns.map V.int))) else none
    have Ha : H a = some (.frz { cls := .type "list", data := .seq vs.toArray } (.lst (ns.map V.int))) := if_pos rfl
    have Hn : ∀ b, b ≠ a → H b = none := fun b z => if_neg z
    have only : Only H := fun b => by
      by_cases z : b = a
      · subst z
        exact .inr ⟨_, _, Ha⟩
      · exact .inl (Hn b z)
    refine law_core KX hns hb hbb hlim hgen ha hr F bnd H only (hsp H only (.inl (.inr ⟨_, Ha⟩))) (fun b u z => ?_) (fun b z => ?_) fun _ => hk
    · by_cases e : b = a
      · subst e
        rw [Ha] at z
        cases z
        exact ⟨ha, by rw [List.length_map]; exact hl, vs, _, rv, ha⟩
      · rw [Hn b e] at z
        cases z
    · by_cases e : b = a
      · exact e
      · exact absurd (Hn b e) z
end
/-- a law's row: the promise of its def for every script, with the script's bits -/
theorem walk_ofG {l : PySem.W.OpenLaw} {n k : Nat} {q : Program} {loose : List Str} {XP : (Str → Option Value) → Heap → Prop} {YP : World → Heap → Prop} {d : DefRec} {x : Str}
    (hn : l.most = some n) (hn2 : n ≤ sizeLine) (hdf : d.params.defaults = []) (hr : Room k callerA)
    (F : ∀ (w : World) (mg : Str → Option Value) (fa : Addr) (h : Heap), YP w h → h.Ns mainGlobals mg → mg d.name = some (.ref fa) →
      ∃ (K : PySem.W.Frag) (fd : FuncData) (sp : Sp), K.In h ∧ (∀ (s : Shared) (u : Value), BindsTo s fd ⟨[u], []⟩ [(x, u)]) ∧
        (∀ (H : Hp) (a : Addr) (ns : List Int), ns.length ≤ n → (∀ z ∈ ns, Builtin.Int.intBits z ≤ 1048576) → Only H → SqL K H a (ns.map V.int) → sp [.ref a] H (fun v _ => v = .bl true) fun _ _ _ => False) ∧
        ∀ base : Heap, K.In base → base.Ns mainGlobals mg → FnG True l.prog w K mg base k fa fd [x] sp) :
    PySem.W.WalkO q loose XP YP l.row.toRowW d [] (fun f vs => PySem.call f vs) := by
  refine Att.attach_callB hn hdf fun w s₀ s₁ mg mb fa o pm cd doc a vs ns G Y ho hd hcd hmg hobj hints hlen hbits hgn => ?_
  obtain ⟨K, fd, sp, KX, bnd, hsp, hF⟩ := F w mg fa _ Y G.T.g hmg
  exact law_callG KX G.T.g G.T.b G.T.builtins G.T.nolimit hgn hobj hints (Nat.le_trans hlen hn2) hr hF bnd fun H hO hS => hsp H a ns hlen hbits hO hS
end Z

/-! Z, part five: data: equality and repr. -/
namespace Z
open PySem PySem.Spec PyProof.Rows L2

/-- greater than what the laws draw -/
def big : Nat := 2 ^ 1200
/-! ### data that is fine: ints that aren't too great, texts, no dicts -/
mutual
def fine : PyData → Bool
  | .none | .bool _ => true
  | .int i => decide (i.natAbs < big)
  | .str x => PyData.canLay0 (.str x) && x.cps.toList.all fun c => decide (c < 16 ^ 8)
  | .list l | .tuple l => fines l
  | .dict _ => false
def fines : List PyData → Bool
  | [] => true
  | d :: l => fine d && fines l
end
theorem fines_iff : ∀ {l : List PyData}, fines l = true ↔ ∀ d ∈ l, fine d = true
  | [] => by simp [fines]
  | d :: l => by
    rw [fines, Bool.and_eq_true, fines_iff (l := l)]
    simp
theorem fines_ints {ns : List Int} (h : ∀ n ∈ ns, n.natAbs < big) : fines (ns.map PyData.int) = true := by
  rw [fines_iff]
  intro d hd
  obtain ⟨n, hn, rfl⟩ := List.mem_map.mp hd
  exact decide_eq_true (h n hn)
mutual
theorem fine_lay : ∀ d : PyData, fine d = true → d.canLay0 = true
  | .none, _ | .bool _, _ | .int _, _ => rfl
  | .str x, h => by
    simp only [fine, Bool.and_eq_true] at h
    exact h.1
  | .list l, h | .tuple l, h => by
    simp only [fine] at h
    simpa only [PyData.canLay0] using fines_lay l h
  | .dict _, h => by simp only [fine] at h; cases h
theorem fines_lay : ∀ l : List PyData, fines l = true → PyData.canLayAll0 l = true
  | [], _ => rfl
  | d :: l, h => by
    simp only [fines, Bool.and_eq_true] at h
    simp only [PyData.canLayAll0, Bool.and_eq_true]
    exact ⟨fine_lay d h.1, fines_lay l h.2⟩
end
theorem two_ten : big < 10 ^ 398 := by decide +kernel
mutual
theorem fine_show : ∀ d : PyData, fine d = true → d.showable = true
  | .none, _ | .bool _, _ | .str _, _ => by simp only [PyData.showable]
  | .int i, h => by
    simp only [fine, decide_eq_true_eq] at h
    simp only [PyData.showable, decide_eq_true_eq]
    exact Nat.lt_trans (PySem.Flt.log2_lt_of (k := 1200) (by decide) h) (by decide)
  | .list l, h | .tuple l, h => by
    simp only [fine] at h
    simpa only [PyData.showable] using fines_show l h
  | .dict _, h => by simp only [fine] at h; cases h
theorem fines_show : ∀ l : List PyData, fines l = true → PyData.showableAll l = true
  | [], _ => rfl
  | d :: l, h => by
    simp only [fines, Bool.and_eq_true] at h
    simp only [PyData.showableAll, Bool.and_eq_true]
    exact ⟨fine_show d h.1, fines_show l h.2⟩
end
mutual
theorem fine_dict : ∀ d : PyData, fine d = true → d.hasDict = false
  | .none, _ | .bool _, _ | .str _, _ | .int _, _ => by simp only [PyData.hasDict]
  | .list l, h | .tuple l, h => by
    simp only [fine] at h
    simpa only [PyData.hasDict] using fines_dict l h
  | .dict _, h => by simp only [fine] at h; cases h
theorem fines_dict : ∀ l : List PyData, fines l = true → PyData.hasDictAll l = false
  | [], _ => rfl
  | d :: l, h => by
    simp only [fines, Bool.and_eq_true] at h
    simp only [PyData.hasDictAll, fine_dict d h.1, fines_dict l h.2, Bool.or_false]
end
theorem int_len {i : Int} (h : i.natAbs < big) : (PyData.shown (.int i)).length ≤ 400 := by
  have e := int_text_length_le10 (k := 398) (by decide) (Nat.lt_trans h two_ten)
  show (Str.ofString (toString i)).length ≤ 400
  rw [PySem.ofString_length]
  omega
mutual
theorem fine_short : ∀ d : PyData, fine d = true → d.leavesShort 400 = true
  | .none, _ | .bool _, _ => by simp only [PyData.leavesShort]
  | .int i, h => by
    simp only [fine, decide_eq_true_eq] at h
    simp only [PyData.leavesShort, decide_eq_true_eq]
    exact int_len h
  | .str x, h => by
    simp only [fine, Bool.and_eq_true] at h
    simpa only [PyData.leavesShort] using h.2
  | .list l, h | .tuple l, h => by
    simp only [fine] at h
    simpa only [PyData.leavesShort] using fines_short l h
  | .dict _, h => by simp only [fine] at h; cases h
theorem fines_short : ∀ l : List PyData, fines l = true → PyData.leavesShortAll 400 l = true
  | [], _ => by simp only [PyData.leavesShortAll]
  | d :: l, h => by
    simp only [fines, Bool.and_eq_true] at h
    simp only [PyData.leavesShortAll, Bool.and_eq_true]
    exact ⟨fine_short d h.1, fines_short l h.2⟩
end
/-- fine, not too deep, not too much -/
structure Neat (d : PyData) : Prop where
  f : fine d = true
  dp : d.depth ≤ 40
  bk : d.bulk ≤ 40000
theorem Neat.shaped {d : PyData} (h : Neat d) : SeqAt.shaped d = true := by
  unfold SeqAt.shaped
  rw [Bool.and_eq_true, decide_eq_true_eq]
  exact ⟨fine_lay d h.f, Nat.le_trans h.dp (by decide)⟩
theorem Neat.fits {d : PyData} (h : Neat d) : d.shown.length ≤ sizeLine := by
  have z := PyData.shown_le_bulk 400 (by decide) d (fine_short d h.f)
  have k := h.bk
  rw [sizeLine_eq]
  omega
theorem Neat.refl {d : PyData} (h : Neat d) : PyData.eqv d d = true := SeqAt.eqv_refl d (fine_lay d h.f)
theorem depth_ints (ns : List Int) : PyData.depthAll (ns.map PyData.int) = 0 := by
  induction ns with
  | nil => simp [PyData.depthAll]
  | cons n r ih => simp [PyData.depthAll, PyData.depth, ih]
theorem bulk_ints (ns : List Int) : PyData.bulkAll (ns.map PyData.int) = ns.length := by
  induction ns with
  | nil => simp [PyData.bulkAll]
  | cons n r ih => simp [PyData.bulkAll, PyData.bulk, ih]; omega
theorem neat_ints {ns : List Int} (h : ∀ n ∈ ns, n.natAbs < big) (l : ns.length ≤ 40000) : Neat (.list (ns.map PyData.int)) :=
  ⟨by simp only [fine]; exact fines_ints h, by simp only [PyData.depth, depth_ints]; omega, by simp only [PyData.bulk, bulk_ints]; exact l⟩
theorem shaped_ints (ns : List Int) : SeqAt.shaped (.list (ns.map PyData.int)) = true := by
  unfold SeqAt.shaped
  rw [Bool.and_eq_true, decide_eq_true_eq]
  refine ⟨?_, by simp only [PyData.depth, depth_ints]; omega⟩
  simp only [PyData.canLay0]
  induction ns with
  | nil => rfl
  | cons n r ih => simp only [List.map_cons, PyData.canLayAll0, PyData.canLay0, Bool.true_and]; exact ih
theorem eqv_ints : ∀ ns ms : List Int, PyData.eqv (.list (ns.map PyData.int)) (.list (ms.map PyData.int)) = decide (ns = ms) := by
  have key : ∀ ns ms : List Int, PyData.eqvAll (ns.map PyData.int) (ms.map PyData.int) = decide (ns = ms) := by
    intro ns
    induction ns with
    | nil => intro ms; cases ms <;> simp [PyData.eqvAll]
    | cons n r ih =>
      intro ms
      cases ms with
      | nil => simp [PyData.eqvAll]
      | cons m q =>
        simp only [List.map_cons, PyData.eqvAll, PyData.eqv, ih q, List.cons.injEq, Bool.decide_and]
        rfl
  intro ns ms
  simp only [PyData.eqv]
  exact key ns ms
section
variable {K : PySem.W.Frag} {H : Hp} {Q : VK} {p q : Addr} {ns ms : List Int} {d e : PyData} {x y : V}
theorem i_neLI (h1 : H p = some (.lst (ns.map V.int))) (h2 : H q = some (.lst (ms.map V.int))) (k : Q (.bl (!decide (ns = ms))) H) : rNeU K (.ref p) (.ref q) H Q :=
  i_neD (dp_lints h1) (dp_lints h2) (shaped_ints ns) (shaped_ints ms) (by rw [eqv_ints]; exact k)
theorem i_eqLI (h1 : H p = some (.lst (ns.map V.int))) (h2 : H q = some (.lst (ms.map V.int))) (k : Q (.bl (decide (ns = ms))) H) : rEqU K (.ref p) (.ref q) H Q :=
  i_eqD (dp_lints h1) (dp_lints h2) (shaped_ints ns) (shaped_ints ms) (by rw [eqv_ints]; exact k)
/-- the same data on both sides -/
theorem i_neDD (h1 : Dp K H x d) (h2 : Dp K H y d) (n : Neat d) (k : Q (.bl false) H) : rNeU K x y H Q := i_neD h1 h2 n.shaped n.shaped (by rw [n.refl]; exact k)
theorem i_eqDD (h1 : Dp K H x d) (h2 : Dp K H y d) (n : Neat d) (k : Q (.bl true) H) : rEqU K x y H Q := i_eqD h1 h2 n.shaped n.shaped (by rw [n.refl]; exact k)
end

/-! ### repr -/
def rRepr (K : PySem.W.Frag) : List V → Hp → VK → Prop := fun vs H Q => ∃ x d, vs = [x] ∧ Dp K H x d ∧ Neat d ∧ Q (.str d.shown) H
theorem crepr {X : Cx} {k : Nat} {g : Prop} (hr : Room k X.A) (gd : Gd g X.A) (hg : g) : CallR X (.builtin "repr") (rRepr X.K) := by
  intro pins s σ H vs us Q I r h
  obtain ⟨x, d, rfl, hd, n, q⟩ := h
  obtain ⟨u, rfl, rx⟩ := Vals.one r
  obtain ⟨as, hr'⟩ := Dp.reads I d x u hd rx
  have l1 : d.shown.length ≤ sizeLine := n.fits
  cases hd with
  | non =>
    cases rx
    exact PySem.P.repr_of_none ⟨.str _, H, I.tok _, ⟨_, rfl⟩, q⟩
  | bl b =>
    cases rx
    exact PySem.P.repr_of_bool ⟨.str _, H, I.tok _, ⟨_, rfl⟩, q⟩
  | int i =>
    obtain ⟨t, rfl⟩ := rx
    have f := n.f
    simp only [fine, decide_eq_true_eq] at f
    exact PySem.P.repr_of_int (Nat.lt_trans (PySem.Flt.log2_lt_of (k := 1200) (by decide) f) (by decide)) ⟨.str _, H, I.tok _, ⟨_, rfl⟩, q⟩
  | str z =>
    obtain ⟨t, rfl⟩ := rx
    exact PySem.P.repr_of_str ⟨.str _, H, I.tok _, ⟨_, rfl⟩, q⟩ l1
  | lst hs ha =>
    cases rx
    exact repr_of_reads' hr' (fine_show _ n.f) (fun z => by rw [fine_dict _ n.f] at z; cases z) (gd hg) (by have := n.dp; have := hr.un; omega) (fun _ _ e => e)
      (fun h' u tk hk => ⟨.str _, H, I.kept (t' := tk) hk, ⟨_, rfl⟩, q⟩) n.fits
  | tup hs ha =>
    cases rx
    exact repr_of_reads' hr' (fine_show _ n.f) (fun z => by rw [fine_dict _ n.f] at z; cases z) (gd hg) (by have := n.dp; have := hr.un; omega) (fun _ _ e => e)
      (fun h' u tk hk => ⟨.str _, H, I.kept (t' := tk) hk, ⟨_, rfl⟩, q⟩) n.fits
theorem creprK {X : Cx} {k : Nat} {g : Prop} (K : PySem.W.Frag) (h : X.K = K) (hr : Room k X.A) (gd : Gd g X.A) (hg : g) : CallR X (.builtin "repr") (rRepr K) := h ▸ crepr hr gd hg
end Z

/-! Z, part six: lists of ints; rows of like things. -/
namespace Z
open PySem PySem.Spec PyProof.Rows L2

section
variable {K : PySem.W.Frag} {H : Hp} {Q : VK} {i j a : Int} {p q : Addr} {ns ms : List Int}
theorem i_addLI (h1 : H p = some (.lst (ns.map V.int))) (h2 : H q = some (.lst (ms.map V.int))) (z : ns.length + ms.length ≤ 1000000) (h : ∀ r H', New H r (.lst ((ns ++ ms).map V.int)) H' → Q (.ref r) H') : rAdd K (.ref p) (.ref q) H Q :=
  i_addL h1 h2 (by rw [List.length_map, List.length_map, sizeLine_eq]; omega) (by rw [← List.map_append]; exact h)
theorem i_addL1 (h1 : H p = some (.lst (ns.map V.int))) (h2 : H q = some (.lst [V.int a])) (z : ns.length + 1 ≤ 1000000) (h : ∀ r H', New H r (.lst ((ns ++ [a]).map V.int)) H' → Q (.ref r) H') : rAdd K (.ref p) (.ref q) H Q :=
  i_addLI (ms := [a]) h1 h2 z h
theorem i_mulLI (h1 : H p = some (.lst [V.int a])) (z : -1000000 ≤ j ∧ j ≤ 1000000) (h : ∀ r H', New H r (.lst ((List.replicate j.toNat a).map V.int)) H' → Q (.ref r) H') : rMul K (.ref p) (.int j) H Q := by
  refine i_mulL h1 (by omega) (by omega) (by rw [sizeLine_eq, List.length_singleton]; omega) ?_
  have e : (List.replicate j.toNat [V.int a]).flatten = (List.replicate j.toNat a).map V.int := by
    induction j.toNat with
    | zero => rfl
    | succ n ih => rw [List.replicate_succ, List.flatten_cons, ih, List.replicate_succ]; rfl
  rw [e]; exact h
end
theorem i_lenLI {K : PySem.W.Frag} {H : Hp} {Q : VK} {p : Addr} {ns : List Int} (h : H p = some (.lst (ns.map V.int))) (q : Q (.int (ns.length : Nat)) H) : rLenU K [V.ref p] H Q := i_lenL h (by rw [List.length_map]; exact q)
theorem i_lenQI {K : PySem.W.Frag} {H : Hp} {Q : VK} {p : Addr} {ns : List Int} (h : SqL K H p (ns.map V.int)) (q : Q (.int (ns.length : Nat)) H) : rLenU K [V.ref p] H Q := i_lenQ h (by rw [List.length_map]; exact q)
/-- item by item -/
def All2 {α β : Type} (R : α → β → Prop) (xs : List α) (ys : List β) : Prop := xs.length = ys.length ∧ ∀ (i : Nat) x y, xs[i]? = some x → ys[i]? = some y → R x y
section
variable {α β : Type} {R S : α → β → Prop} {xs xs' : List α} {ys ys' : List β} {x : α} {y : β} {i : Nat}
theorem All2.nil : All2 R [] [] := ⟨rfl, fun _ _ _ h => by simp at h⟩
theorem All2.len (h : All2 R xs ys) : xs.length = ys.length := h.1
theorem All2.mono (h : All2 R xs ys) (m : ∀ x y, R x y → S x y) : All2 S xs ys := ⟨h.1, fun i x y a b => m x y (h.2 i x y a b)⟩
theorem All2.app (h : All2 R xs ys) (h' : All2 R xs' ys') : All2 R (xs ++ xs') (ys ++ ys') := by
  refine ⟨by rw [List.length_append, List.length_append, h.1, h'.1], fun i x y a b => ?_⟩
  by_cases l : i < xs.length
  · rw [List.getElem?_append_left l] at a
    rw [List.getElem?_append_left (h.1 ▸ l)] at b
    exact h.2 i x y a b
  · rw [List.getElem?_append_right (by omega)] at a
    rw [List.getElem?_append_right (by have := h.1; omega), ← h.1] at b
    exact h'.2 _ x y a b
theorem All2.one (h : R x y) : All2 R [x] [y] := by
  refine ⟨rfl, fun i a b e e' => ?_⟩
  cases i with
  | zero => cases e; cases e'; exact h
  | succ n => simp at e
theorem All2.snoc (h : All2 R xs ys) (h' : R x y) : All2 R (xs ++ [x]) (ys ++ [y]) := h.app (.one h')
theorem All2.cons (h' : R x y) (h : All2 R xs ys) : All2 R (x :: xs) (y :: ys) := (All2.one h').app h
theorem All2.get (h : All2 R xs ys) (e : xs[i]? = some x) : ∃ y, ys[i]? = some y ∧ R x y := by
  have l := (List.getElem?_eq_some_iff.mp e).1
  have e' : ys[i]? = some (ys[i]'(h.1 ▸ l)) := by simp
  exact ⟨_, e', h.2 i _ _ e e'⟩
theorem All2.get' (h : All2 R xs ys) (e : ys[i]? = some y) : ∃ x, xs[i]? = some x ∧ R x y := by
  have l := (List.getElem?_eq_some_iff.mp e).1
  have e' : xs[i]? = some (xs[i]'(h.1 ▸ l)) := by simp
  exact ⟨_, e', h.2 i _ _ e' e⟩
theorem All2.uncons (h : All2 R (x :: xs) (y :: ys)) : R x y ∧ All2 R xs ys :=
  ⟨h.2 0 x y rfl rfl, by have := h.1; simp at this; exact this, fun i a b e e' => h.2 (i + 1) a b (by simpa using e) (by simpa using e')⟩
theorem All2.nil_of (h : All2 R xs ([] : List β)) : xs = [] := List.eq_nil_of_length_eq_zero h.1
theorem All2.cons_of (h : All2 R xs (y :: ys)) : ∃ x xs', xs = x :: xs' ∧ R x y ∧ All2 R xs' ys := by
  cases xs with
  | nil => cases h.1
  | cons x xs' => exact ⟨x, xs', rfl, h.uncons.1, h.uncons.2⟩
theorem All2.mem (h : All2 R xs ys) (e : x ∈ xs) : ∃ y, y ∈ ys ∧ R x y := by
  obtain ⟨i, hi⟩ := List.getElem?_of_mem e
  obtain ⟨y, hy, r⟩ := h.get hi
  exact ⟨y, List.mem_of_getElem? hy, r⟩
end
/-- objects of unlike kinds stand apart -/
theorem ne_tl {H : Hp} {a b : Addr} {xs ys : List V} (h : H a = some (.tup xs)) (h' : H b = some (.lst ys)) : a ≠ b := fun e => by subst e; rw [h] at h'; cases h'
theorem ne_lt {H : Hp} {a b : Addr} {xs ys : List V} (h : H a = some (.lst xs)) (h' : H b = some (.tup ys)) : a ≠ b := fun e => by subst e; rw [h] at h'; cases h'
theorem ne_il {H : Hp} {a b C dx : Addr} {fs : List (Str × V)} {ys : List V} (h : H a = some (.ins C dx fs)) (h' : H b = some (.lst ys)) : a ≠ b := fun e => by subst e; rw [h] at h'; cases h'
theorem ne_it {H : Hp} {a b C dx : Addr} {fs : List (Str × V)} {ys : List V} (h : H a = some (.ins C dx fs)) (h' : H b = some (.tup ys)) : a ≠ b := fun e => by subst e; rw [h] at h'; cases h'
/-- a tuple of a count and a number -/
def IsPair (H : Hp) (v : V) (t : Nat × Int) : Prop := ∃ r, v = .ref r ∧ H r = some (.tup [.int (t.1 : Nat), .int t.2])
section
variable {H H' : Hp} {v : V} {t : Nat × Int} {D : Addr} {o : HO} {xs : List V}
theorem IsPair.same (h : IsPair H v t) (s : Same H H') : IsPair H' v t := by
  obtain ⟨r, e, h⟩ := h
  exact ⟨r, e, s _ _ h⟩
theorem IsPair.up (h : IsPair H v t) (u : Up H D o H') (hD : H D = some (.lst xs)) : IsPair H' v t := by
  obtain ⟨r, e, h⟩ := h
  exact ⟨r, e, u.get (ne_tl h hD) h⟩
end
end Z
namespace Z
open PySem PySem.Spec PyProof.Rows L2
theorem IsPair.but {H H' : Hp} {v : V} {t : Nat × Int} {D : Addr} {xs : List V} (h : IsPair H v t) (b : But D H H') (hD : H D = some (.lst xs)) : IsPair H' v t := by
  obtain ⟨r, e, h⟩ := h
  exact ⟨r, e, b.get (ne_tl h hD) h⟩
/-- the list of f's values -/
def fl (f : Nat → Int) (n : Nat) : List V := ((List.range n).map f).map V.int
theorem fl_len (f : Nat → Int) (n : Nat) : (fl f n).length = n := by unfold fl; rw [List.length_map, List.length_map, List.length_range]
theorem fl_get (f : Nat → Int) {n i : Nat} (h : i < n) : (fl f n)[i]? = some (.int (f i)) := by
  unfold fl
  rw [List.getElem?_map, List.getElem?_map, List.getElem?_range h]; rfl
theorem fl_congr {f g : Nat → Int} {n : Nat} (h : ∀ i, i < n → f i = g i) : fl f n = fl g n := by
  unfold fl
  congr 1
  exact List.map_congr_left fun k hk => h k (List.mem_range.mp hk)
theorem fl_set (f : Nat → Int) (n i : Nat) (c : Int) : (fl f n).set i (.int c) = fl (fun p => if p = i then c else f p) n := by
  refine List.ext_getElem? fun j => ?_
  by_cases l : j < n
  · rw [fl_get _ l, List.getElem?_set]
    by_cases e : i = j
    · subst e
      rw [if_pos rfl, if_pos (by rw [fl_len]; exact l), if_pos rfl]
    · rw [if_neg e, fl_get _ l, if_neg (Ne.symm e)]
  · rw [List.getElem?_eq_none (by rw [List.length_set, fl_len]; omega), List.getElem?_eq_none (by rw [fl_len]; omega)]
theorem fl_zero (n : Nat) : (List.replicate n (0 : Int)).map V.int = fl (fun _ => 0) n := by
  unfold fl
  rw [List.map_const', List.length_range]
end Z
namespace Z
open PySem PySem.Spec PyProof.Rows L2
theorem ixN_nat {n k : Nat} (h : k < n) : ixN n (k : Int) = some k := by
  unfold ixN
  rw [if_pos (by omega)]
  rw [if_pos (by omega)]
  exact congrArg some (by omega)
end Z
namespace Z
open PySem PySem.Spec PyProof.Rows L2
section
variable {K : PySem.W.Frag} {H : Hp} {g : TG} {tb : TZ} {tt : TT} {te : TE} {vs : List Nat} {nx : L2.St → Hp → Prop} {rt : VK} {σ : L2.St} {Q : VK} {n : Nat}
theorem loop_range0 (Pv : Nat → L2.St → Hp → Prop) (h0 : Pv 0 σ H) (hs : ∀ i σ H, i < n → Pv i σ H → g (.int (i : Nat)) σ H fun σ2 H2 => tb (Pv (i + 1)) rt nx (Pv (i + 1)) σ2 H2) (hd : ∀ σ H, Pv n σ H → nx σ H) :
    zLoop (Itr 0 n) g tb nx rt σ H := loop_range Pv h0 (fun i σ H a b => by rw [Int.zero_add]; exact hs i σ H a b) hd
theorem comp_range0 (G : Nat → List V → Hp → Prop) (h0 : ∀ D H', New H D (.lst []) H' → G 0 [] H')
    (hs : ∀ D i acc H2, H D = none → i < n → H2 D = some (.lst acc) → G i acc H2 → g (.int (i : Nat)) (wipe σ vs) H2 fun σ2 H3 => wipe σ2 vs = wipe σ vs ∧ tt σ2 H3 fun b H4 =>
      if b = true then te σ2 H4 fun y H5 => zEnd D (G (i + 1)) y H5 else zSkip D (G (i + 1)) H4)
    (hd : ∀ D acc H2, H D = none → H2 D = some (.lst acc) → G n acc H2 → Q (.ref D) H2) : zComp (Itr 0 n) g tt te vs σ H Q :=
  comp_range G h0 (fun D i acc H2 a b c d => by rw [Int.zero_add]; exact hs D i acc H2 a b c d) hd
end
theorem fl_snoc (f : Nat → Int) (n : Nat) : fl f n ++ [.int (f n)] = fl f (n + 1) := by
  unfold fl
  rw [List.range_succ, List.map_append, List.map_append]; rfl
end Z
namespace Z
open PySem PySem.Spec PyProof.Rows L2
/-! ### isinstance of built-in kinds -/
theorem cisi {X : Cx} : CallR X (.builtin "isinstance") (rIsi X.K) := call_isi
theorem cisiK {X : Cx} (K : PySem.W.Frag) (h : X.K = K) : CallR X (.builtin "isinstance") (rIsi K) := h ▸ cisi
def rIsiG (K : PySem.W.Frag) : List V → Hp → VK → Prop := rIsi K
theorem i_isi0 {K : PySem.W.Frag} {H : Hp} {Q : VK} {xs : List V} (h : rIsiG K xs H Q) : rIsi K xs H Q := h
theorem i_isi {K : PySem.W.Frag} {H : Hp} {Q : VK} {x : V} {a n : String} {b : Bool} (ty : TyX K H x (.type a)) (e : kitB a n = some b) (q : Q (.bl b) H) : rIsi K [x, .ty n] H Q := ⟨x, .ty n, .type a, .type n, b, rfl, .ty n, ty, kit_ty e, q⟩
theorem kb_I_int : kitB "int" "int" = some true := by decide +kernel
theorem isi_I_int {K : PySem.W.Frag} {H : Hp} {Q : VK} {i : Int} (q : Q (.bl true) H) : rIsiG K [V.int i, .ty "int"] H Q := i_isi (TyX.base (TyOf.int i)) kb_I_int q
theorem kb_I_bool : kitB "int" "bool" = some false := by decide +kernel
theorem isi_I_bool {K : PySem.W.Frag} {H : Hp} {Q : VK} {i : Int} (q : Q (.bl false) H) : rIsiG K [V.int i, .ty "bool"] H Q := i_isi (TyX.base (TyOf.int i)) kb_I_bool q
theorem kb_I_str : kitB "int" "str" = some false := by decide +kernel
theorem isi_I_str {K : PySem.W.Frag} {H : Hp} {Q : VK} {i : Int} (q : Q (.bl false) H) : rIsiG K [V.int i, .ty "str"] H Q := i_isi (TyX.base (TyOf.int i)) kb_I_str q
theorem kb_I_list : kitB "int" "list" = some false := by decide +kernel
theorem isi_I_list {K : PySem.W.Frag} {H : Hp} {Q : VK} {i : Int} (q : Q (.bl false) H) : rIsiG K [V.int i, .ty "list"] H Q := i_isi (TyX.base (TyOf.int i)) kb_I_list q
theorem kb_I_tuple : kitB "int" "tuple" = some false := by decide +kernel
theorem isi_I_tuple {K : PySem.W.Frag} {H : Hp} {Q : VK} {i : Int} (q : Q (.bl false) H) : rIsiG K [V.int i, .ty "tuple"] H Q := i_isi (TyX.base (TyOf.int i)) kb_I_tuple q
theorem kb_I_dict : kitB "int" "dict" = some false := by decide +kernel
theorem isi_I_dict {K : PySem.W.Frag} {H : Hp} {Q : VK} {i : Int} (q : Q (.bl false) H) : rIsiG K [V.int i, .ty "dict"] H Q := i_isi (TyX.base (TyOf.int i)) kb_I_dict q
theorem kb_B_int : kitB "bool" "int" = some true := by decide +kernel
theorem isi_B_int {K : PySem.W.Frag} {H : Hp} {Q : VK} {k : Bool} (q : Q (.bl true) H) : rIsiG K [V.bl k, .ty "int"] H Q := i_isi (TyX.base (TyOf.bl k)) kb_B_int q
theorem kb_B_bool : kitB "bool" "bool" = some true := by decide +kernel
theorem isi_B_bool {K : PySem.W.Frag} {H : Hp} {Q : VK} {k : Bool} (q : Q (.bl true) H) : rIsiG K [V.bl k, .ty "bool"] H Q := i_isi (TyX.base (TyOf.bl k)) kb_B_bool q
theorem kb_B_str : kitB "bool" "str" = some false := by decide +kernel
theorem isi_B_str {K : PySem.W.Frag} {H : Hp} {Q : VK} {k : Bool} (q : Q (.bl false) H) : rIsiG K [V.bl k, .ty "str"] H Q := i_isi (TyX.base (TyOf.bl k)) kb_B_str q
theorem kb_B_list : kitB "bool" "list" = some false := by decide +kernel
theorem isi_B_list {K : PySem.W.Frag} {H : Hp} {Q : VK} {k : Bool} (q : Q (.bl false) H) : rIsiG K [V.bl k, .ty "list"] H Q := i_isi (TyX.base (TyOf.bl k)) kb_B_list q
theorem kb_B_tuple : kitB "bool" "tuple" = some false := by decide +kernel
theorem isi_B_tuple {K : PySem.W.Frag} {H : Hp} {Q : VK} {k : Bool} (q : Q (.bl false) H) : rIsiG K [V.bl k, .ty "tuple"] H Q := i_isi (TyX.base (TyOf.bl k)) kb_B_tuple q
theorem kb_B_dict : kitB "bool" "dict" = some false := by decide +kernel
theorem isi_B_dict {K : PySem.W.Frag} {H : Hp} {Q : VK} {k : Bool} (q : Q (.bl false) H) : rIsiG K [V.bl k, .ty "dict"] H Q := i_isi (TyX.base (TyOf.bl k)) kb_B_dict q
theorem kb_S_int : kitB "str" "int" = some false := by decide +kernel
theorem isi_S_int {K : PySem.W.Frag} {H : Hp} {Q : VK} {a : Str} (q : Q (.bl false) H) : rIsiG K [V.str a, .ty "int"] H Q := i_isi (TyX.base (TyOf.str a)) kb_S_int q
theorem kb_S_bool : kitB "str" "bool" = some false := by decide +kernel
theorem isi_S_bool {K : PySem.W.Frag} {H : Hp} {Q : VK} {a : Str} (q : Q (.bl false) H) : rIsiG K [V.str a, .ty "bool"] H Q := i_isi (TyX.base (TyOf.str a)) kb_S_bool q
theorem kb_S_str : kitB "str" "str" = some true := by decide +kernel
theorem isi_S_str {K : PySem.W.Frag} {H : Hp} {Q : VK} {a : Str} (q : Q (.bl true) H) : rIsiG K [V.str a, .ty "str"] H Q := i_isi (TyX.base (TyOf.str a)) kb_S_str q
theorem kb_S_list : kitB "str" "list" = some false := by decide +kernel
theorem isi_S_list {K : PySem.W.Frag} {H : Hp} {Q : VK} {a : Str} (q : Q (.bl false) H) : rIsiG K [V.str a, .ty "list"] H Q := i_isi (TyX.base (TyOf.str a)) kb_S_list q
theorem kb_S_tuple : kitB "str" "tuple" = some false := by decide +kernel
theorem isi_S_tuple {K : PySem.W.Frag} {H : Hp} {Q : VK} {a : Str} (q : Q (.bl false) H) : rIsiG K [V.str a, .ty "tuple"] H Q := i_isi (TyX.base (TyOf.str a)) kb_S_tuple q
theorem kb_S_dict : kitB "str" "dict" = some false := by decide +kernel
theorem isi_S_dict {K : PySem.W.Frag} {H : Hp} {Q : VK} {a : Str} (q : Q (.bl false) H) : rIsiG K [V.str a, .ty "dict"] H Q := i_isi (TyX.base (TyOf.str a)) kb_S_dict q
theorem kb_N_int : kitB "NoneType" "int" = some false := by decide +kernel
theorem isi_N_int {K : PySem.W.Frag} {H : Hp} {Q : VK} (q : Q (.bl false) H) : rIsiG K [V.non, .ty "int"] H Q := i_isi (TyX.base TyOf.non) kb_N_int q
theorem kb_N_bool : kitB "NoneType" "bool" = some false := by decide +kernel
theorem isi_N_bool {K : PySem.W.Frag} {H : Hp} {Q : VK} (q : Q (.bl false) H) : rIsiG K [V.non, .ty "bool"] H Q := i_isi (TyX.base TyOf.non) kb_N_bool q
theorem kb_N_str : kitB "NoneType" "str" = some false := by decide +kernel
theorem isi_N_str {K : PySem.W.Frag} {H : Hp} {Q : VK} (q : Q (.bl false) H) : rIsiG K [V.non, .ty "str"] H Q := i_isi (TyX.base TyOf.non) kb_N_str q
theorem kb_N_list : kitB "NoneType" "list" = some false := by decide +kernel
theorem isi_N_list {K : PySem.W.Frag} {H : Hp} {Q : VK} (q : Q (.bl false) H) : rIsiG K [V.non, .ty "list"] H Q := i_isi (TyX.base TyOf.non) kb_N_list q
theorem kb_N_tuple : kitB "NoneType" "tuple" = some false := by decide +kernel
theorem isi_N_tuple {K : PySem.W.Frag} {H : Hp} {Q : VK} (q : Q (.bl false) H) : rIsiG K [V.non, .ty "tuple"] H Q := i_isi (TyX.base TyOf.non) kb_N_tuple q
theorem kb_N_dict : kitB "NoneType" "dict" = some false := by decide +kernel
theorem isi_N_dict {K : PySem.W.Frag} {H : Hp} {Q : VK} (q : Q (.bl false) H) : rIsiG K [V.non, .ty "dict"] H Q := i_isi (TyX.base TyOf.non) kb_N_dict q
theorem kb_L_int : kitB "list" "int" = some false := by decide +kernel
theorem isi_L_int {K : PySem.W.Frag} {H : Hp} {Q : VK} {p : Addr} {xs : List V} (h : H p = some (.lst xs)) (q : Q (.bl false) H) : rIsiG K [V.ref p, .ty "int"] H Q := i_isi (TyX.base (TyOf.lst h)) kb_L_int q
theorem kb_L_bool : kitB "list" "bool" = some false := by decide +kernel
theorem isi_L_bool {K : PySem.W.Frag} {H : Hp} {Q : VK} {p : Addr} {xs : List V} (h : H p = some (.lst xs)) (q : Q (.bl false) H) : rIsiG K [V.ref p, .ty "bool"] H Q := i_isi (TyX.base (TyOf.lst h)) kb_L_bool q
theorem kb_L_str : kitB "list" "str" = some false := by decide +kernel
theorem isi_L_str {K : PySem.W.Frag} {H : Hp} {Q : VK} {p : Addr} {xs : List V} (h : H p = some (.lst xs)) (q : Q (.bl false) H) : rIsiG K [V.ref p, .ty "str"] H Q := i_isi (TyX.base (TyOf.lst h)) kb_L_str q
theorem kb_L_list : kitB "list" "list" = some true := by decide +kernel
theorem isi_L_list {K : PySem.W.Frag} {H : Hp} {Q : VK} {p : Addr} {xs : List V} (h : H p = some (.lst xs)) (q : Q (.bl true) H) : rIsiG K [V.ref p, .ty "list"] H Q := i_isi (TyX.base (TyOf.lst h)) kb_L_list q
theorem kb_L_tuple : kitB "list" "tuple" = some false := by decide +kernel
theorem isi_L_tuple {K : PySem.W.Frag} {H : Hp} {Q : VK} {p : Addr} {xs : List V} (h : H p = some (.lst xs)) (q : Q (.bl false) H) : rIsiG K [V.ref p, .ty "tuple"] H Q := i_isi (TyX.base (TyOf.lst h)) kb_L_tuple q
theorem kb_L_dict : kitB "list" "dict" = some false := by decide +kernel
theorem isi_L_dict {K : PySem.W.Frag} {H : Hp} {Q : VK} {p : Addr} {xs : List V} (h : H p = some (.lst xs)) (q : Q (.bl false) H) : rIsiG K [V.ref p, .ty "dict"] H Q := i_isi (TyX.base (TyOf.lst h)) kb_L_dict q
theorem kb_T_int : kitB "tuple" "int" = some false := by decide +kernel
theorem isi_T_int {K : PySem.W.Frag} {H : Hp} {Q : VK} {p : Addr} {xs : List V} (h : H p = some (.tup xs)) (q : Q (.bl false) H) : rIsiG K [V.ref p, .ty "int"] H Q := i_isi (TyX.base (TyOf.tup h)) kb_T_int q
theorem kb_T_bool : kitB "tuple" "bool" = some false := by decide +kernel
theorem isi_T_bool {K : PySem.W.Frag} {H : Hp} {Q : VK} {p : Addr} {xs : List V} (h : H p = some (.tup xs)) (q : Q (.bl false) H) : rIsiG K [V.ref p, .ty "bool"] H Q := i_isi (TyX.base (TyOf.tup h)) kb_T_bool q
theorem kb_T_str : kitB "tuple" "str" = some false := by decide +kernel
theorem isi_T_str {K : PySem.W.Frag} {H : Hp} {Q : VK} {p : Addr} {xs : List V} (h : H p = some (.tup xs)) (q : Q (.bl false) H) : rIsiG K [V.ref p, .ty "str"] H Q := i_isi (TyX.base (TyOf.tup h)) kb_T_str q
theorem kb_T_list : kitB "tuple" "list" = some false := by decide +kernel
theorem isi_T_list {K : PySem.W.Frag} {H : Hp} {Q : VK} {p : Addr} {xs : List V} (h : H p = some (.tup xs)) (q : Q (.bl false) H) : rIsiG K [V.ref p, .ty "list"] H Q := i_isi (TyX.base (TyOf.tup h)) kb_T_list q
theorem kb_T_tuple : kitB "tuple" "tuple" = some true := by decide +kernel
theorem isi_T_tuple {K : PySem.W.Frag} {H : Hp} {Q : VK} {p : Addr} {xs : List V} (h : H p = some (.tup xs)) (q : Q (.bl true) H) : rIsiG K [V.ref p, .ty "tuple"] H Q := i_isi (TyX.base (TyOf.tup h)) kb_T_tuple q
theorem kb_T_dict : kitB "tuple" "dict" = some false := by decide +kernel
theorem isi_T_dict {K : PySem.W.Frag} {H : Hp} {Q : VK} {p : Addr} {xs : List V} (h : H p = some (.tup xs)) (q : Q (.bl false) H) : rIsiG K [V.ref p, .ty "dict"] H Q := i_isi (TyX.base (TyOf.tup h)) kb_T_dict q
theorem kb_D_int : kitB "dict" "int" = some false := by decide +kernel
theorem isi_D_int {K : PySem.W.Frag} {H : Hp} {Q : VK} {p : Addr} {xs : List (Key × V)} (h : H p = some (.dK xs)) (q : Q (.bl false) H) : rIsiG K [V.ref p, .ty "int"] H Q := i_isi (TyX.base (TyOf.dK h)) kb_D_int q
theorem kb_D_bool : kitB "dict" "bool" = some false := by decide +kernel
theorem isi_D_bool {K : PySem.W.Frag} {H : Hp} {Q : VK} {p : Addr} {xs : List (Key × V)} (h : H p = some (.dK xs)) (q : Q (.bl false) H) : rIsiG K [V.ref p, .ty "bool"] H Q := i_isi (TyX.base (TyOf.dK h)) kb_D_bool q
theorem kb_D_str : kitB "dict" "str" = some false := by decide +kernel
theorem isi_D_str {K : PySem.W.Frag} {H : Hp} {Q : VK} {p : Addr} {xs : List (Key × V)} (h : H p = some (.dK xs)) (q : Q (.bl false) H) : rIsiG K [V.ref p, .ty "str"] H Q := i_isi (TyX.base (TyOf.dK h)) kb_D_str q
theorem kb_D_list : kitB "dict" "list" = some false := by decide +kernel
theorem isi_D_list {K : PySem.W.Frag} {H : Hp} {Q : VK} {p : Addr} {xs : List (Key × V)} (h : H p = some (.dK xs)) (q : Q (.bl false) H) : rIsiG K [V.ref p, .ty "list"] H Q := i_isi (TyX.base (TyOf.dK h)) kb_D_list q
theorem kb_D_tuple : kitB "dict" "tuple" = some false := by decide +kernel
theorem isi_D_tuple {K : PySem.W.Frag} {H : Hp} {Q : VK} {p : Addr} {xs : List (Key × V)} (h : H p = some (.dK xs)) (q : Q (.bl false) H) : rIsiG K [V.ref p, .ty "tuple"] H Q := i_isi (TyX.base (TyOf.dK h)) kb_D_tuple q
theorem kb_D_dict : kitB "dict" "dict" = some true := by decide +kernel
theorem isi_D_dict {K : PySem.W.Frag} {H : Hp} {Q : VK} {p : Addr} {xs : List (Key × V)} (h : H p = some (.dK xs)) (q : Q (.bl true) H) : rIsiG K [V.ref p, .ty "dict"] H Q := i_isi (TyX.base (TyOf.dK h)) kb_D_dict q
end Z
namespace Z
open PySem PySem.Spec PyProof.Rows L2
theorem i_repr {K : PySem.W.Frag} {H : Hp} {Q : VK} {x : V} {d : PyData} (h : Dp K H x d) (n : Neat d) (q : Q (.str d.shown) H) : rRepr K [x] H Q := ⟨x, d, rfl, h, n, q⟩
theorem lay_ints (ns : List Int) : PyData.canLay0 (.list (ns.map PyData.int)) = true := by
  have h := shaped_ints ns
  unfold SeqAt.shaped at h
  rw [Bool.and_eq_true] at h
  exact h.1
theorem shaped_two (ns ms : List Int) : SeqAt.shaped (.list [.list (ns.map PyData.int), .list (ms.map PyData.int)]) = true := by
  unfold SeqAt.shaped
  rw [Bool.and_eq_true, decide_eq_true_eq]
  refine ⟨?_, by simp only [PyData.depth, PyData.depthAll, depth_ints]; omega⟩
  simp only [PyData.canLay0, PyData.canLayAll0, Bool.and_eq_true, and_true]
  exact ⟨by simpa only [PyData.canLay0] using lay_ints ns, by simpa only [PyData.canLay0] using lay_ints ms⟩
theorem shaped_refl {d : PyData} (h : SeqAt.shaped d = true) : PyData.eqv d d = true := by
  unfold SeqAt.shaped at h
  rw [Bool.and_eq_true] at h
  exact SeqAt.eqv_refl d h.1
theorem i_neDS {K : PySem.W.Frag} {H : Hp} {Q : VK} {x y : V} {d : PyData} (h1 : Dp K H x d) (h2 : Dp K H y d) (s : SeqAt.shaped d = true) (k : Q (.bl false) H) : rNeU K x y H Q := i_neD h1 h2 s s (by rw [shaped_refl s]; exact k)
theorem i_eqDS {K : PySem.W.Frag} {H : Hp} {Q : VK} {x y : V} {d : PyData} (h1 : Dp K H x d) (h2 : Dp K H y d) (s : SeqAt.shaped d = true) (k : Q (.bl true) H) : rEqU K x y H Q := i_eqD h1 h2 s s (by rw [shaped_refl s]; exact k)
theorem dp_two {K : PySem.W.Frag} {H : Hp} {p q r : Addr} {ns ms : List Int} (h : H r = some (.lst [.ref p, .ref q])) (h1 : H p = some (.lst (ns.map V.int))) (h2 : H q = some (.lst (ms.map V.int))) :
    Dp K H (.ref r) (.list [.list (ns.map PyData.int), .list (ms.map PyData.int)]) := dp_lst h (.cons (dp_lints h1) (.cons (dp_lints h2) .nil))
theorem neat_two {ns ms : List Int} (h1 : ∀ n ∈ ns, n.natAbs < big) (h2 : ∀ n ∈ ms, n.natAbs < big) (l1 : ns.length ≤ 10000) (l2 : ms.length ≤ 10000) : Neat (.list [.list (ns.map PyData.int), .list (ms.map PyData.int)]) :=
  ⟨by simp only [fine, fines, Bool.and_eq_true, and_true]; exact ⟨fines_ints h1, fines_ints h2⟩, by simp only [PyData.depth, PyData.depthAll, depth_ints]; omega,
    by simp only [PyData.bulk, PyData.bulkAll, bulk_ints]; omega⟩
end Z
namespace Z
open PySem PySem.Spec PyProof.Rows L2
theorem i_rng1L {H : Hp} {R : It → Hp → Prop} {j : Int} (n : Nat) (e : j = (n : Int)) (h : n ≤ 1000000) (q : R (Itr 0 n) H) : zR1 [V.int j] H R := by
  subst e
  exact i_rng1N h q
end Z
namespace Z
theorem ifT {b : Bool} {A B : Prop} (e : b = true) (a : A) : if b = true then A else B := by rw [if_pos e]; exact a
theorem ifF {b : Bool} {A B : Prop} (e : b = false) (a : B) : if b = true then A else B := by rw [if_neg (by rw [e]; decide)]; exact a
end Z
namespace Z
open PySem PySem.Spec PyProof.Rows L2
theorem dp_tints {K : PySem.W.Frag} {H : Hp} {p : Addr} {ns : List Int} (h : H p = some (.tup (ns.map V.int))) : Dp K H (.ref p) (.tuple (ns.map PyData.int)) := .tup (SqT.of h) (dp_ints ns)
theorem shaped_tints (ns : List Int) : SeqAt.shaped (.tuple (ns.map PyData.int)) = true := by
  have h := shaped_ints ns
  unfold SeqAt.shaped at h ⊢
  rw [Bool.and_eq_true, decide_eq_true_eq] at h ⊢
  exact ⟨by simpa only [PyData.canLay0] using h.1, by simpa only [PyData.depth] using h.2⟩
theorem eqv_tints (ns ms : List Int) : PyData.eqv (.tuple (ns.map PyData.int)) (.tuple (ms.map PyData.int)) = decide (ns = ms) := by
  have h := eqv_ints ns ms
  simp only [PyData.eqv] at h ⊢
  exact h
section
variable {K : PySem.W.Frag} {H : Hp} {Q : VK} {p q : Addr} {ns ms : List Int}
theorem i_neTI (h1 : H p = some (.tup (ns.map V.int))) (h2 : H q = some (.tup (ms.map V.int))) (k : Q (.bl (!decide (ns = ms))) H) : rNeU K (.ref p) (.ref q) H Q :=
  i_neD (dp_tints h1) (dp_tints h2) (shaped_tints ns) (shaped_tints ms) (by rw [eqv_tints]; exact k)
theorem i_eqTI (h1 : H p = some (.tup (ns.map V.int))) (h2 : H q = some (.tup (ms.map V.int))) (k : Q (.bl (decide (ns = ms))) H) : rEqU K (.ref p) (.ref q) H Q :=
  i_eqD (dp_tints h1) (dp_tints h2) (shaped_tints ns) (shaped_tints ms) (by rw [eqv_tints]; exact k)
/-- [row] against [row] -/
theorem dp_one {r : Addr} (h : H r = some (.lst [.ref p])) (h1 : H p = some (.lst (ns.map V.int))) : Dp K H (.ref r) (.list [.list (ns.map PyData.int)]) := dp_lst h (.cons (dp_lints h1) .nil)
end
theorem shaped_one (ns : List Int) : SeqAt.shaped (.list [.list (ns.map PyData.int)]) = true := by
  unfold SeqAt.shaped
  rw [Bool.and_eq_true, decide_eq_true_eq]
  refine ⟨?_, by simp only [PyData.depth, PyData.depthAll, depth_ints]; omega⟩
  simp only [PyData.canLay0, PyData.canLayAll0, Bool.and_eq_true, and_true]
  simpa only [PyData.canLay0] using lay_ints ns
end Z
namespace Z
open PySem PySem.Spec PyProof.Rows L2
theorem i_lenTI {K : PySem.W.Frag} {H : Hp} {Q : VK} {p : Addr} {ns : List Int} (h : H p = some (.tup (ns.map V.int))) (q : Q (.int (ns.length : Nat)) H) : rLenU K [V.ref p] H Q := i_lenT h (by rw [List.length_map]; exact q)
end Z

/-! Z: classes and their instances. -/
namespace Z
open PySem PySem.Spec PyProof.Rows L2

/-! ### a method by the receiver's class -/
structure MA where
  C : Addr
  n : Nat
  gV : PySem.W.Frag → List V → List V → List V
  sp : Sp
/-- the class at M.C has for the name m a def with this promise -/
abbrev MtM (g : Prop) (X : Cx) (m : Str) (ks : List Str) (M : MA) : Prop := Mt g X M.C m M.n ks M.gV M.sp
section
variable {g : Prop} {X : Cx} {m : Str} {ks : List Str}
theorem ms_nil : ∀ M ∈ ([] : List MA), MtM g X m ks M := fun _ h => by cases h
theorem ms_cons {C : Addr} {n : Nat} {gV : PySem.W.Frag → List V → List V → List V} {sp : Sp} {Ms : List MA} (h : Mt g X C m n ks gV sp) (r : ∀ M ∈ Ms, MtM g X m ks M) : ∀ M ∈ (⟨C, n, gV, sp⟩ : MA) :: Ms, MtM g X m ks M := fun M hM => by
  rcases List.mem_cons.mp hM with rfl | hM
  · exact h
  · exact r M hM
theorem mt_of {C f : Addr} {k n : Nat} {d : He.DefD} {ps : List Str} {gV : PySem.W.Frag → List V → List V → List V} {sp : Sp} (c : Cls X.K C) (me : Meth X.K C m f) (F : Pr g X.prog X.w X.K X.mg X.base k f d ps sp) (b : Bd d ps n ks gV) (hr : Room k X.A) (hgd : Gd g X.A) :
    Mt g X C m n ks gV sp := ⟨c, k, f, d, ps, me, F, b, hr, hgd⟩
end
/-- the reading, behind the receiver -/
def zM1 (K : PySem.W.Frag) (m : Str) (kn : Nat) (E : XK) (Ms : List MA) (t tk : TA) (x : V) (σ : L2.St) (H1 : Hp) (Q : VK) : Prop :=
  ∃ (M : MA) (a dx : Addr) (fs : List (Str × V)), M ∈ Ms ∧ x = .ref a ∧ H1 a = some (.ins M.C dx fs) ∧ fs.lookup m = none ∧ t σ H1 fun vs H2 => tk σ H2 fun zs H3 => (V.ref a :: vs).length = M.n ∧ zs.length = kn ∧ M.sp (M.gV K (.ref a :: vs) zs) H3 Q E
def zM (K : PySem.W.Frag) (m : Str) (kn : Nat) (E : XK) (Ms : List MA) (ta : TE) (t tk : TA) : TE := fun σ H Q => ta σ H fun x H1 => zM1 K m kn E Ms t tk x σ H1 Q
section
variable {g : Prop} {X : Cx} {m : Str} {ks : List Str} {Ms : List MA} {E : XK} {o e : Expr} {es : List Expr} {kws : List Keyword} {ta : TE} {t tk : TA} {apos pos : Pos}
theorem pe_M {pl : Sem Bool} (hM : ∀ M ∈ Ms, MtM g X m [] M) (hx : Passes (L2.CX X.prog X.w) X E) (he : PE X o ta) (ha : PA X (e :: es) t)
    (hst : starEach (e :: es) X.env = (false, eval e X.env) :: starEach es X.env := by rfl) (hpl : (backTo pos (starEach es X.env)).any (·.1) = false := by rfl)
    (ht : eval (.Call (.Attribute o m apos) (e :: es) [] pos) X.env = (do
      let ov ← eval o X.env; standAt apos.atName
      let (f, first) ← holding [ov] (getMethod ov m pl); callWith pos f first (backTo pos (starEach (e :: es) X.env)) (backToKw pos (keywordEach [] X.env))) := by rfl) :
    PE X (.Call (.Attribute o m apos) (e :: es) [] pos) (zM X.K m 0 E Ms ta t tNil) := by
  refine ⟨fun pins s σ H Q I h => ?_⟩
  refine PySem.W.methodCall_KW (pl := pl) (thn (he.run pins s σ H _ I h) fun u s1 ⟨x, H1, I1, rx, M, a, dx, fs, hm0, ex, ea, l, q⟩ => ?_) ht
  subst ex
  obtain rfl : u = Value.ref a := rx
  have M1 := hM M hm0
  obtain ⟨k, f, d, ps, hm, F, hb, hr, hgd⟩ := M1.ex
  obtain ⟨fd, FD, OK⟩ := F.ex
  obtain ⟨gg, B⟩ := hb _ _ _ FD
  refine getmeth_ok I1 ea M1.cl hm l ?_
  refine PySem.W.callWith_K (first := [.ref a]) (h₀ := X.base) I.ok.mod.kin hm.kp ?_ hst hpl
  refine thn (ha.run pos pins s1 σ H1 _ I1 q) fun us s2 ⟨vs, H2, I2, r, l1, l2, q2⟩ => ⟨I2.kIn, ?_⟩
  exact run_g (us := .ref a :: us) (vs := .ref a :: vs) (ws := []) (zs := []) (ks := []) OK hr hgd B hx I2 (.cons rfl r) .nil l1 l2 q2
theorem pe_M0 {pl : Sem Bool} (hM : ∀ M ∈ Ms, MtM g X m [] M) (hx : Passes (L2.CX X.prog X.w) X E) (he : PE X o ta)
    (ht : eval (.Call (.Attribute o m apos) [] [] pos) X.env = (do
      let ov ← eval o X.env; standAt apos.atName
      let (f, first) ← holding [ov] (getMethod ov m pl); callWith pos f first (backTo pos (starEach [] X.env)) (backToKw pos (keywordEach [] X.env))) := by rfl) :
    PE X (.Call (.Attribute o m apos) [] [] pos) (zM X.K m 0 E Ms ta tNil tNil) := by
  refine ⟨fun pins s σ H Q I h => ?_⟩
  refine PySem.W.methodCall_KW (pl := pl) (thn (he.run pins s σ H _ I h) fun u s1 ⟨x, H1, I1, rx, M, a, dx, fs, hm0, ex, ea, l, l1, l2, q⟩ => ?_) ht
  subst ex
  obtain rfl : u = Value.ref a := rx
  have M1 := hM M hm0
  obtain ⟨k, f, d, ps, hm, F, hb, hr, hgd⟩ := M1.ex
  obtain ⟨fd, FD, OK⟩ := F.ex
  obtain ⟨gg, B⟩ := hb _ _ _ FD
  refine getmeth_ok I1 ea M1.cl hm l ?_
  exact PySem.W.callWith_K0 (first := [.ref a]) I1.kIn hm.kp (run_g (us := [.ref a]) (vs := [.ref a]) (ws := []) (zs := []) (ks := []) OK hr hgd B hx I1 (.cons rfl .nil) .nil l1 l2 q)
theorem pe_Mk {pl : Sem Bool} (hM : ∀ M ∈ Ms, MtM g X m ks M) (hx : Passes (L2.CX X.prog X.w) X E) (he : PE X o ta) (ha : PA X (e :: es) t) (hkw : PK X kws tk)
    (hall : (backToKw pos (keywordEach kws X.env)).all (·.1.isSome) = true := by rfl) (hks : (backToKw pos (keywordEach kws X.env)).filterMap (·.1) = ks := by rfl)
    (hst : starEach (e :: es) X.env = (false, eval e X.env) :: starEach es X.env := by rfl)
    (hpl : ((backTo pos (starEach (e :: es) X.env)).any (·.1) || (backToKw pos (keywordEach kws X.env)).any (·.1.isNone)) = false := by rfl)
    (ht : eval (.Call (.Attribute o m apos) (e :: es) kws pos) X.env = (do
      let ov ← eval o X.env; standAt apos.atName
      let (f, first) ← holding [ov] (getMethod ov m pl); callWith pos f first (backTo pos (starEach (e :: es) X.env)) (backToKw pos (keywordEach kws X.env))) := by rfl) :
    PE X (.Call (.Attribute o m apos) (e :: es) kws pos) (zM X.K m ks.length E Ms ta t tk) := by
  refine ⟨fun pins s σ H Q I h => ?_⟩
  refine PySem.W.methodCall_KW (pl := pl) (thn (he.run pins s σ H _ I h) fun u s1 ⟨x, H1, I1, rx, M, a, dx, fs, hm0, ex, ea, l, q⟩ => ?_) ht
  subst ex
  obtain rfl : u = Value.ref a := rx
  have M1 := hM M hm0
  obtain ⟨k, f, d, ps, hm, F, hb, hr, hgd⟩ := M1.ex
  obtain ⟨fd, FD, OK⟩ := F.ex
  obtain ⟨gg, B⟩ := hb _ _ _ FD
  refine getmeth_ok I1 ea M1.cl hm l ?_
  refine PySem.W.callWith_KW (first := [.ref a]) (h₀ := X.base) I.ok.mod.kin hm.kp hall ?_ hpl hst
  refine thn (ha.run pos pins s1 σ H1 _ I1 q) fun us s2 ⟨vs, H2, I2, r, q2⟩ => ?_
  refine thn (hkw.run pos pins s2 σ H2 _ I2 q2) fun ws s3 ⟨zs, H3, I3, rz, l1, l2, q3⟩ => ⟨I3.kIn, ?_⟩
  rw [hks]
  exact run_g (us := .ref a :: us) (vs := .ref a :: vs) OK hr hgd B hx I3 (.cons rfl r) rz l1 l2 q3
theorem pe_Mk0 {pl : Sem Bool} (hM : ∀ M ∈ Ms, MtM g X m ks M) (hx : Passes (L2.CX X.prog X.w) X E) (he : PE X o ta) (hkw : PK X kws tk)
    (hall : (backToKw pos (keywordEach kws X.env)).all (·.1.isSome) = true := by rfl) (hks : (backToKw pos (keywordEach kws X.env)).filterMap (·.1) = ks := by rfl)
    (hpl : ((backTo pos (starEach [] X.env)).any (·.1) || (backToKw pos (keywordEach kws X.env)).any (·.1.isNone)) = false := by rfl)
    (ht : eval (.Call (.Attribute o m apos) [] kws pos) X.env = (do
      let ov ← eval o X.env; standAt apos.atName
      let (f, first) ← holding [ov] (getMethod ov m pl); callWith pos f first (backTo pos (starEach [] X.env)) (backToKw pos (keywordEach kws X.env))) := by rfl) :
    PE X (.Call (.Attribute o m apos) [] kws pos) (zM X.K m ks.length E Ms ta tNil tk) := by
  refine ⟨fun pins s σ H Q I h => ?_⟩
  refine PySem.W.methodCall_KW (pl := pl) (thn (he.run pins s σ H _ I h) fun u s1 ⟨x, H1, I1, rx, M, a, dx, fs, hm0, ex, ea, l, q⟩ => ?_) ht
  subst ex
  obtain rfl : u = Value.ref a := rx
  have M1 := hM M hm0
  obtain ⟨k, f, d, ps, hm, F, hb, hr, hgd⟩ := M1.ex
  obtain ⟨fd, FD, OK⟩ := F.ex
  obtain ⟨gg, B⟩ := hb _ _ _ FD
  refine getmeth_ok I1 ea M1.cl hm l ?_
  refine PySem.W.callWith_KW0 (first := [.ref a]) (h₀ := X.base) I.ok.mod.kin hm.kp hall ?_ hpl
  refine thn (hkw.run pos pins s1 σ H1 _ I1 q) fun ws s3 ⟨zs, H3, I3, rz, l1, l2, q3⟩ => ⟨I3.kIn, ?_⟩
  rw [hks]
  exact run_g (us := [.ref a]) (vs := [.ref a]) OK hr hgd B hx I3 (.cons rfl .nil) rz l1 l2 q3
end
section
variable {K : PySem.W.Frag} {m : Str} {kn : Nat} {E : XK} {Ms : List MA} {ta : TE} {t tk : TA} {σ : L2.St} {H : Hp} {Q : VK} {a dx : Addr} {fs : List (Str × V)}
theorem i_M (h : ta σ H fun x H1 => zM1 K m kn E Ms t tk x σ H1 Q) : zM K m kn E Ms ta t tk σ H Q := h
/-- the receiver's class is the i-th -/
theorem i_Mi (i : Nat) {M : MA} (h : H a = some (.ins M.C dx fs)) (l : fs.lookup m = none) (hi : Ms[i]? = some M)
    (q : t σ H fun vs H2 => tk σ H2 fun zs H3 => (V.ref a :: vs).length = M.n ∧ zs.length = kn ∧ M.sp (M.gV K (.ref a :: vs) zs) H3 Q E) : zM1 K m kn E Ms t tk (.ref a) σ H Q :=
  ⟨M, a, dx, fs, List.mem_of_getElem? hi, rfl, h, l, q⟩
end
/-! ### facts of classes -/
/-- x's m is the def that y's m is -/
def fxM (x m y : Str) : Fx := fun K => He.eqO (PySem.W.findIn K (.ref (He.ga K x)) m) (some (some (.ref (He.ma K (He.ga K y) m)))) && (PySem.W.isFn K (.ref (He.ma K (He.ga K y) m)) && PySem.W.keepIn K (.ref (He.ma K (He.ga K y) m)))
theorem fxM_ok {K : PySem.W.Frag} {x m y : Str} (h : fxM x m y K = true) : Meth K (He.ga K x) m (He.ma K (He.ga K y) m) := by
  obtain ⟨c1, c⟩ := He.ba h
  obtain ⟨c2, c3⟩ := He.ba c
  exact ⟨He.eqO_ok c1, c2, c3⟩
/-- x's m, read off the class, is its def -/
def fxC (x m : Str) : Fx := fun K => PySem.W.readsIn K (He.ga K x) (.type "type") && (He.eqO (PySem.W.specialIn K (.ref (He.ga K x)) "__getattribute__") (some (some (.builtin "type.__getattribute__"))) &&
  ((match PySem.W.findCls K (.ref (He.ga K x)) (.type "type") m with
    | some (.val (.ref f)) => decide (f = He.ma K (He.ga K x) m)
    | _ => false) && PySem.W.keepIn K (.ref (He.ma K (He.ga K x) m))))
structure CFn (K : PySem.W.Frag) (C : Addr) (m : Str) (f : Addr) : Prop where
  rd : ClX.CRead K C (.type "type")
  at_ : PySem.W.findCls K (.ref C) (.type "type") m = some (.val (.ref f))
  kp : PySem.W.keepIn K (.ref f) = true
theorem fxC_ok {K : PySem.W.Frag} {x m : Str} (h : fxC x m K = true) : CFn K (He.ga K x) m (He.ma K (He.ga K x) m) := by
  obtain ⟨c1, c⟩ := He.ba h
  obtain ⟨c2, c⟩ := He.ba c
  obtain ⟨c3, c4⟩ := He.ba c
  refine ⟨⟨c1, He.eqO_ok c2⟩, ?_, c4⟩
  split at c3
  · rename_i f e
    rw [e, of_decide_eq_true c3]
  · cases c3
section
variable {g : Prop} {X : Cx} {k n : Nat} {f C : Addr} {d : He.DefD} {ps : List Str} {gV : PySem.W.Frag → List V → List V → List V} {sp : Sp} {E : XK} {x m : Str} {p apos pos : Pos} {e : Expr} {es : List Expr} {t : TA}
/-- C.m(e, ..) -/
theorem pe_cm {pl : Sem Bool} (F : Pr g X.prog X.w X.K X.mg X.base k f d ps sp) (hr : Room k X.A) (hgd : Gd g X.A) (hg : Gl X x) (hm : X.mg x = some (.ref C)) (c : CFn X.K C m f) (hb : Bd d ps n [] gV) (hx : Passes (L2.CX X.prog X.w) X E)
    (ha : PA X (e :: es) t) (hdb : (x == ("__debug__" : Str)) = false := by decide)
    (hst : starEach (e :: es) X.env = (false, eval e X.env) :: starEach es X.env := by rfl) (hpl : (backTo pos (starEach es X.env)).any (·.1) = false := by rfl)
    (ht : eval (.Call (.Attribute (.Name x p) m apos) (e :: es) [] pos) X.env = (do
      let ov ← eval (.Name x p) X.env; standAt apos.atName
      let (f, first) ← holding [ov] (getMethod ov m pl); callWith pos f first (backTo pos (starEach (e :: es) X.env)) (backToKw pos (keywordEach [] X.env))) := by rfl) :
    PE X (.Call (.Attribute (.Name x p) m apos) (e :: es) [] pos) (zCall X.K n 0 gV sp E t tNil) := by
  obtain ⟨fd, FD, OK⟩ := F.ex
  obtain ⟨gg, B⟩ := hb _ _ _ FD
  refine ⟨fun pins s σ H Q I h => ?_⟩
  refine PySem.W.methodCall_KW (pl := pl) (thn ((pe_glob (v := .ref C) hg hm rfl hdb).run pins s σ H (fun v H1 => v = .ref C ∧ H1 = H) I ⟨rfl, rfl⟩) fun u s1 ⟨v, H1, I1, rx, ev, eh⟩ => ?_) ht
  subst ev eh
  obtain rfl : u = Value.ref C := rx
  refine PySem.W.method_cls I1.kIn c.rd.ga ?_
  refine PySem.W.cls_value I1.kIn c.rd.rd c.at_ (handed_of (v := .ref f) rfl) ?_
  have I2 : Inv X pins σ H1 { s1 with toks := s1.toks + 1 } := I1.tok _
  refine PySem.W.callWith_K (first := []) (h₀ := X.base) I.ok.mod.kin c.kp ?_ hst hpl
  refine thn (ha.run pos pins _ σ H1 _ I2 h) fun us s2 ⟨vs, H2, I3, r, l1, l2, q2⟩ => ⟨I3.kIn, ?_⟩
  exact run_g (ws := []) (zs := []) (ks := []) OK hr hgd B hx I3 r .nil l1 l2 q2
end
/-! ### new instances -/
structure Made (H : Hp) (x dx C : Addr) (H' : Hp) : Prop where
  fr : H x = none
  fd : H dx = none
  ne : dx ≠ x
  eq : H' = upd (upd H dx (.own x)) x (.ins C dx [])
section
variable {H H' : Hp} {x dx C a : Addr} {u : HO}
theorem Made.at (n : Made H x dx C H') : H' x = some (.ins C dx []) := by rw [n.eq]; exact upd_same
theorem Made.get (n : Made H x dx C H') (h : H a = some u) : H' a = some u := by rw [n.eq, upd_ne (ne_of_none h n.fr), upd_ne (ne_of_none h n.fd)]; exact h
theorem Made.same (n : Made H x dx C H') : Same H H' := fun _ _ h => n.get h
end
section
variable {K : PySem.W.Frag} {C : Addr} {n m : Nat} {gV : PySem.W.Frag → List V → List V → List V} {sp : Sp} {E : XK} {t tk : TA} {σ : L2.St} {H : Hp} {Q : VK}
def zMk1 (K : PySem.W.Frag) (C : Addr) (n m : Nat) (gV : PySem.W.Frag → List V → List V → List V) (sp : Sp) (E : XK) (vs zs : List V) (H2 : Hp) (Q : VK) : Prop :=
  vs.length + 1 = n ∧ zs.length = m ∧ ∀ x dx H3, Made H2 x dx C H3 → sp (gV K (.ref x :: vs) zs) H3 (fun v H4 => v = .non ∧ Q (.ref x) H4) E
theorem i_make (h : t σ H fun vs H1 => tk σ H1 fun zs H2 => zMk1 K C n m gV sp E vs zs H2 Q) : zMake K C n m gV sp E t tk σ H Q := by
  show t σ H _
  refine cast (congrArg (t σ H) (funext fun vs => funext fun H1 => congrArg (tk σ H1) (funext fun zs => funext fun H2 => propext ⟨?_, ?_⟩))) h
  · rintro ⟨a, b, c⟩
    exact ⟨a, b, fun x dx f1 f2 ne => c x dx _ ⟨f1, f2, ne, rfl⟩⟩
  · rintro ⟨a, b, c⟩
    exact ⟨a, b, fun x dx H3 z => z.eq ▸ c x dx z.fr z.fd z.ne⟩
theorem i_mk1 {vs zs : List V} (e1 : vs.length + 1 = n) (e2 : zs.length = m) (h : ∀ x dx H3, Made H x dx C H3 → sp (gV K (.ref x :: vs) zs) H3 (fun v H4 => v = .non ∧ Q (.ref x) H4) E) : zMk1 K C n m gV sp E vs zs H Q := ⟨e1, e2, h⟩
end
/-! ### fields -/
section
variable {K : PySem.W.Frag} {ta tv : TE} {f : Str} {nx bk ct : L2.St → Hp → Prop} {rt : VK} {σ : L2.St} {H : Hp} {Q : VK} {a C dx : Addr} {fs : List (Str × V)} {x y v : V}
def zFld1 (K : PySem.W.Frag) (f : Str) (x y : V) (nx : L2.St → Hp → Prop) (σ : L2.St) (H2 : Hp) : Prop := ∃ a C dx fs, x = .ref a ∧ H2 a = some (.ins C dx fs) ∧ Cls K C ∧ NoAttr K C f ∧ fs.length < 1000 ∧ nx σ (upd H2 a (.ins C dx (putF f y fs)))
theorem i_fldS (h : tv σ H fun y H1 => ta σ H1 fun x H2 => zFld1 K f x y nx σ H2) : zFld K ta tv f nx rt bk ct σ H := h
theorem i_fldS1 (h : H a = some (.ins C dx fs)) (c : Cls K C) (n : NoAttr K C f) (l : fs.length.blt 1000 = true) (k : ∀ H', Up H a (.ins C dx (putF f y fs)) H' → nx σ H') : zFld1 K f (.ref a) y nx σ H := ⟨a, C, dx, fs, rfl, h, c, n, by simpa [Nat.blt_eq] using l, k _ ⟨⟨_, h⟩, rfl⟩⟩
def tFld1 (K : PySem.W.Frag) (f : Str) (x : V) (H1 : Hp) (Q : VK) : Prop := ∃ a C dx fs v, x = .ref a ∧ H1 a = some (.ins C dx fs) ∧ Cls K C ∧ NoAttr K C f ∧ fs.lookup f = some v ∧ Q v H1
theorem i_fld (h : ta σ H fun x H1 => tFld1 K f x H1 Q) : tFld K ta f σ H Q := h
theorem i_fld1 (h : H a = some (.ins C dx fs)) (c : Cls K C) (n : NoAttr K C f) (l : fs.lookup f = some v) (q : Q v H) : tFld1 K f (.ref a) H Q := ⟨a, C, dx, fs, v, rfl, h, c, n, l, q⟩
end
/-! ### binding with defaults and keywords -/
/-- those at the places idx -/
def gP {α : Type} (idx : List Nat) (l : List α) : List α := idx.filterMap fun i => l[i]?
theorem vals_at {xs : List V} {us : List Value} (r : Vals xs us) (i : Nat) : (xs[i]? = none ∧ us[i]? = none) ∨ ∃ x u, xs[i]? = some x ∧ us[i]? = some u ∧ RelV x u := by
  cases e : xs[i]? with
  | none =>
    refine .inl ⟨rfl, ?_⟩
    rw [List.getElem?_eq_none_iff] at e ⊢
    rw [← r.length]
    exact e
  | some x =>
    obtain ⟨u, eu, ru⟩ := r.get e
    exact .inr ⟨x, u, rfl, eu, ru⟩
theorem gP_rel {xs : List V} {us : List Value} (r : Vals xs us) : ∀ idx : List Nat, Vals (gP idx xs) (gP idx us)
  | [] => .nil
  | i :: idx => by
    unfold gP
    rw [List.filterMap_cons, List.filterMap_cons]
    rcases vals_at r i with ⟨e1, e2⟩ | ⟨x, u, e1, e2, ru⟩
    · rw [e1, e2]; exact gP_rel r idx
    · rw [e1, e2]; exact .cons ru (gP_rel r idx)
section
variable {d : He.DefD} {ps : List Str} {n : Nat} {ks : List Str}
/-- no defaults at all, but keywords -/
theorem Bd.a (idx : List Nat) (hd : d.dfl = []) (h : ∀ (kV doc pm : Value) (an : Option Addr) (cdv ct : Value) (us ws : List Value), us.length = n → ws.length = ks.length →
      bindArgs (PySem.W.fnOf d.name d.qual d.params d.body d.scope .none kV doc pm an cdv ct) ⟨us, ks.zip ws⟩ = pure (ps.zip (gP idx (us ++ ws)))) : Bd d ps n ks (fun _ vs zs => gP idx (vs ++ zs)) := by
  intro K f fd F
  have e1 : d.dvs K = [] := by unfold He.DefD.dvs; rw [hd]; rfl
  rw [e1] at F
  obtain ⟨oc, od, dV, kV, doc, pm, an, cdv, ct, osl, rfl, lk, hcd, hD, hK⟩ := F.ex
  rcases hD with ⟨_, rfl⟩ | ⟨e, _⟩
  · exact ⟨_, ⟨fun s us ws X l1 l2 => BindsTo.of_looks fun M => PySem.W.Looks.of_pure (h kV doc pm an cdv ct us ws l1 l2), fun r1 r2 => gP_rel (r1.append r2) idx⟩⟩
  · exact absurd rfl e
/-- keyword-only defaults; ms: those that lack -/
theorem Bd.b (ms : List (Str × He.Dv)) (idx : List Nat) (hd : d.dfl = []) (hk : d.kwd ≠ []) (hms : ∀ q ∈ ms, q ∈ d.kwd)
    (h : ∀ (D : Addr) (doc pm : Value) (an : Option Addr) (cdv ct : Value) (us mv ws : List Value), us.length = n → mv.length = ms.length → ws.length = ks.length →
      KwChain D ((ms.map (·.1)).zip mv) (bindArgs (PySem.W.fnOf d.name d.qual d.params d.body d.scope .none (.ref D) doc pm an cdv ct) ⟨us, ks.zip ws⟩) (ps.zip (gP idx (us ++ (mv ++ ws))))) :
    Bd d ps n ks (fun K vs zs => gP idx (vs ++ (ms.map (fun q => q.2.v K) ++ zs))) := by
  intro K f fd F
  have e1 : d.dvs K = [] := by unfold He.DefD.dvs; rw [hd]; rfl
  rw [e1] at F
  have e2 : ((ms.map fun q => (q.1, q.2.v K)).map (·.1)) = ms.map (·.1) := by rw [List.map_map]; rfl
  have e3 : ((ms.map fun q => (q.1, q.2.v K)).map (·.2)) = ms.map fun q => q.2.v K := by rw [List.map_map]; rfl
  obtain ⟨mv, B⟩ := F.kbinds0 (ps := ps) n ks (ms.map fun q => (q.1, q.2.v K)) (fun us mv ws => gP idx (us ++ (mv ++ ws))) (by
      unfold He.DefD.kws
      intro e
      exact hk (List.map_eq_nil_iff.mp e)) (fun q hq => by
      obtain ⟨m, hm, rfl⟩ := List.mem_map.mp hq
      exact List.mem_map_of_mem (hms m hm)) (fun r1 r2 r3 => gP_rel (r1.append (r2.append r3)) idx)
      (fun D doc pm an cdv ct us mv ws l1 l2 l3 => by rw [e2]; exact h D doc pm an cdv ct us mv ws l1 (by rw [l2, List.length_map]) l3)
  rw [e3] at B
  exact ⟨_, B⟩
/-- defaults and keyword-only ones -/
theorem Bd.c (ms : List (Str × He.Dv)) (idx : List Nat) (hd : d.dfl ≠ []) (hk : d.kwd ≠ []) (hms : ∀ q ∈ ms, q ∈ d.kwd)
    (h : ∀ (T D : Addr) (doc pm : Value) (an : Option Addr) (cdv ct : Value) (us its mv ws : List Value), us.length = n → its.length = d.dfl.length → mv.length = ms.length → ws.length = ks.length →
      ∃ k, bindArgs (PySem.W.fnOf d.name d.qual d.params d.body d.scope (.ref T) (.ref D) doc pm an cdv ct) ⟨us, ks.zip ws⟩ = seqItems? (.ref T) >>= k ∧ KwChain D ((ms.map (·.1)).zip mv) (k (some its.toArray)) (ps.zip (gP idx (us ++ (its ++ (mv ++ ws)))))) :
    Bd d ps n ks (fun K vs zs => gP idx (vs ++ (d.dfl.map (fun q => q.v K) ++ (ms.map (fun q => q.2.v K) ++ zs)))) := by
  intro K f fd F
  have e2 : ((ms.map fun q => (q.1, q.2.v K)).map (·.1)) = ms.map (·.1) := by rw [List.map_map]; rfl
  have e3 : ((ms.map fun q => (q.1, q.2.v K)).map (·.2)) = ms.map fun q => q.2.v K := by rw [List.map_map]; rfl
  obtain ⟨its, mv, B⟩ := F.kbinds (ps := ps) n ks (ms.map fun q => (q.1, q.2.v K)) (fun us its mv ws => gP idx (us ++ (its ++ (mv ++ ws)))) (by
      unfold He.DefD.dvs
      intro e
      exact hd (List.map_eq_nil_iff.mp e)) (by
      unfold He.DefD.kws
      intro e
      exact hk (List.map_eq_nil_iff.mp e)) (fun q hq => by
      obtain ⟨m, hm, rfl⟩ := List.mem_map.mp hq
      exact List.mem_map_of_mem (hms m hm)) (fun r1 r2 r3 r4 => gP_rel (r1.append (r2.append (r3.append r4))) idx)
      (fun T D doc pm an cdv ct us its mv ws l1 l2 l3 l4 => by
        rw [e2]
        exact h T D doc pm an cdv ct us its mv ws l1 (by rw [l2]; unfold He.DefD.dvs; rw [List.length_map]) (by rw [l3, List.length_map]) l4)
  rw [e3] at B
  exact ⟨_, B⟩
end
end Z
namespace Z
open PySem PySem.Spec PyProof.Rows L2
section
variable {X : Cx} {K : PySem.W.Frag}
theorem pe_fldK (K : PySem.W.Frag) (h : X.K = K) {e : Expr} {f : Str} {pos : Pos} {ta : TE} (he : PE X e ta) (hb : attributeBase e f X.env (eval e X.env) = eval e X.env) : PE X (.Attribute e f pos) (tFld K ta f) := h ▸ pe_fld he hb
variable {g : Prop} {m : Str} {ks : List Str} {Ms : List MA} {E : XK} {o e : Expr} {es : List Expr} {kws : List Keyword} {ta : TE} {t tk : TA} {apos pos : Pos}
theorem pe_MK {pl : Sem Bool} (K : PySem.W.Frag) (h : X.K = K) (hM : ∀ M ∈ Ms, MtM g X m [] M) (hx : Passes (L2.CX X.prog X.w) X E) (he : PE X o ta) (ha : PA X (e :: es) t)
    (hst : starEach (e :: es) X.env = (false, eval e X.env) :: starEach es X.env := by rfl) (hpl : (backTo pos (starEach es X.env)).any (·.1) = false := by rfl)
    (ht : eval (.Call (.Attribute o m apos) (e :: es) [] pos) X.env = (do
      let ov ← eval o X.env; standAt apos.atName
      let (f, first) ← holding [ov] (getMethod ov m pl); callWith pos f first (backTo pos (starEach (e :: es) X.env)) (backToKw pos (keywordEach [] X.env))) := by rfl) :
    PE X (.Call (.Attribute o m apos) (e :: es) [] pos) (zM K m 0 E Ms ta t tNil) := h ▸ pe_M hM hx he ha hst hpl ht
theorem pe_M0K {pl : Sem Bool} (K : PySem.W.Frag) (h : X.K = K) (hM : ∀ M ∈ Ms, MtM g X m [] M) (hx : Passes (L2.CX X.prog X.w) X E) (he : PE X o ta)
    (ht : eval (.Call (.Attribute o m apos) [] [] pos) X.env = (do
      let ov ← eval o X.env; standAt apos.atName
      let (f, first) ← holding [ov] (getMethod ov m pl); callWith pos f first (backTo pos (starEach [] X.env)) (backToKw pos (keywordEach [] X.env))) := by rfl) :
    PE X (.Call (.Attribute o m apos) [] [] pos) (zM K m 0 E Ms ta tNil tNil) := h ▸ pe_M0 hM hx he ht
theorem pe_MkK {pl : Sem Bool} (K : PySem.W.Frag) (h : X.K = K) (hM : ∀ M ∈ Ms, MtM g X m ks M) (hx : Passes (L2.CX X.prog X.w) X E) (he : PE X o ta) (ha : PA X (e :: es) t) (hkw : PK X kws tk)
    (hall : (backToKw pos (keywordEach kws X.env)).all (·.1.isSome) = true := by rfl) (hks : (backToKw pos (keywordEach kws X.env)).filterMap (·.1) = ks := by rfl)
    (hst : starEach (e :: es) X.env = (false, eval e X.env) :: starEach es X.env := by rfl)
    (hpl : ((backTo pos (starEach (e :: es) X.env)).any (·.1) || (backToKw pos (keywordEach kws X.env)).any (·.1.isNone)) = false := by rfl)
    (ht : eval (.Call (.Attribute o m apos) (e :: es) kws pos) X.env = (do
      let ov ← eval o X.env; standAt apos.atName
      let (f, first) ← holding [ov] (getMethod ov m pl); callWith pos f first (backTo pos (starEach (e :: es) X.env)) (backToKw pos (keywordEach kws X.env))) := by rfl) :
    PE X (.Call (.Attribute o m apos) (e :: es) kws pos) (zM K m ks.length E Ms ta t tk) := h ▸ pe_Mk hM hx he ha hkw hall hks hst hpl ht
theorem pe_Mk0K {pl : Sem Bool} (K : PySem.W.Frag) (h : X.K = K) (hM : ∀ M ∈ Ms, MtM g X m ks M) (hx : Passes (L2.CX X.prog X.w) X E) (he : PE X o ta) (hkw : PK X kws tk)
    (hall : (backToKw pos (keywordEach kws X.env)).all (·.1.isSome) = true := by rfl) (hks : (backToKw pos (keywordEach kws X.env)).filterMap (·.1) = ks := by rfl)
    (hpl : ((backTo pos (starEach [] X.env)).any (·.1) || (backToKw pos (keywordEach kws X.env)).any (·.1.isNone)) = false := by rfl)
    (ht : eval (.Call (.Attribute o m apos) [] kws pos) X.env = (do
      let ov ← eval o X.env; standAt apos.atName
      let (f, first) ← holding [ov] (getMethod ov m pl); callWith pos f first (backTo pos (starEach [] X.env)) (backToKw pos (keywordEach kws X.env))) := by rfl) :
    PE X (.Call (.Attribute o m apos) [] kws pos) (zM K m ks.length E Ms ta tNil tk) := h ▸ pe_Mk0 hM hx he hkw hall hks hpl ht
theorem pi_zipK (K : PySem.W.Frag) (h : X.K = K) {e e2 : Expr} {ta : TA} {p pos tpos : Pos} {elts : List Expr} {kk : Nat} (hg : Gl X "zip") (hm : X.mg "zip" = none) (ha : PA X [e, e2] ta)
    (hs : starEach [e, e2] X.env = (false, eval e X.env) :: starEach [e2] X.env := by rfl) (hpl : (backTo pos (starEach [e2] X.env)).any (·.1) = false := by rfl) :
    PI X (.Tuple elts kk tpos) (.Call (.Name "zip" p) [e, e2] [] pos) (RZ.iZipA K ta) := h ▸ RZ.pi_zipA hg hm ha hs hpl
end
section
variable {K : PySem.W.Frag} {ta tb tc : TE} {r r' : R2} {σ : L2.St} {H : Hp} {Q : VK}
theorem i_chain (h : ta σ H fun x H1 => tb σ H1 fun y H2 => r x y H2 fun z H3 => ∃ k, z = .bl k ∧ (if k = true then tc σ H3 fun w' H4 => r' y w' H4 Q else Q (.bl false) H3)) : tChain r r' ta tb tc σ H Q := h
theorem i_notV (h : ta σ H fun x H1 => ∃ c, x = .bl c ∧ Q (.bl (!c)) H1) : tNotV ta σ H Q := h
theorem ifNT {A B : Prop} (b : B) : if (!true) = true then A else B := ifF rfl b
theorem ifNF {A B : Prop} (a : A) : if (!false) = true then A else B := ifT rfl a
/-! ### zip of two lists, of two tuples -/
def zZiA (K : PySem.W.Frag) (vs : List V) (H1 : Hp) (R : It → Hp → Prop) : Prop := ∃ a b xs ys, vs = [.ref a, .ref b] ∧ ((SqL K H1 a xs ∧ SqL K H1 b ys ∧ R (Itz K a b) H1) ∨ (SqT K H1 a xs ∧ SqT K H1 b ys ∧ R (RZ.ItzT K a b) H1))
theorem i_zipA {t : TA} {R : It → Hp → Prop} (h : t σ H fun vs H1 => zZiA K vs H1 R) : RZ.iZipA K t σ H R := h
theorem i_zipAL {a b : Addr} {xs ys : List V} {R : It → Hp → Prop} (h : SqL K H a xs) (h2 : SqL K H b ys) (q : R (Itz K a b) H) : zZiA K [V.ref a, V.ref b] H R := ⟨a, b, xs, ys, rfl, .inl ⟨h, h2, q⟩⟩
theorem i_zipAT {a b : Addr} {xs ys : List V} {R : It → Hp → Prop} (h : H a = some (.tup xs)) (h2 : H b = some (.tup ys)) (q : R (RZ.ItzT K a b) H) : zZiA K [V.ref a, V.ref b] H R := ⟨a, b, xs, ys, rfl, .inr ⟨SqT.of h, SqT.of h2, q⟩⟩
variable {g : TG} {tt : TT} {te : TE} {vs : List Nat} {a b : Addr} {xs ys : List V}
/-- over zip(tuple, tuple), as far as the shorter one goes -/
theorem comp_zipT (n : Nat) (hn : n = min xs.length ys.length) (G : Nat → List V → Hp → Prop) (h0 : ∀ D H', New H D (.lst []) H' → G 0 [] H') (hl : ∀ i acc H, i ≤ n → G i acc H → SqT K H a xs ∧ SqT K H b ys)
    (hs : ∀ D i acc x y T H2 H2', H D = none → xs[i]? = some x → ys[i]? = some y → H2 D = some (.lst acc) → G i acc H2 → New H2 T (.tup [x, y]) H2' → g (.ref T) (wipe σ vs) H2' fun σ2 H3 => wipe σ2 vs = wipe σ vs ∧ tt σ2 H3 fun b H4 =>
      if b = true then te σ2 H4 fun y H5 => zEnd D (G (i + 1)) y H5 else zSkip D (G (i + 1)) H4)
    (hd : ∀ D acc H2, H D = none → H2 D = some (.lst acc) → G n acc H2 → Q (.ref D) H2) : zComp (RZ.ItzT K a b) g tt te vs σ H Q := by
  refine comp_by n G h0 (fun i acc H hi p => ⟨xs, ys, xs[i]'(by omega), ys[i]'(by omega), (hl i acc H (Nat.le_of_lt hi) p).1, (hl i acc H (Nat.le_of_lt hi) p).2, by simp, by simp⟩)
    (fun acc H p => ⟨xs, ys, (hl _ acc H (Nat.le_refl _) p).1, (hl _ acc H (Nat.le_refl _) p).2, by omega⟩) (fun D i acc x H2 H' fD hi hD p y => ?_) hd
  obtain ⟨T, v, u, rfl, fT, rfl, y1, y2⟩ := y
  have q := hl i acc H2 (Nat.le_of_lt hi) p
  exact hs D i acc v u T H2 _ fD (y1 xs q.1) (y2 ys q.2) hD p ⟨fT, rfl⟩
end
end Z
namespace Z
open PySem PySem.Spec PyProof.Rows L2
theorem fr_made {H H1 H2 : Hp} {p dx C : Addr} (y : Made H1 p dx C H2) (x : Same H H1) : Same H H2 := x.trans y.same
theorem fresh_made {H H1 H2 : Hp} {p dx C : Addr} (n : Made H1 p dx C H2) (s : Same H H1) : H p = none := free_back s n.fr
theorem Made.nei {H H' : Hp} {x dx C a : Addr} {u : HO} (n : Made H x dx C H') (h : H a = some u) : a ≠ x := ne_of_none h n.fr
end Z
namespace Z
open PySem PySem.Spec PyProof.Rows L2
theorem upd_upd {H : Hp} {a : Addr} {o u : HO} : upd (upd H a o) a u = upd H a u := by
  funext b
  by_cases e : b = a
  · subst e; rw [upd_same, upd_same]
  · rw [upd_ne e, upd_ne e, upd_ne e]
end Z
namespace Z
open PySem PySem.Spec PyProof.Rows L2
/-! ### what is walked: a list or a tuple -/
def zItS (K : PySem.W.Frag) (x : V) (H1 : Hp) (R : It → Hp → Prop) : Prop := ∃ a, x = .ref a ∧ (((∃ xs, SqL K H1 a xs) ∧ R (Itl K a) H1) ∨ ((∃ xs, SqT K H1 a xs) ∧ R (Itt K a) H1))
def iSeqS (K : PySem.W.Frag) (tl : TE) : TI := fun σ H R => tl σ H fun x H1 => zItS K x H1 R
theorem pi_seq {X : Cx} {tg l : Expr} {tl : TE} (hl : PE X l tl) : PI X tg l (iSeqS X.K tl) := by
  refine ⟨fun pins s σ H R I h => ?_⟩
  refine thn (hl.run pins s σ H _ I h) fun v s1 ⟨x, H1, I1, r1, q1⟩ => ?_
  obtain ⟨a, e, q⟩ := q1
  subst e
  cases r1
  rcases q with ⟨⟨xs, hq⟩, q⟩ | ⟨⟨xs, hq⟩, q⟩
  · obtain ⟨its, rv, p, hz⟩ := I1.list hq
    refine wpAny_pyIter_list p.isList ?_
    refine ⟨s1.heap.objs.size, [s1.heap.objs.size], _, _, H1, rfl, I1.kept (t' := s1.toks) fun b o e => Heap.get?_push_of_some _ e, turn_list a _, ⟨_, Heap.get?_push_size _ rfl, rfl, rfl⟩, fun b hb => ?_, q⟩
    have e : b = s1.heap.objs.size := by simpa using hb
    subst e
    exact I1.fpOk (Nat.le_refl _) (I1.hok.fresh (Nat.le_refl _))
  · obtain ⟨its, rv, p, hz⟩ := I1.tuple hq
    refine wpAny_pyIter_tuple (show s1.heap.IsTuple a its.toArray from p) ?_
    refine ⟨s1.heap.objs.size, [s1.heap.objs.size], _, _, H1, rfl, I1.kept (t' := s1.toks) fun b o e => Heap.get?_push_of_some _ e, turn_tuple a _, ⟨_, Heap.get?_push_size _ rfl, rfl, rfl⟩, fun b hb => ?_, q⟩
    have e : b = s1.heap.objs.size := by simpa using hb
    subst e
    exact I1.fpOk (Nat.le_refl _) (I1.hok.fresh (Nat.le_refl _))
theorem pi_seqK {X : Cx} (K : PySem.W.Frag) (h : X.K = K) {tg l : Expr} {tl : TE} (hl : PE X l tl) : PI X tg l (iSeqS K tl) := h ▸ pi_seq hl
section
variable {K : PySem.W.Frag} {tl : TE} {σ : L2.St} {H : Hp} {R : It → Hp → Prop} {a : Addr} {xs : List V}
theorem i_iSeqS (h : tl σ H fun x H1 => zItS K x H1 R) : iSeqS K tl σ H R := h
theorem i_sL (h : H a = some (.lst xs)) (q : R (Itl K a) H) : zItS K (.ref a) H R := ⟨a, rfl, .inl ⟨⟨xs, SqL.of h⟩, q⟩⟩
theorem i_sQ (h : SqL K H a xs) (q : R (Itl K a) H) : zItS K (.ref a) H R := ⟨a, rfl, .inl ⟨⟨xs, h⟩, q⟩⟩
theorem i_sT (h : H a = some (.tup xs)) (q : R (Itt K a) H) : zItS K (.ref a) H R := ⟨a, rfl, .inr ⟨⟨xs, SqT.of h⟩, q⟩⟩
end
end Z

/-! Z: data that stands while some objects change. -/
namespace Z
open PySem PySem.Spec PyProof.Rows L2

/-- all but L stands -/
def ButL (L : List Addr) (H H' : Hp) : Prop := ∀ b u, b ∉ L → H b = some u → H' b = some u
/-- L's places are taken -/
def Al (L : List Addr) (H : Hp) : Prop := ∀ b ∈ L, ∃ u, H b = some u
section
variable {L : List Addr} {H H1 H2 H' : Hp} {p D a : Addr} {o u : HO}
theorem ButL.refl : ButL L H H := fun _ _ _ h => h
theorem ButL.trans (x : ButL L H H1) (y : ButL L H1 H2) : ButL L H H2 := fun b u n h => y b u n (x b u n h)
theorem ButL.ofSame (x : Same H H1) : ButL L H H1 := fun b u _ h => x b u h
theorem ButL.ofBut (x : But a H H1) (m : a ∈ L) : ButL L H H1 := fun b u n h => x.get (fun e => n (e ▸ m)) h
theorem ButL.ofUp (x : Up H D o H1) (m : D ∈ L) : ButL L H H1 := .ofBut x.but m
theorem ButL.same (x : ButL L H H1) (y : Same H1 H2) : ButL L H H2 := x.trans (.ofSame y)
theorem ButL.new (x : ButL L H H1) (y : New H1 p o H2) : ButL L H H2 := x.trans (.ofSame y.same)
theorem ButL.but (x : ButL L H H1) (y : But a H1 H2) (m : a ∈ L) : ButL L H H2 := x.trans (.ofBut y m)
theorem ButL.up (x : ButL L H H1) (y : Up H1 D o H2) (m : D ∈ L) : ButL L H H2 := x.trans (.ofUp y m)
theorem ButL.upn (x : ButL L H H1) (y : Up H1 D o H2) (f : H D = none) : ButL L H H2 := fun b u n h => y.get (ne_of_none h f) (x b u n h)
theorem ButL.butn (x : ButL L H H1) (y : But D H1 H2) (f : H D = none) : ButL L H H2 := fun b u n h => y.get (ne_of_none h f) (x b u n h)
theorem ButL.butL {L' : List Addr} (x : ButL L H H1) (y : ButL L' H1 H2) (f : ∀ b ∈ L', b ∈ L ∨ H b = none) : ButL L H H2 := fun b u n h => y b u (fun m => by
  rcases f b m with z | z
  · exact n z
  · rw [h] at z; cases z) (x b u n h)
theorem ButL.toSame (x : ButL L H H1) (f : ∀ b ∈ L, H b = none) : Same H H1 := fun b u h => x b u (fun m => by rw [f b m] at h; cases h) h
theorem ButL.toBut (x : ButL L H H1) (f : ∀ b ∈ L, b = a ∨ H b = none) : But a H H1 := ⟨fun b u n h => x b u (fun m => by
  rcases f b m with z | z
  · exact n z
  · rw [h] at z; cases z) h⟩
theorem Al.nin (x : Al L H) (f : H p = none) : p ∉ L := fun m => by
  obtain ⟨u, h⟩ := x p m
  rw [f] at h; cases h
theorem Al.same (x : Al L H) (s : Same H H1) : Al L H1 := fun b m => by
  obtain ⟨u, h⟩ := x b m
  exact ⟨u, s _ _ h⟩
theorem Al.up (x : Al L H) (s : Up H D o H1) : Al L H1 := fun b m => by
  obtain ⟨u, h⟩ := x b m
  by_cases e : b = D
  · subst e; exact ⟨_, s.at⟩
  · exact ⟨u, s.get e h⟩
theorem Al.but (x : Al L H) (s : But a H H1) (h : H1 a = some o) : Al L H1 := fun b m => by
  obtain ⟨u, hb⟩ := x b m
  by_cases e : b = a
  · subst e; exact ⟨_, h⟩
  · exact ⟨u, s.get e hb⟩
theorem Al.nil : Al [] H := fun _ m => by cases m
theorem Al.cons (h : H a = some o) (x : Al L H) : Al (a :: L) H := fun b m => by
  rcases List.mem_cons.mp m with rfl | m
  · exact ⟨_, h⟩
  · exact x b m
end
/-! ### data that keeps off L -/
mutual
def DA (L : List Addr) (H : Hp) : V → PyData → Prop
  | v, .none => v = .non
  | v, .bool b => v = .bl b
  | v, .int i => v = .int i
  | v, .str x => v = .str x
  | v, .list l => ∃ p vs, v = .ref p ∧ p ∉ L ∧ H p = some (.lst vs) ∧ DAs L H vs l
  | v, .tuple l => ∃ p vs, v = .ref p ∧ p ∉ L ∧ H p = some (.tup vs) ∧ DAs L H vs l
  | _, .dict _ => False
def DAs (L : List Addr) (H : Hp) : List V → List PyData → Prop
  | vs, [] => vs = []
  | vs, d :: ds => ∃ v r, vs = v :: r ∧ DA L H v d ∧ DAs L H r ds
end
section
variable {K : PySem.W.Frag} {L L' : List Addr} {H H' : Hp} {p : Addr} {v : V} {vs ws : List V} {d : PyData} {ds es : List PyData} {ns : List Int}
mutual
theorem DA.dp : ∀ {v : V} {d : PyData}, DA L H v d → Dp K H v d
  | _, .none, h => by simp only [DA] at h; subst h; exact .non
  | _, .bool b, h => by simp only [DA] at h; subst h; exact .bl b
  | _, .int i, h => by simp only [DA] at h; subst h; exact .int i
  | _, .str x, h => by simp only [DA] at h; subst h; exact .str x
  | _, .list l, h => by
    simp only [DA] at h
    obtain ⟨p, vs, rfl, _, h, a⟩ := h
    exact dp_lst h (DAs.dp a)
  | _, .tuple l, h => by
    simp only [DA] at h
    obtain ⟨p, vs, rfl, _, h, a⟩ := h
    exact dp_tup h (DAs.dp a)
  | _, .dict _, h => by simp only [DA] at h
theorem DAs.dp : ∀ {vs : List V} {ds : List PyData}, DAs L H vs ds → DpAll K H vs ds
  | _, [], h => by simp only [DAs] at h; subst h; exact .nil
  | _, d :: ds, h => by
    simp only [DAs] at h
    obtain ⟨v, r, rfl, h, a⟩ := h
    exact .cons (DA.dp h) (DAs.dp a)
end
mutual
theorem DA.mono (b : ButL L H H') : ∀ {v : V} {d : PyData}, DA L H v d → DA L H' v d
  | _, .none, h => by simpa only [DA] using h
  | _, .bool b, h => by simpa only [DA] using h
  | _, .int i, h => by simpa only [DA] using h
  | _, .str x, h => by simpa only [DA] using h
  | _, .list l, h => by
    simp only [DA] at h ⊢
    obtain ⟨p, vs, rfl, n, h, a⟩ := h
    exact ⟨p, vs, rfl, n, b _ _ n h, DAs.mono b a⟩
  | _, .tuple l, h => by
    simp only [DA] at h ⊢
    obtain ⟨p, vs, rfl, n, h, a⟩ := h
    exact ⟨p, vs, rfl, n, b _ _ n h, DAs.mono b a⟩
  | _, .dict _, h => by simp only [DA] at h
theorem DAs.mono (b : ButL L H H') : ∀ {vs : List V} {ds : List PyData}, DAs L H vs ds → DAs L H' vs ds
  | _, [], h => by simpa only [DAs] using h
  | _, d :: ds, h => by
    simp only [DAs] at h ⊢
    obtain ⟨v, r, rfl, h, a⟩ := h
    exact ⟨v, r, rfl, DA.mono b h, DAs.mono b a⟩
end
mutual
theorem DA.less (s : ∀ b ∈ L', b ∈ L) : ∀ {v : V} {d : PyData}, DA L H v d → DA L' H v d
  | _, .none, h => by simpa only [DA] using h
  | _, .bool b, h => by simpa only [DA] using h
  | _, .int i, h => by simpa only [DA] using h
  | _, .str x, h => by simpa only [DA] using h
  | _, .list l, h => by
    simp only [DA] at h ⊢
    obtain ⟨p, vs, rfl, n, h, a⟩ := h
    exact ⟨p, vs, rfl, fun m => n (s _ m), h, DAs.less s a⟩
  | _, .tuple l, h => by
    simp only [DA] at h ⊢
    obtain ⟨p, vs, rfl, n, h, a⟩ := h
    exact ⟨p, vs, rfl, fun m => n (s _ m), h, DAs.less s a⟩
  | _, .dict _, h => by simp only [DA] at h
theorem DAs.less (s : ∀ b ∈ L', b ∈ L) : ∀ {vs : List V} {ds : List PyData}, DAs L H vs ds → DAs L' H vs ds
  | _, [], h => by simpa only [DAs] using h
  | _, d :: ds, h => by
    simp only [DAs] at h ⊢
    obtain ⟨v, r, rfl, h, a⟩ := h
    exact ⟨v, r, rfl, DA.less s h, DAs.less s a⟩
end
theorem DA.same (s : Same H H') (h : DA L H v d) : DA L H' v d := h.mono (.ofSame s)
theorem DAs.same (s : Same H H') (h : DAs L H vs ds) : DAs L H' vs ds := h.mono (.ofSame s)
theorem DAs.nil : DAs L H [] [] := by simp only [DAs]
theorem DAs.cons (h : DA L H v d) (a : DAs L H vs ds) : DAs L H (v :: vs) (d :: ds) := by
  simp only [DAs]
  exact ⟨v, vs, rfl, h, a⟩
theorem DAs.app : ∀ {vs : List V} {ds : List PyData}, DAs L H vs ds → DAs L H ws es → DAs L H (vs ++ ws) (ds ++ es)
  | _, [], h, g => by simp only [DAs] at h; subst h; exact g
  | _, d :: ds, h, g => by
    simp only [DAs] at h
    obtain ⟨v, r, rfl, h, a⟩ := h
    exact .cons h (a.app g)
theorem DAs.snoc (a : DAs L H vs ds) (h : DA L H v d) : DAs L H (vs ++ [v]) (ds ++ [d]) := a.app (.cons h .nil)
theorem DAs.ints : ∀ ns : List Int, DAs L H (ns.map V.int) (ns.map PyData.int)
  | [] => .nil
  | n :: ns => .cons (by simp only [DA]) (DAs.ints ns)
theorem DAs.len : ∀ {vs : List V} {ds : List PyData}, DAs L H vs ds → vs.length = ds.length
  | _, [], h => by simp only [DAs] at h; subst h; rfl
  | _, d :: ds, h => by
    simp only [DAs] at h
    obtain ⟨v, r, rfl, h, a⟩ := h
    rw [List.length_cons, List.length_cons, a.len]
theorem DAs.get : ∀ {vs : List V} {ds : List PyData} {i : Nat} {d : PyData}, DAs L H vs ds → ds[i]? = some d → ∃ v, vs[i]? = some v ∧ DA L H v d
  | _, [], _, _, h, e => by simp at e
  | _, d :: ds, 0, _, h, e => by
    simp only [DAs] at h
    obtain ⟨v, r, rfl, h, a⟩ := h
    cases e
    exact ⟨v, rfl, h⟩
  | _, d :: ds, i + 1, _, h, e => by
    simp only [DAs] at h
    obtain ⟨v, r, rfl, h, a⟩ := h
    exact a.get (i := i) (by simpa using e)
theorem DAs.ints_eq : ∀ {ns : List Int} {vs : List V}, DAs L H vs (ns.map PyData.int) → vs = ns.map V.int
  | [], _, h => by simpa only [List.map_nil, DAs] using h
  | n :: ns, _, h => by
    simp only [List.map_cons, DAs, DA] at h
    obtain ⟨v, r, rfl, rfl, a⟩ := h
    rw [DAs.ints_eq a]; rfl
theorem DA.lst (n : p ∉ L) (h : H p = some (.lst vs)) (a : DAs L H vs ds) : DA L H (.ref p) (.list ds) := by
  simp only [DA]
  exact ⟨p, vs, rfl, n, h, a⟩
theorem DA.tup (n : p ∉ L) (h : H p = some (.tup vs)) (a : DAs L H vs ds) : DA L H (.ref p) (.tuple ds) := by
  simp only [DA]
  exact ⟨p, vs, rfl, n, h, a⟩
theorem DA.of_lst (h : DA L H v (.list ds)) : ∃ p vs, v = .ref p ∧ p ∉ L ∧ H p = some (.lst vs) ∧ DAs L H vs ds := by
  simpa only [DA] using h
theorem DA.of_tup (h : DA L H v (.tuple ds)) : ∃ p vs, v = .ref p ∧ p ∉ L ∧ H p = some (.tup vs) ∧ DAs L H vs ds := by
  simpa only [DA] using h
theorem DA.of_int {i : Int} (h : DA L H v (.int i)) : v = .int i := by simpa only [DA] using h
theorem DA.of_ints (h : DA L H v (.list (ns.map PyData.int))) : ∃ p, v = .ref p ∧ p ∉ L ∧ H p = some (.lst (ns.map V.int)) := by
  obtain ⟨p, vs, rfl, n, h, a⟩ := h.of_lst
  exact ⟨p, rfl, n, a.ints_eq ▸ h⟩
theorem DA.ints (n : p ∉ L) (h : H p = some (.lst (ns.map V.int))) : DA L H (.ref p) (.list (ns.map PyData.int)) := .lst n h (.ints ns)
end
/-! ### tuples: + and slices -/
section
variable {K : PySem.W.Frag} {H : Hp} {Q : VK} {p q : Addr} {v : V} {xs ys : List V} {m : Nat}
theorem i_addT1 (h1 : H p = some (.tup [v])) (h2 : H q = some (.tup ys)) (z : ys.length ≤ 1000000) (k : ∀ r H', Same H H' → H' r = some (.tup (v :: ys)) → Q (.ref r) H') : rAdd K (.ref p) (.ref q) H Q :=
  .inr (.inr (.inr (by
    refine ⟨p, q, [v], ys, rfl, rfl, SqT.of h1, SqT.of h2, by rw [sizeLine_eq, List.length_singleton]; omega, fun e => ?_, fun _ e => ?_, fun _ _ r f => ?_⟩
    · cases e
    · subst e; exact k p H (Same.refl _) h1
    · exact k r _ (fun b o e => by rw [upd_ne (ne_of_none e f)]; exact e) upd_same)))
theorem i_slT (h : H p = some (.tup xs)) (hm : m ≤ xs.length) (k : ∀ r H', Same H H' → H' r = some (.tup (xs.take m)) → Q (.ref r) H') : rSlU K (.ref p) none (some (m : Int)) H Q := by
  have e : cutV xs none (some (m : Int)) = xs.take m := by
    unfold cutV
    rw [HT.sIx_none, HT.sIx_nat, Nat.min_eq_left hm]
    simp
  refine .inr ⟨p, xs, rfl, SqT.of h, fun ⟨_, w⟩ => ?_, fun _ r f => k r _ (fun b o e => by rw [upd_ne (ne_of_none e f)]; exact e) (by rw [upd_same, e])⟩
  rw [HT.sIx_nat, Nat.min_eq_left hm] at w
  exact k p H (Same.refl _) (by rw [w, List.take_length]; exact h)
end
end Z
namespace Z
open PySem PySem.Spec PyProof.Rows L2
/-! ### comprehensions whose invariant knows the list's own place -/
section
variable {K : PySem.W.Frag} {H : Hp} {a : Addr} {xs : List V} {g : TG} {tt : TT} {te : TE} {vs : List Nat} {σ : L2.St} {Q : VK} {n : Nat} {lo : Int}
theorem comp_byD {J : It} (n : Nat) (G : Addr → Nat → List V → Hp → Prop) (h0 : ∀ D H', New H D (.lst []) H' → G D 0 [] H')
    (hgo : ∀ D i acc H, i < n → G D i acc H → J.go i H) (hst : ∀ D acc H, G D n acc H → J.stop n H)
    (hs : ∀ D i acc x H2 H', H D = none → i < n → H2 D = some (.lst acc) → G D i acc H2 → J.yld i H2 x H' → g x (wipe σ vs) H' fun σ2 H3 => wipe σ2 vs = wipe σ vs ∧ tt σ2 H3 fun b H4 =>
      if b = true then te σ2 H4 fun y H5 => zEnd D (G D (i + 1)) y H5 else zSkip D (G D (i + 1)) H4)
    (hd : ∀ D acc H2, H D = none → H2 D = some (.lst acc) → G D n acc H2 → Q (.ref D) H2) : zComp J g tt te vs σ H Q := by
  intro D fD
  refine ⟨fun i m H2 => m = n - i ∧ i ≤ n ∧ ∃ acc, H2 D = some (.lst acc) ∧ G D i acc H2, ⟨n, rfl, Nat.zero_le _, [], upd_same, h0 D _ ⟨fD, rfl⟩⟩, ?_⟩
  rintro i m H2 ⟨rfl, hi, acc, hD, p⟩
  by_cases hlt : i < n
  · exact .inr ⟨hgo D i acc H2 hlt p, fun H6 => ∃ acc, H6 D = some (.lst acc) ∧ G D (i + 1) acc H6, fun H' p' => ⟨n - (i + 1), by omega, rfl, hlt, p'⟩, fun x H' y => hs D i acc x H2 H' fD hlt hD p y⟩
  · have e : i = n := by omega
    subst e
    exact .inl ⟨hst D acc H2 p, hd D acc H2 fD hD p⟩
theorem comp_listD (G : Addr → Nat → List V → Hp → Prop) (h0 : ∀ D H', New H D (.lst []) H' → G D 0 [] H') (hl : ∀ D i acc H, i ≤ xs.length → G D i acc H → SqL K H a xs)
    (hs : ∀ D i acc x H2, H D = none → xs[i]? = some x → H2 D = some (.lst acc) → G D i acc H2 → g x (wipe σ vs) H2 fun σ2 H3 => wipe σ2 vs = wipe σ vs ∧ tt σ2 H3 fun b H4 =>
      if b = true then te σ2 H4 fun y H5 => zEnd D (G D (i + 1)) y H5 else zSkip D (G D (i + 1)) H4)
    (hd : ∀ D acc H2, H D = none → H2 D = some (.lst acc) → G D xs.length acc H2 → Q (.ref D) H2) : zComp (Itl K a) g tt te vs σ H Q := by
  refine comp_byD xs.length G h0 (fun D i acc H hi p => ⟨xs, xs[i], hl D i acc H (Nat.le_of_lt hi) p, by simp [hi]⟩) (fun D acc H p => ⟨xs, hl D _ acc H (Nat.le_refl _) p, Nat.le_refl _⟩) (fun D i acc x H2 H' fD hi hD p y => ?_) hd
  obtain ⟨e, y⟩ := y
  subst e
  exact hs D i acc x _ fD (y xs (hl D i acc _ (Nat.le_of_lt hi) p)) hD p
theorem comp_range0D (G : Addr → Nat → List V → Hp → Prop) (h0 : ∀ D H', New H D (.lst []) H' → G D 0 [] H')
    (hs : ∀ D i acc H2, H D = none → i < n → H2 D = some (.lst acc) → G D i acc H2 → g (.int (i : Nat)) (wipe σ vs) H2 fun σ2 H3 => wipe σ2 vs = wipe σ vs ∧ tt σ2 H3 fun b H4 =>
      if b = true then te σ2 H4 fun y H5 => zEnd D (G D (i + 1)) y H5 else zSkip D (G D (i + 1)) H4)
    (hd : ∀ D acc H2, H D = none → H2 D = some (.lst acc) → G D n acc H2 → Q (.ref D) H2) : zComp (Itr 0 n) g tt te vs σ H Q := by
  refine comp_byD n G h0 (fun D i acc H hi p => hi) (fun D acc H p => Nat.le_refl _) (fun D i acc x H2 H' fD hi hD p y => ?_) hd
  obtain ⟨e, y⟩ := y
  subst e y
  rw [Int.zero_add]
  exact hs D i acc _ fD hi hD p
end
/-! data off D :: L is off L, and stands when D is changed -/
section
variable {L : List Addr} {H H' : Hp} {D : Addr} {o : HO} {v : V} {vs : List V} {d : PyData} {ds : List PyData}
theorem DA.up (h : DA L H v d) (u : Up H D o H') (m : D ∈ L) : DA L H' v d := h.mono (.ofUp u m)
theorem DAs.up (h : DAs L H vs ds) (u : Up H D o H') (m : D ∈ L) : DAs L H' vs ds := h.mono (.ofUp u m)
theorem DA.drop (h : DA (D :: L) H v d) : DA L H v d := h.less fun _ m => List.mem_cons_of_mem _ m
theorem DAs.drop (h : DAs (D :: L) H vs ds) : DAs L H vs ds := h.less fun _ m => List.mem_cons_of_mem _ m
end
end Z
namespace Z
open PySem PySem.Spec PyProof.Rows L2
section
variable {c : TT} {ta tb : TE} {σ : L2.St} {H : Hp} {Q : VK} {t u : TZ} {nx bk ct : L2.St → Hp → Prop} {rt : VK}
/-- both ways of a conditional expression join -/
theorem i_ifEG (R : V → Hp → Prop) (k : ∀ v H', R v H' → Q v H') (h : ∀ Q' : VK, (∀ v H', R v H' → Q' v H') → c σ H fun b H1 => if b = true then ta σ H1 Q' else tb σ H1 Q') : tIf c ta tb σ H Q := h Q k
/-- both ways of an if join -/
theorem i_ifG (R : L2.St → Hp → Prop) (k : ∀ σ' H', R σ' H' → nx σ' H') (h : ∀ nx' : L2.St → Hp → Prop, (∀ σ' H', R σ' H' → nx' σ' H') → zIf c t u nx' rt bk ct σ H) : zIf c t u nx rt bk ct σ H := h nx k
end
/-! ### lists of lists of ints -/
theorem lay_rows : ∀ rows : List (List Int), PyData.canLayAll0 (rows.map fun r => .list (r.map PyData.int)) = true
  | [] => rfl
  | r :: rows => by
    simp only [List.map_cons, PyData.canLayAll0, Bool.and_eq_true]
    exact ⟨lay_ints r, lay_rows rows⟩
theorem depth_rows : ∀ rows : List (List Int), PyData.depthAll (rows.map fun r => .list (r.map PyData.int)) ≤ 1
  | [] => by simp only [List.map_nil, PyData.depthAll]; omega
  | r :: rows => by
    simp only [List.map_cons, PyData.depthAll, PyData.depth, depth_ints]
    have := depth_rows rows
    omega
theorem shaped_rows (rows : List (List Int)) : SeqAt.shaped (.list (rows.map fun r => .list (r.map PyData.int))) = true := by
  unfold SeqAt.shaped
  rw [Bool.and_eq_true, decide_eq_true_eq]
  refine ⟨by simp only [PyData.canLay0]; exact lay_rows rows, ?_⟩
  simp only [PyData.depth]
  have := depth_rows rows
  omega
theorem atI_snoc {α : Type} (xs : List α) (a : α) : atI (xs ++ [a]) (-1) = some a := atI_last _ _
end Z

/-! Z: isinstance of own classes, sorted, more of tuples. -/
namespace Z
open PySem PySem.Spec PyProof.Rows L2
/-! ### isinstance of instances of own classes -/
structure InsF (K : PySem.W.Frag) (C : Addr) : Prop where
  ha : PySem.W.findIn K (.ref C) "__class__" = some (some (.builtin "object.__class__"))
  hn : PySem.W.specialIn K (.builtin "object.__class__") "__get__" = some (some (.builtin "getset_descriptor.__get__"))
  htk : PySem.W.takesIn K (.builtin "object.__class__") = some true
  hm : PySem.W.mroIn K C (.type "object") = some true
def fxIns (c : Str) : Fx := fun K => He.eqO (PySem.W.findIn K (.ref (He.ga K c)) "__class__") (some (some (.builtin "object.__class__"))) && (He.eqO (PySem.W.specialIn K (.builtin "object.__class__") "__get__") (some (some (.builtin "getset_descriptor.__get__"))) &&
  (decide (PySem.W.takesIn K (.builtin "object.__class__") = some true) && decide (PySem.W.mroIn K (He.ga K c) (.type "object") = some true)))
theorem fxIns_ok {K : PySem.W.Frag} {c : Str} (h : fxIns c K = true) : InsF K (He.ga K c) := by
  obtain ⟨c1, h⟩ := He.ba h
  obtain ⟨c2, h⟩ := He.ba h
  obtain ⟨c3, c4⟩ := He.ba h
  exact ⟨He.eqO_ok c1, He.eqO_ok c2, of_decide_eq_true c3, of_decide_eq_true c4⟩
/-- is an instance of c one of D? -/
def fxKit (c D : Str) (b : Bool) : Fx := fun K => decide (PySem.W.kitOne K (.ref (He.ga K c)) (.ref (He.ga K D)) = some b)
theorem fxKit_ok {K : PySem.W.Frag} {c D : Str} {b : Bool} (h : fxKit c D b K = true) : PySem.W.kitOne K (.ref (He.ga K c)) (.ref (He.ga K D)) = some b := of_decide_eq_true h
/-- is a thing of the built-in type c one of D? -/
def fxKitB (c : String) (D : Str) (b : Bool) : Fx := fun K => decide (PySem.W.kitOne K (.type c) (.ref (He.ga K D)) = some b)
theorem fxKitB_ok {K : PySem.W.Frag} {c : String} {D : Str} {b : Bool} (h : fxKitB c D b K = true) : PySem.W.kitOne K (.type c) (.ref (He.ga K D)) = some b := of_decide_eq_true h
section
variable {K : PySem.W.Frag} {H : Hp} {Q : VK} {p D C dx : Addr} {b : Bool} {fs : List (Str × V)} {x : V} {a : String}
theorem i_isiC (h : H p = some (.ins C dx fs)) (c : Cls K C) (f : InsF K C) (k : PySem.W.kitOne K (.ref C) (.ref D) = some b) (q : Q (.bl b) H) : rIsi K [V.ref p, .ref D] H Q :=
  ⟨.ref p, .ref D, .ref C, .ref D, b, rfl, .own D, .base (.ins h c f.ha f.hn f.htk f.hm), k, q⟩
theorem i_isiB (t : TyX K H x (.type a)) (k : PySem.W.kitOne K (.type a) (.ref D) = some b) (q : Q (.bl b) H) : rIsi K [x, .ref D] H Q := ⟨x, .ref D, .type a, .ref D, b, rfl, .own D, t, k, q⟩
end
theorem Made.nei' {H H' : Hp} {x dx C a : Addr} {u : HO} (n : Made H x dx C H') (h : H a = some u) : x ≠ a := (ne_of_none h n.fr).symm
theorem i_dnew {σ : L2.St} {H : Hp} {Q : VK} (h : ∀ p H', New H p (.dK []) H' → Q (.ref p) H') : tDNewK σ H Q := fun p f => h p _ ⟨f, rfl⟩
/-! ### comprehensions within comprehensions -/
theorem lookup_kmap (f : Str → NameKind → NameKind) (x : Str) : ∀ l : List (Str × NameKind), (l.map fun y => (y.1, f y.1 y.2)).lookup x = (l.lookup x).map (f x)
  | [] => rfl
  | (n, k) :: r => by
    rw [List.map_cons, List.lookup_cons, List.lookup_cons]
    cases e : x == n with
    | true => simp only [Option.map_some]; rw [eq_of_beq e]
    | false => exact lookup_kmap f x r
theorem relabel_names (scope : Scope) (env : Env) : (relabel scope env).names = scope.names.map fun y => (y.1, if (y.2 == .free && env.scope.kind == .function && env.kindOf y.1 == some .cell) then .cell else y.2) := by
  unfold relabel
  simp only
  refine List.map_congr_left fun y _ => ?_
  obtain ⟨n, k⟩ := y
  simp only
  split <;> rfl
theorem relabel_free {scope : Scope} {env : Env} {x : Str} (h : (match scope.names.lookup x with
    | some .cell => true
    | some .free => true
    | _ => false) = true) : (match (relabel scope env).names.lookup x with
    | some .cell => true
    | some .free => true
    | _ => false) = true := by
  rw [relabel_names, lookup_kmap (fun n k => if (k == .free && env.scope.kind == .function && env.kindOf n == some .cell) then .cell else k)]
  cases e : scope.names.lookup x with
  | none => rw [e] at h; cases h
  | some k =>
    rw [e] at h
    simp only [Option.map_some]
    cases k <;> first
      | (cases h; done)
      | rfl
      | (split
         · rename_i q
           split at q <;> first
             | rfl
             | cases q
         · rfl
         · rename_i q1 q2
           exfalso
           revert q1 q2
           split <;> simp)
theorem blkC_relabel {N : List Str} {scope' scope : Scope} {env : Env} {own : List (Str × Nat)} (h : blkC N scope' scope own = true) : blkC N (relabel scope' env) scope own = true := by
  unfold blkC at h ⊢
  rw [Bool.and_eq_true] at h ⊢
  refine ⟨h.1, ?_⟩
  rw [List.all_eq_true] at *
  intro y hy
  have q := h.2 y hy
  split at q
  · exact relabel_free q
  · exact q
  · exact q
  · rfl
theorem blkOk_in {X : Cx} {s : Shared} {H : Hp} {scope' scope : Scope} {cl : List (Str × Addr)} {C : Addr} {fp : List Addr} {N : List Str} {own : List (Str × Nat)} (h : blkC N scope' scope own = true) :
    BlkOk N (X.blk s H scope' (compEnvC scope' cl C X.env) fp).env.scope scope own := blkOk_by (sc := relabel scope' X.env) (blkC_relabel h)
/-! ### sorted of ints -/
theorem csortedK {X : Cx} (K : PySem.W.Frag) (h : X.K = K) : CallR X (.builtin "sorted") (rSortedI K) := h ▸ cr_sortedI
theorem i_sortedI {K : PySem.W.Frag} {H : Hp} {Q : VK} {p : Addr} {ns : List Int} (h : H p = some (.lst (ns.map V.int))) (k : ∀ (ns' : List Int) r H', New H r (.lst (ns'.map V.int)) H' → ns'.Perm ns → ns'.Pairwise (· ≤ ·) → Q (.ref r) H') : rSortedI K [V.ref p] H Q :=
  ⟨p, ns, rfl, SqL.of h, fun ns' r pm sr f => k ns' r _ ⟨f, rfl⟩ pm sr⟩
/-! ### tuples -/
section
variable {K : PySem.W.Frag} {H : Hp} {Q : VK} {p : Addr} {xs : List V} {m : Nat}
theorem i_slTd (h : H p = some (.tup xs)) (hm : m ≤ xs.length) (k : ∀ r H', Same H H' → H' r = some (.tup (xs.drop m)) → Q (.ref r) H') : rSlU K (.ref p) (some (m : Int)) none H Q := by
  have e : cutV xs (some (m : Int)) none = xs.drop m := by
    unfold cutV
    rw [HT.sIx_none, HT.sIx_nat, Nat.min_eq_left hm, List.take_of_length_le (by rw [List.length_drop]; omega)]
  refine .inr ⟨p, xs, rfl, SqT.of h, fun ⟨w, _⟩ => ?_, fun _ r f => k r _ (fun b o e => by rw [upd_ne (ne_of_none e f)]; exact e) (by rw [upd_same, e])⟩
  rw [HT.sIx_nat, Nat.min_eq_left hm] at w
  exact k p H (Same.refl _) (by rw [w, List.drop_zero]; exact h)
/-- t[1:] -/
theorem i_slT1 (h : H p = some (.tup xs)) (k : ∀ r H', Same H H' → H' r = some (.tup (xs.drop 1)) → Q (.ref r) H') : rSlU K (.ref p) (some 1) none H Q := by
  have e : cutV xs (some 1) none = xs.drop 1 := by
    unfold cutV
    rw [HT.sIx_none, show HT.sIx xs.length 0 (some 1) = min 1 xs.length from HT.sIx_nat _ _ 1]
    cases xs with
    | nil => rfl
    | cons a b => simp
  refine .inr ⟨p, xs, rfl, SqT.of h, fun ⟨w, _⟩ => ?_, fun _ r f => k r _ (fun b o e => by rw [upd_ne (ne_of_none e f)]; exact e) (by rw [upd_same, e])⟩
  rw [show HT.sIx xs.length 0 (some 1) = min 1 xs.length from HT.sIx_nat _ _ 1] at w
  exact k p H (Same.refl _) (by
    have : xs.length = 0 := by omega
    rw [List.length_eq_zero_iff.mp this] at h ⊢
    exact h)
end
section
variable {K : PySem.W.Frag} {H : Hp} {a : Addr} {xs : List V} {g : TG} {tt : TT} {te : TE} {vs : List Nat} {σ : L2.St} {Q : VK}
theorem comp_tupD (G : Addr → Nat → List V → Hp → Prop) (h0 : ∀ D H', New H D (.lst []) H' → G D 0 [] H') (hl : ∀ D i acc H, i ≤ xs.length → G D i acc H → SqT K H a xs)
    (hs : ∀ D i acc x H2, H D = none → xs[i]? = some x → H2 D = some (.lst acc) → G D i acc H2 → g x (wipe σ vs) H2 fun σ2 H3 => wipe σ2 vs = wipe σ vs ∧ tt σ2 H3 fun b H4 =>
      if b = true then te σ2 H4 fun y H5 => zEnd D (G D (i + 1)) y H5 else zSkip D (G D (i + 1)) H4)
    (hd : ∀ D acc H2, H D = none → H2 D = some (.lst acc) → G D xs.length acc H2 → Q (.ref D) H2) : zComp (Itt K a) g tt te vs σ H Q := by
  refine comp_byD xs.length G h0 (fun D i acc H hi p => ⟨xs, xs[i], hl D i acc H (Nat.le_of_lt hi) p, by simp [hi]⟩) (fun D acc H p => ⟨xs, hl D _ acc H (Nat.le_refl _) p, Nat.le_refl _⟩) (fun D i acc x H2 H' fD hi hD p y => ?_) hd
  obtain ⟨e, y⟩ := y
  subst e
  exact hs D i acc x _ fD (y xs (hl D i acc _ (Nat.le_of_lt hi) p)) hD p
end
end Z
namespace Z
open PySem PySem.Spec PyProof.Rows L2
/-! ### calls of a value that is one of some defs -/
structure FAx where
  f : Addr
  n : Nat
  gV : PySem.W.Frag → List V → List V → List V
  sp : Sp
abbrev FtM (g : Prop) (X : Cx) (ks : List Str) (M : FAx) : Prop := ∃ (k : Nat) (d : He.DefD) (ps : List Str), Pr g X.prog X.w X.K X.mg X.base k M.f d ps M.sp ∧ Bd d ps M.n ks M.gV ∧ Room k X.A ∧ Gd g X.A
section
variable {g : Prop} {X : Cx} {ks : List Str}
theorem ft_nil : ∀ M ∈ ([] : List FAx), FtM g X ks M := fun _ h => by cases h
theorem ft_cons {f : Addr} {n k : Nat} {d : He.DefD} {ps : List Str} {gV : PySem.W.Frag → List V → List V → List V} {sp : Sp} {Fs : List FAx} (F : Pr g X.prog X.w X.K X.mg X.base k f d ps sp) (b : Bd d ps n ks gV) (hr : Room k X.A) (hgd : Gd g X.A)
    (r : ∀ M ∈ Fs, FtM g X ks M) : ∀ M ∈ (⟨f, n, gV, sp⟩ : FAx) :: Fs, FtM g X ks M := fun M hM => by
  rcases List.mem_cons.mp hM with rfl | hM
  · exact ⟨k, d, ps, F, b, hr, hgd⟩
  · exact r M hM
end
/-- the reading, behind the callee -/
def zV1 (K : PySem.W.Frag) (kn : Nat) (E : XK) (Fs : List FAx) (t tk : TA) (x : V) (σ : L2.St) (H1 : Hp) (Q : VK) : Prop :=
  ∃ M : FAx, M ∈ Fs ∧ x = .ref M.f ∧ t σ H1 fun vs H2 => tk σ H2 fun zs H3 => vs.length = M.n ∧ zs.length = kn ∧ M.sp (M.gV K vs zs) H3 Q E
def zV (K : PySem.W.Frag) (kn : Nat) (E : XK) (Fs : List FAx) (tf : TE) (t tk : TA) : TE := fun σ H Q => tf σ H fun x H1 => zV1 K kn E Fs t tk x σ H1 Q
section
variable {g : Prop} {X : Cx} {ks : List Str} {Fs : List FAx} {E : XK} {o e : Expr} {es : List Expr} {kws : List Keyword} {tf : TE} {t tk : TA} {pos : Pos}
theorem pe_V (K : PySem.W.Frag) (hK : X.K = K) (hF : ∀ M ∈ Fs, FtM g X [] M) (hx : Passes (L2.CX X.prog X.w) X E) (he : PE X o tf) (ha : PA X (e :: es) t)
    (hst : starEach (e :: es) X.env = (false, eval e X.env) :: starEach es X.env := by rfl) (hpl : (backTo pos (starEach es X.env)).any (·.1) = false := by rfl)
    (ht : eval (.Call o (e :: es) [] pos) X.env = (do callWith pos (← eval o X.env) [] (backTo pos (starEach (e :: es) X.env)) (backToKw pos (keywordEach [] X.env))) := by rfl) :
    PE X (.Call o (e :: es) [] pos) (zV K 0 E Fs tf t tNil) := by
  subst hK
  refine ⟨fun pins s σ H Q I h => ?_⟩
  refine Call_ (thn (he.run pins s σ H _ I h) fun u s1 ⟨x, H1, I1, rx, M, hm, ex, q⟩ => ?_) ht
  subst ex
  obtain rfl : u = Value.ref M.f := rx
  obtain ⟨k, d, ps, F, hb, hr, hgd⟩ := hF M hm
  obtain ⟨fd, FD, OK⟩ := F.ex
  obtain ⟨gg, B⟩ := hb _ _ _ FD
  refine PySem.W.callWith_K (h₀ := X.base) I.ok.mod.kin FD.kp ?_ hst hpl
  refine thn (ha.run pos pins s1 σ H1 _ I1 q) fun us s2 ⟨vs, H2, I2, r, l1, l2, q2⟩ => ⟨I2.kIn, ?_⟩
  exact run_g (ws := []) (zs := []) (ks := []) OK hr hgd B hx I2 r .nil l1 l2 q2
end
section
variable {K : PySem.W.Frag} {kn : Nat} {E : XK} {Fs : List FAx} {tf : TE} {t tk : TA} {σ : L2.St} {H : Hp} {Q : VK} {f : Addr}
theorem i_V (h : tf σ H fun x H1 => zV1 K kn E Fs t tk x σ H1 Q) : zV K kn E Fs tf t tk σ H Q := h
theorem i_Vi (i : Nat) {M : FAx} (hi : Fs[i]? = some M) (q : t σ H fun vs H2 => tk σ H2 fun zs H3 => vs.length = M.n ∧ zs.length = kn ∧ M.sp (M.gV K vs zs) H3 Q E) : zV1 K kn E Fs t tk (.ref M.f) σ H Q :=
  ⟨M, List.mem_of_getElem? hi, rfl, q⟩
end
end Z

/-! Z: what is raised: calls that let it out, raise, try .. except. -/
namespace Z
open PySem PySem.Spec PyProof.Rows L2
def zCallS (K : PySem.W.Frag) (n m : Nat) (gV : PySem.W.Frag → List V → List V → List V) (sp : Sp) (W : WX) (t tk : TA) : TE := fun σ H Q =>
  t σ H fun vs H1 => tk σ H1 fun zs H2 => vs.length = n ∧ zs.length = m ∧ sp (gV K vs zs) H2 Q (WE W σ)
def zMakeS (K : PySem.W.Frag) (C : Addr) (n m : Nat) (gV : PySem.W.Frag → List V → List V → List V) (sp : Sp) (W : WX) (t tk : TA) : TE := fun σ H Q =>
  t σ H fun vs H1 => tk σ H1 fun zs H2 => vs.length + 1 = n ∧ zs.length = m ∧ ∀ x dx, H2 x = none → H2 dx = none → dx ≠ x →
    sp (gV K (.ref x :: vs) zs) (upd (upd H2 dx (.own x)) x (.ins C dx [])) (fun v H3 => v = .non ∧ Q (.ref x) H3) (WE W σ)
def zM1S (K : PySem.W.Frag) (m : Str) (kn : Nat) (W : WX) (Ms : List MA) (t tk : TA) (x : V) (σ : L2.St) (H1 : Hp) (Q : VK) : Prop :=
  ∃ (M : MA) (a dx : Addr) (fs : List (Str × V)), M ∈ Ms ∧ x = .ref a ∧ H1 a = some (.ins M.C dx fs) ∧ fs.lookup m = none ∧ t σ H1 fun vs H2 => tk σ H2 fun zs H3 => (V.ref a :: vs).length = M.n ∧ zs.length = kn ∧ M.sp (M.gV K (.ref a :: vs) zs) H3 Q (WE W σ)
def zMS (K : PySem.W.Frag) (m : Str) (kn : Nat) (W : WX) (Ms : List MA) (ta : TE) (t tk : TA) : TE := fun σ H Q => ta σ H fun x H1 => zM1S K m kn W Ms t tk x σ H1 Q
def zV1S (K : PySem.W.Frag) (kn : Nat) (W : WX) (Fs : List FAx) (t tk : TA) (x : V) (σ : L2.St) (H1 : Hp) (Q : VK) : Prop :=
  ∃ M : FAx, M ∈ Fs ∧ x = .ref M.f ∧ t σ H1 fun vs H2 => tk σ H2 fun zs H3 => vs.length = M.n ∧ zs.length = kn ∧ M.sp (M.gV K vs zs) H3 Q (WE W σ)
def zVS (K : PySem.W.Frag) (kn : Nat) (W : WX) (Fs : List FAx) (tf : TE) (t tk : TA) : TE := fun σ H Q => tf σ H fun x H1 => zV1S K kn W Fs t tk x σ H1 Q
section
variable {X : Cx} {g : Prop} {k n : Nat} {f C : Addr} {d : He.DefD} {ps ks : List Str} {gV : PySem.W.Frag → List V → List V → List V} {sp : Sp} {E : XK} {W : WX} {x m : Str} {p pos apos : Pos} {e o : Expr} {es : List Expr} {kws : List Keyword} {ta tf : TE} {t tk : TA} {Ms : List MA} {Fs : List FAx}
theorem run_gS {fd : FuncData} {gg : List Value → List Value → List Value} {gW : List V → List V → List V} {pins : List (Addr × Obj)} {σ : L2.St} {H : Hp} {s : Shared} {Q : VK} {us ws : List Value} {vs zs : List V}
    (F : FnG g X.prog X.w X.K X.mg X.base k f fd ps sp) (hr : Room k X.A) (hgd : Gd g X.A) (hb : KBn X.K fd ps n ks gg gW) (hx : PassesAt (L2.CX X.prog X.w) X σ E)
    (I : Inv X pins σ H s) (r : Vals vs us) (rz : Vals zs ws) (l1 : vs.length = n) (l2 : zs.length = ks.length) (h : sp (gW vs zs) H Q E) :
    wpAny (model X.prog X.w) X.A (call (.ref f) us (ks.zip ws)) (EP X pins σ Q) X.xe s := by
  refine wpAny_call (codeAny_mono (F.run X.A X.stack s H ⟨us, ks.zip ws⟩ (gg us ws) (gW vs zs) Q E hr hgd I.env0 (hb.to s us ws I.kIn (r.length.symm.trans l1) (rz.length.symm.trans l2)) (hb.rel r rz) h) fun z s' hq => ?_)
  match z, hq with
  | .error e, hq => exact hx pins H s e s' I hq
  | .ok (.ret u), hq => exact I.after hq
  | .ok .next, hq => exact False.elim hq
  | .ok .brk, hq => exact False.elim hq
  | .ok .cont, hq => exact False.elim hq

theorem pe_fkS (F : Pr g X.prog X.w X.K X.mg X.base k f d ps sp) (hr : Room k X.A) (hgd : Gd g X.A) (hg : Gl X x) (hm : X.mg x = some (.ref f)) (hb : Bd d ps n ks gV) (hx : Takes X W)
    (ha : PA X (e :: es) t) (hkw : PK X kws tk) (hall : (backToKw pos (keywordEach kws X.env)).all (·.1.isSome) = true := by rfl)
    (hks : (backToKw pos (keywordEach kws X.env)).filterMap (·.1) = ks := by rfl) (hdb : (x == ("__debug__" : Str)) = false := by decide)
    (he : starEach (e :: es) X.env = (false, eval e X.env) :: starEach es X.env := by rfl)
    (hpl : ((backTo pos (starEach (e :: es) X.env)).any (·.1) || (backToKw pos (keywordEach kws X.env)).any (·.1.isNone)) = false := by rfl) :
    PE X (.Call (.Name x p) (e :: es) kws pos) (zCallS X.K n ks.length gV sp W t tk) := by
  obtain ⟨fd, FD, OK⟩ := F.ex
  obtain ⟨gg, B⟩ := hb _ _ _ FD
  refine ⟨fun pins s σ H Q I h => ?_⟩
  refine wpAny_Call_Name_kw (ld_glob I hg hm ?_ hdb)
  refine PySem.W.callWith_KW (h₀ := X.base) I.ok.mod.kin FD.kp hall ?_ hpl he
  refine thn (ha.run pos pins s σ H _ I h) fun us s1 ⟨vs, H1, I1, r, q⟩ => ?_
  refine thn (hkw.run pos pins s1 σ H1 _ I1 q) fun ws s2 ⟨zs, H2, I2, rz, l1, l2, q2⟩ => ⟨I2.kIn, ?_⟩
  rw [hks]
  exact run_gS OK hr hgd B (passAt hx _) I2 r rz l1 l2 q2
theorem pe_fk0S (F : Pr g X.prog X.w X.K X.mg X.base k f d ps sp) (hr : Room k X.A) (hgd : Gd g X.A) (hg : Gl X x) (hm : X.mg x = some (.ref f)) (hb : Bd d ps n ks gV) (hx : Takes X W)
    (hkw : PK X kws tk) (hall : (backToKw pos (keywordEach kws X.env)).all (·.1.isSome) = true := by rfl)
    (hks : (backToKw pos (keywordEach kws X.env)).filterMap (·.1) = ks := by rfl) (hdb : (x == ("__debug__" : Str)) = false := by decide)
    (hpl : ((backTo pos (starEach [] X.env)).any (·.1) || (backToKw pos (keywordEach kws X.env)).any (·.1.isNone)) = false := by rfl) :
    PE X (.Call (.Name x p) [] kws pos) (zCallS X.K n ks.length gV sp W tNil tk) := by
  obtain ⟨fd, FD, OK⟩ := F.ex
  obtain ⟨gg, B⟩ := hb _ _ _ FD
  refine ⟨fun pins s σ H Q I h => ?_⟩
  refine wpAny_Call_Name_kw (ld_glob I hg hm ?_ hdb)
  refine PySem.W.callWith_KW0 (h₀ := X.base) I.ok.mod.kin FD.kp hall ?_ hpl
  refine thn (hkw.run pos pins s σ H _ I h) fun ws s2 ⟨zs, H2, I2, rz, l1, l2, q2⟩ => ⟨I2.kIn, ?_⟩
  rw [hks]
  exact run_gS (us := []) (vs := []) OK hr hgd B (passAt hx _) I2 .nil rz l1 l2 q2
theorem pe_fS (F : Pr g X.prog X.w X.K X.mg X.base k f d ps sp) (hr : Room k X.A) (hgd : Gd g X.A) (hg : Gl X x) (hm : X.mg x = some (.ref f)) (hb : Bd d ps n [] gV) (hx : Takes X W)
    (ha : PA X (e :: es) t) (hdb : (x == ("__debug__" : Str)) = false := by decide) (he : starEach (e :: es) X.env = (false, eval e X.env) :: starEach es X.env := by rfl)
    (hpl : (backTo pos (starEach es X.env)).any (·.1) = false := by rfl) : PE X (.Call (.Name x p) (e :: es) [] pos) (zCallS X.K n 0 gV sp W t tNil) := by
  obtain ⟨fd, FD, OK⟩ := F.ex
  obtain ⟨gg, B⟩ := hb _ _ _ FD
  refine ⟨fun pins s σ H Q I h => ?_⟩
  refine wpAny_Call_Name_kw (ld_glob I hg hm ?_ hdb)
  refine PySem.W.callWith_K (h₀ := X.base) I.ok.mod.kin FD.kp ?_ he hpl
  refine thn (ha.run pos pins s σ H _ I h) fun us s1 ⟨vs, H1, I1, r, l1, l2, q⟩ => ⟨I1.kIn, ?_⟩
  exact run_gS (ws := []) (zs := []) (ks := []) OK hr hgd B (passAt hx _) I1 r .nil l1 l2 q
theorem pe_f0S (F : Pr g X.prog X.w X.K X.mg X.base k f d ps sp) (hr : Room k X.A) (hgd : Gd g X.A) (hg : Gl X x) (hm : X.mg x = some (.ref f)) (hb : Bd d ps n [] gV) (hx : Takes X W)
    (hdb : (x == ("__debug__" : Str)) = false := by decide) : PE X (.Call (.Name x p) [] [] pos) (zCallS X.K n 0 gV sp W tNil tNil) := by
  obtain ⟨fd, FD, OK⟩ := F.ex
  obtain ⟨gg, B⟩ := hb _ _ _ FD
  refine ⟨fun pins s σ H Q I ⟨l1, l2, q⟩ => ?_⟩
  refine wpAny_Call_Name_kw (ld_glob I hg hm ?_ hdb)
  exact PySem.W.callWith_K0 I.kIn FD.kp (run_gS (us := []) (vs := []) (ws := []) (zs := []) (ks := []) OK hr hgd B (passAt hx _) I .nil .nil l1 l2 q)

theorem run_mkS {fd : FuncData} {gg : List Value → List Value → List Value} {gW : List V → List V → List V} {pins : List (Addr × Obj)} {σ : L2.St} {H : Hp} {s : Shared} {Q : VK} {us ws : List Value} {vs zs : List V}
    (M : L2.Mk X.K C f) (F : FnG g X.prog X.w X.K X.mg X.base k f fd ps sp) (hr : Room (k + 1) X.A) (hgd : Gd g X.A) (hb : KBn X.K fd ps n ks gg gW) (hx : PassesAt (L2.CX X.prog X.w) X σ E)
    (I : Inv X pins σ H s) (r : Vals vs us) (rz : Vals zs ws) (l1 : vs.length + 1 = n) (l2 : zs.length = ks.length)
    (h : ∀ x dx, H x = none → H dx = none → dx ≠ x → sp (gW (.ref x :: vs) zs) (upd (upd H dx (.own x)) x (.ins C dx [])) (fun v H2 => v = .non ∧ Q (.ref x) H2) E) :
    wpAny (model X.prog X.w) X.A (call (.ref C) us (ks.zip ws)) (EP X pins σ Q) X.xe s := by
  have q0 := h (s.heap.objs.size + 1) s.heap.objs.size (I.hok.fresh (Nat.le_succ _)) (I.hok.fresh (Nat.le_refl _)) (Nat.ne_of_lt (Nat.lt_succ_self _))
  have J := Inv.made (C := C) I
  have rs : Vals (V.ref (s.heap.objs.size + 1) :: vs) (Value.ref (s.heap.objs.size + 1) :: us) := .cons rfl r
  have ln : (Value.ref (s.heap.objs.size + 1) :: us).length = n := by rw [List.length_cons, ← r.length]; exact l1
  refine wpAny_call (make_map (f := f) I.kIn M.makes M.init (beq_iff_eq.mp M.fn) (codeAny_mono (F.run _ X.stack _ _ ⟨Value.ref (s.heap.objs.size + 1) :: us, ks.zip ws⟩ (gg (Value.ref (s.heap.objs.size + 1) :: us) ws) _ _ E
    (hr.make C us (ks.zip ws)) (hgd.make C us (ks.zip ws)) (J.env0.make C us (ks.zip ws)) (hb.to _ (Value.ref (s.heap.objs.size + 1) :: us) ws J.kIn ln (rz.length.symm.trans l2)) (hb.rel rs rz) q0) fun z s' hq => ?_))
  match z, hq with
  | .error e, hq => exact hx pins _ _ e s' J hq
  | .ok (.ret u), hq =>
    obtain ⟨v, H', I3, rv, ev, q3⟩ := J.after hq
    subst ev
    exact ⟨rv, ⟨V.ref (s.heap.objs.size + 1), H', I3, rfl, q3⟩⟩
  | .ok .next, hq => exact False.elim hq
  | .ok .brk, hq => exact False.elim hq
  | .ok .cont, hq => exact False.elim hq
section
variable (M : L2.Mk X.K C f) (F : Pr g X.prog X.w X.K X.mg X.base k f d ps sp) (hr : Room (k + 1) X.A) (hgd : Gd g X.A) (hg : Gl X x) (hm : X.mg x = some (.ref C)) (hx : Takes X W)
include M F hr hgd hg hm hx
theorem pe_newS (hb : Bd d ps n [] gV) (ha : PA X (e :: es) t) (hdb : (x == ("__debug__" : Str)) = false := by decide) (he : starEach (e :: es) X.env = (false, eval e X.env) :: starEach es X.env := by rfl)
    (hpl : (backTo pos (starEach es X.env)).any (·.1) = false := by rfl) : PE X (.Call (.Name x p) (e :: es) [] pos) (zMakeS X.K C n 0 gV sp W t tNil) := by
  obtain ⟨fd, FD, OK⟩ := F.ex
  obtain ⟨gg, B⟩ := hb _ _ _ FD
  refine ⟨fun pins s σ H Q I h => ?_⟩
  refine wpAny_Call_Name_kw (ld_glob I hg hm ?_ hdb)
  refine PySem.W.callWith_K (h₀ := X.base) I.ok.mod.kin M.kp ?_ he hpl
  refine thn (ha.run pos pins s σ H _ I h) fun us s1 ⟨vs, H1, I1, r, l1, l2, q⟩ => ⟨I1.kIn, ?_⟩
  exact run_mkS (ws := []) (zs := []) (ks := []) M OK hr hgd B (passAt hx _) I1 r .nil l1 l2 q
theorem pe_new0S (hb : Bd d ps n [] gV) (hdb : (x == ("__debug__" : Str)) = false := by decide) : PE X (.Call (.Name x p) [] [] pos) (zMakeS X.K C n 0 gV sp W tNil tNil) := by
  obtain ⟨fd, FD, OK⟩ := F.ex
  obtain ⟨gg, B⟩ := hb _ _ _ FD
  refine ⟨fun pins s σ H Q I ⟨l1, l2, q⟩ => ?_⟩
  refine wpAny_Call_Name_kw (ld_glob I hg hm ?_ hdb)
  exact PySem.W.callWith_K0 I.kIn M.kp (run_mkS (us := []) (vs := []) (ws := []) (zs := []) (ks := []) M OK hr hgd B (passAt hx _) I .nil .nil l1 l2 q)
theorem pe_newkS (hb : Bd d ps n ks gV) (ha : PA X (e :: es) t) (hkw : PK X kws tk)
    (hall : (backToKw pos (keywordEach kws X.env)).all (·.1.isSome) = true := by rfl) (hks : (backToKw pos (keywordEach kws X.env)).filterMap (·.1) = ks := by rfl) (hdb : (x == ("__debug__" : Str)) = false := by decide)
    (he : starEach (e :: es) X.env = (false, eval e X.env) :: starEach es X.env := by rfl)
    (hpl : ((backTo pos (starEach (e :: es) X.env)).any (·.1) || (backToKw pos (keywordEach kws X.env)).any (·.1.isNone)) = false := by rfl) :
    PE X (.Call (.Name x p) (e :: es) kws pos) (zMakeS X.K C n ks.length gV sp W t tk) := by
  obtain ⟨fd, FD, OK⟩ := F.ex
  obtain ⟨gg, B⟩ := hb _ _ _ FD
  refine ⟨fun pins s σ H Q I h => ?_⟩
  refine wpAny_Call_Name_kw (ld_glob I hg hm ?_ hdb)
  refine PySem.W.callWith_KW (h₀ := X.base) I.ok.mod.kin M.kp hall ?_ hpl he
  refine thn (ha.run pos pins s σ H _ I h) fun us s1 ⟨vs, H1, I1, r, q⟩ => ?_
  refine thn (hkw.run pos pins s1 σ H1 _ I1 q) fun ws s2 ⟨zs, H2, I2, rz, l1, l2, q2⟩ => ⟨I2.kIn, ?_⟩
  rw [hks]
  exact run_mkS M OK hr hgd B (passAt hx _) I2 r rz l1 l2 q2
theorem pe_newk0S (hb : Bd d ps n ks gV) (hkw : PK X kws tk)
    (hall : (backToKw pos (keywordEach kws X.env)).all (·.1.isSome) = true := by rfl) (hks : (backToKw pos (keywordEach kws X.env)).filterMap (·.1) = ks := by rfl) (hdb : (x == ("__debug__" : Str)) = false := by decide)
    (hpl : ((backTo pos (starEach [] X.env)).any (·.1) || (backToKw pos (keywordEach kws X.env)).any (·.1.isNone)) = false := by rfl) :
    PE X (.Call (.Name x p) [] kws pos) (zMakeS X.K C n ks.length gV sp W tNil tk) := by
  obtain ⟨fd, FD, OK⟩ := F.ex
  obtain ⟨gg, B⟩ := hb _ _ _ FD
  refine ⟨fun pins s σ H Q I h => ?_⟩
  refine wpAny_Call_Name_kw (ld_glob I hg hm ?_ hdb)
  refine PySem.W.callWith_KW0 (h₀ := X.base) I.ok.mod.kin M.kp hall ?_ hpl
  refine thn (hkw.run pos pins s σ H _ I h) fun ws s2 ⟨zs, H2, I2, rz, l1, l2, q2⟩ => ⟨I2.kIn, ?_⟩
  rw [hks]
  exact run_mkS (us := []) (vs := []) M OK hr hgd B (passAt hx _) I2 .nil rz l1 l2 q2
end
theorem pe_MS {pl : Sem Bool} (hM : ∀ M ∈ Ms, MtM g X m [] M) (hx : Takes X W) (he : PE X o ta) (ha : PA X (e :: es) t)
    (hst : starEach (e :: es) X.env = (false, eval e X.env) :: starEach es X.env := by rfl) (hpl : (backTo pos (starEach es X.env)).any (·.1) = false := by rfl)
    (ht : eval (.Call (.Attribute o m apos) (e :: es) [] pos) X.env = (do
      let ov ← eval o X.env; standAt apos.atName
      let (f, first) ← holding [ov] (getMethod ov m pl); callWith pos f first (backTo pos (starEach (e :: es) X.env)) (backToKw pos (keywordEach [] X.env))) := by rfl) :
    PE X (.Call (.Attribute o m apos) (e :: es) [] pos) (zMS X.K m 0 W Ms ta t tNil) := by
  refine ⟨fun pins s σ H Q I h => ?_⟩
  refine PySem.W.methodCall_KW (pl := pl) (thn (he.run pins s σ H _ I h) fun u s1 ⟨x, H1, I1, rx, M, a, dx, fs, hm0, ex, ea, l, q⟩ => ?_) ht
  subst ex
  obtain rfl : u = Value.ref a := rx
  have M1 := hM M hm0
  obtain ⟨k, f, d, ps, hm, F, hb, hr, hgd⟩ := M1.ex
  obtain ⟨fd, FD, OK⟩ := F.ex
  obtain ⟨gg, B⟩ := hb _ _ _ FD
  refine getmeth_ok I1 ea M1.cl hm l ?_
  refine PySem.W.callWith_K (first := [.ref a]) (h₀ := X.base) I.ok.mod.kin hm.kp ?_ hst hpl
  refine thn (ha.run pos pins s1 σ H1 _ I1 q) fun us s2 ⟨vs, H2, I2, r, l1, l2, q2⟩ => ⟨I2.kIn, ?_⟩
  exact run_gS (us := .ref a :: us) (vs := .ref a :: vs) (ws := []) (zs := []) (ks := []) OK hr hgd B (passAt hx _) I2 (.cons rfl r) .nil l1 l2 q2
theorem pe_M0S {pl : Sem Bool} (hM : ∀ M ∈ Ms, MtM g X m [] M) (hx : Takes X W) (he : PE X o ta)
    (ht : eval (.Call (.Attribute o m apos) [] [] pos) X.env = (do
      let ov ← eval o X.env; standAt apos.atName
      let (f, first) ← holding [ov] (getMethod ov m pl); callWith pos f first (backTo pos (starEach [] X.env)) (backToKw pos (keywordEach [] X.env))) := by rfl) :
    PE X (.Call (.Attribute o m apos) [] [] pos) (zMS X.K m 0 W Ms ta tNil tNil) := by
  refine ⟨fun pins s σ H Q I h => ?_⟩
  refine PySem.W.methodCall_KW (pl := pl) (thn (he.run pins s σ H _ I h) fun u s1 ⟨x, H1, I1, rx, M, a, dx, fs, hm0, ex, ea, l, l1, l2, q⟩ => ?_) ht
  subst ex
  obtain rfl : u = Value.ref a := rx
  have M1 := hM M hm0
  obtain ⟨k, f, d, ps, hm, F, hb, hr, hgd⟩ := M1.ex
  obtain ⟨fd, FD, OK⟩ := F.ex
  obtain ⟨gg, B⟩ := hb _ _ _ FD
  refine getmeth_ok I1 ea M1.cl hm l ?_
  exact PySem.W.callWith_K0 (first := [.ref a]) I1.kIn hm.kp (run_gS (us := [.ref a]) (vs := [.ref a]) (ws := []) (zs := []) (ks := []) OK hr hgd B (passAt hx _) I1 (.cons rfl .nil) .nil l1 l2 q)
theorem pe_MkS {pl : Sem Bool} (hM : ∀ M ∈ Ms, MtM g X m ks M) (hx : Takes X W) (he : PE X o ta) (ha : PA X (e :: es) t) (hkw : PK X kws tk)
    (hall : (backToKw pos (keywordEach kws X.env)).all (·.1.isSome) = true := by rfl) (hks : (backToKw pos (keywordEach kws X.env)).filterMap (·.1) = ks := by rfl)
    (hst : starEach (e :: es) X.env = (false, eval e X.env) :: starEach es X.env := by rfl)
    (hpl : ((backTo pos (starEach (e :: es) X.env)).any (·.1) || (backToKw pos (keywordEach kws X.env)).any (·.1.isNone)) = false := by rfl)
    (ht : eval (.Call (.Attribute o m apos) (e :: es) kws pos) X.env = (do
      let ov ← eval o X.env; standAt apos.atName
      let (f, first) ← holding [ov] (getMethod ov m pl); callWith pos f first (backTo pos (starEach (e :: es) X.env)) (backToKw pos (keywordEach kws X.env))) := by rfl) :
    PE X (.Call (.Attribute o m apos) (e :: es) kws pos) (zMS X.K m ks.length W Ms ta t tk) := by
  refine ⟨fun pins s σ H Q I h => ?_⟩
  refine PySem.W.methodCall_KW (pl := pl) (thn (he.run pins s σ H _ I h) fun u s1 ⟨x, H1, I1, rx, M, a, dx, fs, hm0, ex, ea, l, q⟩ => ?_) ht
  subst ex
  obtain rfl : u = Value.ref a := rx
  have M1 := hM M hm0
  obtain ⟨k, f, d, ps, hm, F, hb, hr, hgd⟩ := M1.ex
  obtain ⟨fd, FD, OK⟩ := F.ex
  obtain ⟨gg, B⟩ := hb _ _ _ FD
  refine getmeth_ok I1 ea M1.cl hm l ?_
  refine PySem.W.callWith_KW (first := [.ref a]) (h₀ := X.base) I.ok.mod.kin hm.kp hall ?_ hpl hst
  refine thn (ha.run pos pins s1 σ H1 _ I1 q) fun us s2 ⟨vs, H2, I2, r, q2⟩ => ?_
  refine thn (hkw.run pos pins s2 σ H2 _ I2 q2) fun ws s3 ⟨zs, H3, I3, rz, l1, l2, q3⟩ => ⟨I3.kIn, ?_⟩
  rw [hks]
  exact run_gS (us := .ref a :: us) (vs := .ref a :: vs) OK hr hgd B (passAt hx _) I3 (.cons rfl r) rz l1 l2 q3
theorem pe_Mk0S {pl : Sem Bool} (hM : ∀ M ∈ Ms, MtM g X m ks M) (hx : Takes X W) (he : PE X o ta) (hkw : PK X kws tk)
    (hall : (backToKw pos (keywordEach kws X.env)).all (·.1.isSome) = true := by rfl) (hks : (backToKw pos (keywordEach kws X.env)).filterMap (·.1) = ks := by rfl)
    (hpl : ((backTo pos (starEach [] X.env)).any (·.1) || (backToKw pos (keywordEach kws X.env)).any (·.1.isNone)) = false := by rfl)
    (ht : eval (.Call (.Attribute o m apos) [] kws pos) X.env = (do
      let ov ← eval o X.env; standAt apos.atName
      let (f, first) ← holding [ov] (getMethod ov m pl); callWith pos f first (backTo pos (starEach [] X.env)) (backToKw pos (keywordEach kws X.env))) := by rfl) :
    PE X (.Call (.Attribute o m apos) [] kws pos) (zMS X.K m ks.length W Ms ta tNil tk) := by
  refine ⟨fun pins s σ H Q I h => ?_⟩
  refine PySem.W.methodCall_KW (pl := pl) (thn (he.run pins s σ H _ I h) fun u s1 ⟨x, H1, I1, rx, M, a, dx, fs, hm0, ex, ea, l, q⟩ => ?_) ht
  subst ex
  obtain rfl : u = Value.ref a := rx
  have M1 := hM M hm0
  obtain ⟨k, f, d, ps, hm, F, hb, hr, hgd⟩ := M1.ex
  obtain ⟨fd, FD, OK⟩ := F.ex
  obtain ⟨gg, B⟩ := hb _ _ _ FD
  refine getmeth_ok I1 ea M1.cl hm l ?_
  refine PySem.W.callWith_KW0 (first := [.ref a]) (h₀ := X.base) I.ok.mod.kin hm.kp hall ?_ hpl
  refine thn (hkw.run pos pins s1 σ H1 _ I1 q) fun ws s3 ⟨zs, H3, I3, rz, l1, l2, q3⟩ => ⟨I3.kIn, ?_⟩
  rw [hks]
  exact run_gS (us := [.ref a]) (vs := [.ref a]) OK hr hgd B (passAt hx _) I3 (.cons rfl .nil) rz l1 l2 q3

theorem pe_MKS {pl : Sem Bool} (K : PySem.W.Frag) (h : X.K = K) (hM : ∀ M ∈ Ms, MtM g X m [] M) (hx : Takes X W) (he : PE X o ta) (ha : PA X (e :: es) t)
    (hst : starEach (e :: es) X.env = (false, eval e X.env) :: starEach es X.env := by rfl) (hpl : (backTo pos (starEach es X.env)).any (·.1) = false := by rfl)
    (ht : eval (.Call (.Attribute o m apos) (e :: es) [] pos) X.env = (do
      let ov ← eval o X.env; standAt apos.atName
      let (f, first) ← holding [ov] (getMethod ov m pl); callWith pos f first (backTo pos (starEach (e :: es) X.env)) (backToKw pos (keywordEach [] X.env))) := by rfl) :
    PE X (.Call (.Attribute o m apos) (e :: es) [] pos) (zMS K m 0 W Ms ta t tNil) := h ▸ pe_MS hM hx he ha hst hpl ht
theorem pe_M0KS {pl : Sem Bool} (K : PySem.W.Frag) (h : X.K = K) (hM : ∀ M ∈ Ms, MtM g X m [] M) (hx : Takes X W) (he : PE X o ta)
    (ht : eval (.Call (.Attribute o m apos) [] [] pos) X.env = (do
      let ov ← eval o X.env; standAt apos.atName
      let (f, first) ← holding [ov] (getMethod ov m pl); callWith pos f first (backTo pos (starEach [] X.env)) (backToKw pos (keywordEach [] X.env))) := by rfl) :
    PE X (.Call (.Attribute o m apos) [] [] pos) (zMS K m 0 W Ms ta tNil tNil) := h ▸ pe_M0S hM hx he ht
theorem pe_MkKS {pl : Sem Bool} (K : PySem.W.Frag) (h : X.K = K) (hM : ∀ M ∈ Ms, MtM g X m ks M) (hx : Takes X W) (he : PE X o ta) (ha : PA X (e :: es) t) (hkw : PK X kws tk)
    (hall : (backToKw pos (keywordEach kws X.env)).all (·.1.isSome) = true := by rfl) (hks : (backToKw pos (keywordEach kws X.env)).filterMap (·.1) = ks := by rfl)
    (hst : starEach (e :: es) X.env = (false, eval e X.env) :: starEach es X.env := by rfl)
    (hpl : ((backTo pos (starEach (e :: es) X.env)).any (·.1) || (backToKw pos (keywordEach kws X.env)).any (·.1.isNone)) = false := by rfl)
    (ht : eval (.Call (.Attribute o m apos) (e :: es) kws pos) X.env = (do
      let ov ← eval o X.env; standAt apos.atName
      let (f, first) ← holding [ov] (getMethod ov m pl); callWith pos f first (backTo pos (starEach (e :: es) X.env)) (backToKw pos (keywordEach kws X.env))) := by rfl) :
    PE X (.Call (.Attribute o m apos) (e :: es) kws pos) (zMS K m ks.length W Ms ta t tk) := h ▸ pe_MkS hM hx he ha hkw hall hks hst hpl ht
theorem pe_Mk0KS {pl : Sem Bool} (K : PySem.W.Frag) (h : X.K = K) (hM : ∀ M ∈ Ms, MtM g X m ks M) (hx : Takes X W) (he : PE X o ta) (hkw : PK X kws tk)
    (hall : (backToKw pos (keywordEach kws X.env)).all (·.1.isSome) = true := by rfl) (hks : (backToKw pos (keywordEach kws X.env)).filterMap (·.1) = ks := by rfl)
    (hpl : ((backTo pos (starEach [] X.env)).any (·.1) || (backToKw pos (keywordEach kws X.env)).any (·.1.isNone)) = false := by rfl)
    (ht : eval (.Call (.Attribute o m apos) [] kws pos) X.env = (do
      let ov ← eval o X.env; standAt apos.atName
      let (f, first) ← holding [ov] (getMethod ov m pl); callWith pos f first (backTo pos (starEach [] X.env)) (backToKw pos (keywordEach kws X.env))) := by rfl) :
    PE X (.Call (.Attribute o m apos) [] kws pos) (zMS K m ks.length W Ms ta tNil tk) := h ▸ pe_Mk0S hM hx he hkw hall hks hpl ht

theorem pe_VS (K : PySem.W.Frag) (hK : X.K = K) (hF : ∀ M ∈ Fs, FtM g X [] M) (hx : Takes X W) (he : PE X o tf) (ha : PA X (e :: es) t)
    (hst : starEach (e :: es) X.env = (false, eval e X.env) :: starEach es X.env := by rfl) (hpl : (backTo pos (starEach es X.env)).any (·.1) = false := by rfl)
    (ht : eval (.Call o (e :: es) [] pos) X.env = (do callWith pos (← eval o X.env) [] (backTo pos (starEach (e :: es) X.env)) (backToKw pos (keywordEach [] X.env))) := by rfl) :
    PE X (.Call o (e :: es) [] pos) (zVS K 0 W Fs tf t tNil) := by
  subst hK
  refine ⟨fun pins s σ H Q I h => ?_⟩
  refine Call_ (thn (he.run pins s σ H _ I h) fun u s1 ⟨x, H1, I1, rx, M, hm, ex, q⟩ => ?_) ht
  subst ex
  obtain rfl : u = Value.ref M.f := rx
  obtain ⟨k, d, ps, F, hb, hr, hgd⟩ := hF M hm
  obtain ⟨fd, FD, OK⟩ := F.ex
  obtain ⟨gg, B⟩ := hb _ _ _ FD
  refine PySem.W.callWith_K (h₀ := X.base) I.ok.mod.kin FD.kp ?_ hst hpl
  refine thn (ha.run pos pins s1 σ H1 _ I1 q) fun us s2 ⟨vs, H2, I2, r, l1, l2, q2⟩ => ⟨I2.kIn, ?_⟩
  exact run_gS (ws := []) (zs := []) (ks := []) OK hr hgd B (passAt hx _) I2 r .nil l1 l2 q2
end
/-! readings -/
section
variable {K : PySem.W.Frag} {m : Str} {n kn mn : Nat} {gV : PySem.W.Frag → List V → List V → List V} {sp : Sp} {W : WX} {Ms : List MA} {Fs : List FAx} {ta tf : TE} {t tk : TA} {σ : L2.St} {H : Hp} {Q : VK} {a dx C f : Addr} {fs : List (Str × V)}
theorem i_callS (h : t σ H fun vs H1 => tk σ H1 fun zs H2 => vs.length = n ∧ zs.length = mn ∧ sp (gV K vs zs) H2 Q (WE W σ)) : zCallS K n mn gV sp W t tk σ H Q := h
theorem i_MS (h : ta σ H fun x H1 => zM1S K m kn W Ms t tk x σ H1 Q) : zMS K m kn W Ms ta t tk σ H Q := h
theorem i_MiS (i : Nat) {M : MA} (h : H a = some (.ins M.C dx fs)) (l : fs.lookup m = none) (hi : Ms[i]? = some M)
    (q : t σ H fun vs H2 => tk σ H2 fun zs H3 => (V.ref a :: vs).length = M.n ∧ zs.length = kn ∧ M.sp (M.gV K (.ref a :: vs) zs) H3 Q (WE W σ)) : zM1S K m kn W Ms t tk (.ref a) σ H Q :=
  ⟨M, a, dx, fs, List.mem_of_getElem? hi, rfl, h, l, q⟩
theorem i_VS (h : tf σ H fun x H1 => zV1S K kn W Fs t tk x σ H1 Q) : zVS K kn W Fs tf t tk σ H Q := h
theorem i_ViS (i : Nat) {M : FAx} (hi : Fs[i]? = some M) (q : t σ H fun vs H2 => tk σ H2 fun zs H3 => vs.length = M.n ∧ zs.length = kn ∧ M.sp (M.gV K vs zs) H3 Q (WE W σ)) : zV1S K kn W Fs t tk (.ref M.f) σ H Q :=
  ⟨M, List.mem_of_getElem? hi, rfl, q⟩
def zMk1S (K : PySem.W.Frag) (C : Addr) (n m : Nat) (gV : PySem.W.Frag → List V → List V → List V) (sp : Sp) (W : WX) (σ : L2.St) (vs zs : List V) (H2 : Hp) (Q : VK) : Prop :=
  vs.length + 1 = n ∧ zs.length = m ∧ ∀ x dx H3, Made H2 x dx C H3 → sp (gV K (.ref x :: vs) zs) H3 (fun v H4 => v = .non ∧ Q (.ref x) H4) (WE W σ)
theorem i_makeS (h : t σ H fun vs H1 => tk σ H1 fun zs H2 => zMk1S K C n mn gV sp W σ vs zs H2 Q) : zMakeS K C n mn gV sp W t tk σ H Q := by
  show t σ H _
  refine cast (congrArg (t σ H) (funext fun vs => funext fun H1 => congrArg (tk σ H1) (funext fun zs => funext fun H2 => propext ⟨?_, ?_⟩))) h
  · rintro ⟨a, b, c⟩
    exact ⟨a, b, fun x dx f1 f2 ne => c x dx _ ⟨f1, f2, ne, rfl⟩⟩
  · rintro ⟨a, b, c⟩
    exact ⟨a, b, fun x dx H3 z => z.eq ▸ c x dx z.fr z.fd z.ne⟩
theorem i_mk1S {vs zs : List V} (e1 : vs.length + 1 = n) (e2 : zs.length = mn) (h : ∀ x dx H3, Made H x dx C H3 → sp (gV K (.ref x :: vs) zs) H3 (fun v H4 => v = .non ∧ Q (.ref x) H4) (WE W σ)) : zMk1S K C n mn gV sp W σ vs zs H Q := ⟨e1, e2, h⟩
end
/-- a def's own way out -/
abbrev wo (E : XK) : WX := fun cls d _ H => E cls d H
/-! ### raise -/
def VE : List Value := [.type "ValueError", .type "Exception", .type "BaseException", .type "object"]
def RE : List Value := [.type "RuntimeError", .type "Exception", .type "BaseException", .type "object"]
/-- X may be raised: a class without own __init__, over ValueError -/
def fxExc (x : Str) : Fx := fun K => PySem.W.excIn K (He.ga K x) VE "ValueError.__new__" && (PySem.W.keepIn K (.ref (He.ga K x)) && (decide (PySem.W.subIn K (.ref (He.ga K x)) (.type "BaseException") = some true) && decide (PySem.W.typeIn K (.ref (He.ga K x)) = some (.type "type"))))
def fxExcR (x : Str) : Fx := fun K => PySem.W.excIn K (He.ga K x) RE "RuntimeError.__new__" && (PySem.W.keepIn K (.ref (He.ga K x)) && (decide (PySem.W.subIn K (.ref (He.ga K x)) (.type "BaseException") = some true) && decide (PySem.W.typeIn K (.ref (He.ga K x)) = some (.type "type"))))
def zRaise (t : L2.St → Hp → XK → Prop) (W : WX) : TZ := fun _ _ _ _ σ H => t σ H fun cls d H' => W cls d σ H'
def mkOwn (C : Addr) : L2.St → Hp → XK → Prop := fun _ H Q => Q (.ref C) none H
section
variable {X : Cx} {W : WX} {x m : Str} {j : Nat} {p p2 pos pos2 : Pos} {C : Addr}
theorem z_raise0 (hc : X.calm = true) (tk : Takes X W) (f : fxExc x X.K = true) (gC : X.mg x = some (.ref (He.ga X.K x))) (hg : Gl X x) (hdb : (x == ("__debug__" : Str)) = false := by decide) :
    PS X (.Raise (some (.Call (.Name x p) [.Constant (.str m) j p2] [] pos)) none pos2) (zS (zRaise (mkOwn (He.ga X.K x)) W)) := by
  obtain ⟨f1, f⟩ := He.ba f
  obtain ⟨f2, f⟩ := He.ba f
  obtain ⟨f3, f4⟩ := He.ba f
  exact ps_raise hc tk (pmk_own PySem.F.excBase_ValueError f1 gC f2 (raises_own (of_decide_eq_true f3) (of_decide_eq_true f4)) hg hdb)
theorem z_raise0R (hc : X.calm = true) (tk : Takes X W) (f : fxExcR x X.K = true) (gC : X.mg x = some (.ref (He.ga X.K x))) (hg : Gl X x) (hdb : (x == ("__debug__" : Str)) = false := by decide) :
    PS X (.Raise (some (.Call (.Name x p) [.Constant (.str m) j p2] [] pos)) none pos2) (zS (zRaise (mkOwn (He.ga X.K x)) W)) := by
  obtain ⟨f1, f⟩ := He.ba f
  obtain ⟨f2, f⟩ := He.ba f
  obtain ⟨f3, f4⟩ := He.ba f
  exact ps_raise hc tk (pmk_own PySem.F.excBase_RuntimeError f1 gC f2 (raises_own (of_decide_eq_true f3) (of_decide_eq_true f4)) hg hdb)
theorem i_raise0 {nx bk ct : L2.St → Hp → Prop} {rt : VK} {σ : L2.St} {H : Hp} (h : W (.ref C) none σ H) : zRaise (mkOwn C) W nx rt bk ct σ H := h
end
/-! ### try .. except X as e -/
def zTryAs (K : PySem.W.Frag) (c : Value) (i : Nat) (tb : WX → TZ) (ts : Addr → Value → Option Addr → TZ) (Wout : WX) : TZ := fun nx rt bk ct σ H =>
  tb (wAs K c i (fun a cls d => zS (ts a cls d)) Wout ⟨nx, rt, bk, ct⟩) nx rt bk ct σ H
section
variable {X : Cx} {x n : Str} {c : Value} {i : Nat} {body suite : List Stmt} {b₀ : Stmt} {np pos pos' : Pos} {tb : WX → TZ} {ts : Addr → Value → Option Addr → TZ} {Wout : WX}
theorem z_try_as (hs : X.stack = X.env :: X.outer) (hf : X.env.frame = some X.env.locals) (hN : X.N.Nodup) (hi : X.N[i]? = some n) (hln : X.env.kindOf n = some .local) (hc : Names X x c) (tk : Takes X Wout)
    (hb : ∀ (W : WX) (pn : List (Addr × Obj)) (xe : Value → Shared → Prop), Takes (X.tr pn xe) W → PassesOwn (model X.prog X.w) X.A X.env xe → PSs (X.tr pn xe) body (zS (tb W)))
    (hsu : ∀ (a : Addr) (oe : Obj) (cls : Value) (d : Option Addr) (pn : List (Addr × Obj)), Zc cls d oe → (∃ vs, oe.data = .fields vs) → PSs (X.suite a ((a, oe) :: pn)) (b₀ :: suite) (zS (ts a cls d))) :
    PS X (.Try body [.ExceptHandler (some (.Name x np)) (some n) (b₀ :: suite) pos'] [] [] pos) (zS (zTryAs X.K c i tb ts Wout)) :=
  ps_try_as (tb := fun W => zS (tb W)) (ts := fun a cls d => zS (ts a cls d)) hs hf hN hi hln hc tk hb hsu
theorem names_g {X : Cx} {x : Str} {c : Value} (hg : Gl X x) (h : X.mg x = some c) (hd : (x == ("__debug__" : Str)) = false := by decide) : Names X x c := ⟨hg, hd, .inl h⟩
end
section
variable {K : PySem.W.Frag} {c cls : Value} {i : Nat} {tb : WX → TZ} {ts : Addr → Value → Option Addr → TZ} {Wout : WX} {nx bk ct : L2.St → Hp → Prop} {rt : VK} {σ : L2.St} {H : Hp} {d : Option Addr}
theorem i_tryAs (h : tb (wAs K c i (fun a cls d => zS (ts a cls d)) Wout ⟨nx, rt, bk, ct⟩) nx rt bk ct σ H) : zTryAs K c i tb ts Wout nx rt bk ct σ H := h
/-- caught -/
theorem i_catch (e : PySem.W.exmOne K cls c = some true) (h : ∀ a, H a = none → ts a cls d (fun σ' H' => nx (σ'.set i none) H') rt (fun σ' H' => bk (σ'.set i none) H') (fun σ' H' => ct (σ'.set i none) H') (σ.set i (some (.ref a))) H) :
    wAs K c i (fun a cls d => zS (ts a cls d)) Wout ⟨nx, rt, bk, ct⟩ cls d σ H := ⟨true, e, fun _ => h, fun z => by cases z⟩
theorem i_miss (e : PySem.W.exmOne K cls c = some false) (h : Wout cls d σ H) : wAs K c i (fun a cls d => zS (ts a cls d)) Wout ⟨nx, rt, bk, ct⟩ cls d σ H := ⟨false, e, (fun z => by cases z), fun _ => h⟩
end
def fxExm (x c : Str) (b : Bool) : Fx := fun K => decide (PySem.W.exmOne K (.ref (He.ga K x)) (.ref (He.ga K c)) = some b)
theorem fxExm_ok {K : PySem.W.Frag} {x c : Str} {b : Bool} (h : fxExm x c b K = true) : PySem.W.exmOne K (.ref (He.ga K x)) (.ref (He.ga K c)) = some b := of_decide_eq_true h
/-! ### isinstance of what is caught -/
structure ExC (K : PySem.W.Frag) (D : Addr) : Prop where
  hcl : (PySem.W.clsIn K D).isSome = true
  hga : PySem.W.findIn K (.ref D) "__getattribute__" = some (some (.builtin "BaseException.__getattribute__"))
  hgt : PySem.W.findIn K (.ref D) "__getattr__" = some none
  hsub : PySem.W.subIn K (.ref D) (.type "BaseException") = some true
  ha : PySem.W.findIn K (.ref D) "__class__" = some (some (.builtin "object.__class__"))
  hn : PySem.W.specialIn K (.builtin "object.__class__") "__get__" = some (some (.builtin "getset_descriptor.__get__"))
  htk : PySem.W.takesIn K (.builtin "object.__class__") = some true
  hm : PySem.W.mroIn K D (.type "object") = some true
def fxExC (x : Str) : Fx := fun K => (PySem.W.clsIn K (He.ga K x)).isSome && (He.eqO (PySem.W.findIn K (.ref (He.ga K x)) "__getattribute__") (some (some (.builtin "BaseException.__getattribute__"))) && (He.eqO (PySem.W.findIn K (.ref (He.ga K x)) "__getattr__") (some none) &&
  (decide (PySem.W.subIn K (.ref (He.ga K x)) (.type "BaseException") = some true) && (He.eqO (PySem.W.findIn K (.ref (He.ga K x)) "__class__") (some (some (.builtin "object.__class__"))) &&
  (He.eqO (PySem.W.specialIn K (.builtin "object.__class__") "__get__") (some (some (.builtin "getset_descriptor.__get__"))) && (decide (PySem.W.takesIn K (.builtin "object.__class__") = some true) && decide (PySem.W.mroIn K (He.ga K x) (.type "object") = some true)))))))
theorem fxExC_ok {K : PySem.W.Frag} {x : Str} (h : fxExC x K = true) : ExC K (He.ga K x) := by
  obtain ⟨c1, h⟩ := He.ba h
  obtain ⟨c2, h⟩ := He.ba h
  obtain ⟨c3, h⟩ := He.ba h
  obtain ⟨c4, h⟩ := He.ba h
  obtain ⟨c5, h⟩ := He.ba h
  obtain ⟨c6, h⟩ := He.ba h
  obtain ⟨c7, c8⟩ := He.ba h
  exact ⟨c1, He.eqO_ok c2, He.eqO_ok c3, of_decide_eq_true c4, He.eqO_ok c5, He.eqO_ok c6, of_decide_eq_true c7, of_decide_eq_true c8⟩
/-- the exception's dict, if any, stands -/
def DOk (d : Option Addr) (H : Hp) : Prop := d = none ∨ ∃ dd fs, d = some dd ∧ H dd = some (.xd fs)
def rIsE (K : PySem.W.Frag) (cls : Value) (d : Option Addr) (a : Addr) : List V → Hp → VK → Prop := fun xs H Q => ∃ (D : Addr) (c : V) (cv : Value) (b : Bool), xs = [.ref a, c] ∧ cls = .ref D ∧ ExC K D ∧ DOk d H ∧ ClsV c cv ∧ PySem.W.kitOne K (.ref D) cv = some b ∧ Q (.bl b) H
def rIsET (K : PySem.W.Frag) (cls : Value) (d : Option Addr) (a : Addr) : List V → Hp → VK → Prop := fun xs H Q => ∃ (D tp : Addr) (cs : List V) (us : List Value) (b : Bool), xs = [.ref a, .ref tp] ∧ cls = .ref D ∧ ExC K D ∧ DOk d H ∧ H tp = some (.tup cs) ∧ Paired ClsV cs us ∧ PySem.W.kitAny K (.ref D) us = some b ∧ Q (.bl b) H
section
variable {X : Cx} {a : Addr} {oe : Obj} {cls : Value} {d : Option Addr} {pn : List (Addr × Obj)}
theorem inst_of {D : Addr} {pins : List (Addr × Obj)} {σ : L2.St} {H : Hp} {s : Shared} (I : Inv (X.suite a ((a, oe) :: pn)) pins σ H s) (hz : Zc (.ref D) d oe) (hf : ∃ vs, oe.data = .fields vs) (hd : DOk d H) : ∃ od, PySem.W.InstAt s.heap a oe D od := by
  obtain ⟨hget, _⟩ := I.pin (a, oe) (List.mem_append.mpr (.inl List.mem_cons_self))
  obtain ⟨vs, hv⟩ := hf
  have no : PySem.W.notCls oe = true := by unfold PySem.W.notCls; rw [hv] <;> rfl
  rcases hd with rfl | ⟨dd, fs, rfl, e⟩
  · exact ⟨none, hget, hz.1, no, by rw [hz.2]; trivial⟩
  · have hx : ObjOk X.prog X.w H s.heap dd (.xd fs) := I.hok dd _ e
    obtain ⟨mA, hns, hr⟩ := hx
    obtain ⟨od, ho, hl⟩ := lookIn_ns hns
    exact ⟨some od, hget, hz.1, no, by rw [hz.2]; exact ho⟩
theorem cisiE (K : PySem.W.Frag) (hK : X.K = K) (hz : Zc cls d oe) (hf : ∃ vs, oe.data = .fields vs) : CallR (X.suite a ((a, oe) :: pn)) (.builtin "isinstance") (rIsE K cls d a) := by
  subst hK
  intro pins s σ H xs us Q I r h
  obtain ⟨D, c, cv, b, rfl, rfl, C, hd, hc, e, q⟩ := h
  obtain ⟨u1, u2, rfl, r1, r2⟩ := vals2 r
  have e2 := hc.eq r2
  subst e2
  obtain rfl : u1 = Value.ref a := r1
  obtain ⟨od, J⟩ := inst_of I hz hf hd
  exact PySem.W.kia_one (PySem.W.kitx_exc C.hcl C.hga C.hgt C.hsub C.ha C.hn C.htk C.hm) I.kIn J e (fun z => nomatch z) fun tk => ⟨.bl b, H, I.kept (t' := tk) fun _ _ z => z, rfl, q⟩
theorem cisiET (K : PySem.W.Frag) (hK : X.K = K) (hz : Zc cls d oe) (hf : ∃ vs, oe.data = .fields vs) : CallR (X.suite a ((a, oe) :: pn)) (.builtin "isinstance") (rIsET K cls d a) := by
  subst hK
  intro pins s σ H xs us Q I r h
  obtain ⟨D, tp, cs, cus, b, rfl, rfl, C, hd, ht, hc, e, q⟩ := h
  obtain ⟨u1, u2, rfl, r1, r2⟩ := vals2 r
  obtain rfl : u1 = Value.ref a := r1
  obtain rfl : u2 = Value.ref tp := r2
  obtain ⟨od, J⟩ := inst_of I hz hf hd
  obtain ⟨its, rv, ⟨⟨cls', dd, data, sl⟩, ho, hcc, n, hdd⟩, hs⟩ := I.tuple (SqT.of ht)
  simp only at hcc hdd
  subst hcc hdd
  obtain rfl := ClsV.all hc rv
  exact PySem.W.kia_tup (PySem.W.kitx_exc C.hcl C.hga C.hgt C.hsub C.ha C.hn C.htk C.hm) I.kIn J ho e (fun z => nomatch z) fun tk => ⟨.bl b, H, I.kept (t' := tk) fun _ _ z => z, rfl, q⟩
end
section
variable {K : PySem.W.Frag} {a D T : Addr} {cls : Value} {d : Option Addr} {H : Hp} {Q : VK} {b : Bool} {n : String}
theorem i_isE (C : ExC K D) (hd : DOk d H) (e : PySem.W.kitOne K (.ref D) (.ref T) = some b) (q : Q (.bl b) H) : rIsE K (.ref D) d a [V.ref a, .ref T] H Q := ⟨D, .ref T, .ref T, b, rfl, rfl, C, hd, .own T, e, q⟩
theorem i_isEB (C : ExC K D) (hd : DOk d H) (e : PySem.W.kitOne K (.ref D) (.type n) = some b) (q : Q (.bl b) H) : rIsE K (.ref D) d a [V.ref a, .ty n] H Q := ⟨D, .ty n, .type n, b, rfl, rfl, C, hd, .ty n, e, q⟩
end
def fxKitT (x : Str) (n : String) (b : Bool) : Fx := fun K => decide (PySem.W.kitOne K (.ref (He.ga K x)) (.type n) = some b)
theorem fxKitT_ok {K : PySem.W.Frag} {x : Str} {n : String} {b : Bool} (h : fxKitT x n b K = true) : PySem.W.kitOne K (.ref (He.ga K x)) (.type n) = some b := of_decide_eq_true h
end Z

/-! Z: is None, pop, more. -/
namespace Z
open PySem PySem.Spec PyProof.Rows L2
def rIsN : R2 := fun x y H Q => y = .non ∧ Q (.bl (decide (x = .non))) H
def rIsNn : R2 := fun x y H Q => y = .non ∧ Q (.bl (!decide (x = .non))) H
theorem opIs {X : Cx} : OpR X (compareOp .Is) rIsN := op_isN
theorem opIsNot {X : Cx} : OpR X (compareOp .IsNot) rIsNn := op_notN
section
variable {K : PySem.W.Frag} {H : Hp} {Q : VK} {p : Addr} {xs : List V} {v : V} {i : Int} {a : Str}
theorem i_isR (q : Q (.bl false) H) : rIsN (.ref p) .non H Q := ⟨rfl, q⟩
theorem i_isN (q : Q (.bl true) H) : rIsN .non .non H Q := ⟨rfl, q⟩
theorem i_isI (q : Q (.bl false) H) : rIsN (.int i) .non H Q := ⟨rfl, q⟩
theorem i_isnR (q : Q (.bl true) H) : rIsNn (.ref p) .non H Q := ⟨rfl, q⟩
theorem i_isnN (q : Q (.bl false) H) : rIsNn .non .non H Q := ⟨rfl, q⟩
theorem i_isnI (q : Q (.bl true) H) : rIsNn (.int i) .non H Q := ⟨rfl, q⟩
theorem i_popAt {j : Nat} (h : H p = some (.lst xs)) (e : xs[j]? = some v) (z : xs.length ≤ 1000000) (k : ∀ H', Up H p (.lst (xs.eraseIdx j)) H' → Q v H') : rPopAt (.ref p) [.int (j : Nat)] H Q := by
  have hl := (List.getElem?_eq_some_iff.mp e).1
  exact ⟨p, xs, j, j, v, rfl, rfl, h, by omega, by omega, (ixN_seq (ixN_nat hl)).1, e, k _ ⟨⟨_, h⟩, rfl⟩⟩
theorem i_pop0 (h : H p = some (.lst (v :: xs))) (z : xs.length ≤ 100000) (k : ∀ H', Up H p (.lst xs) H' → Q v H') : rPopAt (.ref p) [.int 0] H Q :=
  i_popAt (j := 0) h rfl (by rw [List.length_cons]; omega) k
end
section
variable {K : PySem.W.Frag} {m : Str} {kn : Nat} {W : WX} {Ms : List MA} {Fs : List FAx} {ta tf : TE} {t tk : TA} {σ : L2.St} {H : Hp} {Q : VK}
theorem i_MSo (h : ta σ H fun x H1 => zM1 K m kn (WE W σ) Ms t tk x σ H1 Q) : zMS K m kn W Ms ta t tk σ H Q := h
theorem i_VSo (h : tf σ H fun x H1 => zV1 K kn (WE W σ) Fs t tk x σ H1 Q) : zVS K kn W Fs tf t tk σ H Q := h
end
section
variable {K : PySem.W.Frag} {kn : Nat} {E : XK} {Fs : List FAx} {t tk : TA} {σ : L2.St} {H : Hp} {Q : VK} {x : V}
theorem i_Vg (R : V → Hp → Prop) (k : ∀ v H', R v H' → Q v H') (h : ∀ Q' : VK, (∀ v H', R v H' → Q' v H') → zV1 K kn E Fs t tk x σ H Q') : zV1 K kn E Fs t tk x σ H Q := h Q k
end
/-! guards for the search: a step to H' is known -/
theorem gN {H H' : Hp} {p a : Addr} {o u : HO} (n : New H p o H') (x : H' a = some u) : H' a = some u := x
theorem gM {H H' : Hp} {p dx C a : Addr} {u : HO} (n : Made H p dx C H') (x : H' a = some u) : H' a = some u := x
theorem gU {H H' : Hp} {p a : Addr} {o u : HO} (n : Up H p o H') (x : H' a = some u) : H' a = some u := x
theorem gsN {H H' H0 : Hp} {p : Addr} {o : HO} (n : New H p o H') (x : Same H0 H') : Same H0 H' := x
theorem gsM {H H' H0 : Hp} {p dx C : Addr} (n : Made H p dx C H') (x : Same H0 H') : Same H0 H' := x
theorem gsU {H H' H0 : Hp} {p : Addr} {o : HO} (n : Up H p o H') (x : Same H0 H') : Same H0 H' := x
theorem gbN {H H' H0 : Hp} {p a : Addr} {o : HO} (n : New H p o H') (x : But a H0 H') : But a H0 H' := x
theorem gbM {H H' H0 : Hp} {p dx C a : Addr} (n : Made H p dx C H') (x : But a H0 H') : But a H0 H' := x
theorem gbU {H H' H0 : Hp} {p a : Addr} {o : HO} (n : Up H p o H') (x : But a H0 H') : But a H0 H' := x
/-! one look at the heap, then by the object's kind -/
def ixA : HO → Int → Option V
  | .lst xs, i => atI xs i
  | .tup xs, i => atI xs i
  | _, _ => none
theorem i_ixA {K : PySem.W.Frag} {H : Hp} {Q : VK} {p : Addr} {o : HO} {i : Int} {v : V} (h : H p = some o) (e : ixA o i = some v) (q : Q v H) : rIx K (.ref p) (.int i) H Q := by
  cases o with
  | lst xs => exact i_ixL h e q
  | tup xs => exact i_ixT h e q
  | _ => cases e
def lenA : HO → Option Nat
  | .lst xs => some xs.length
  | .tup xs => some xs.length
  | _ => none
theorem i_lenA {K : PySem.W.Frag} {H : Hp} {Q : VK} {p : Addr} {o : HO} {n : Nat} (h : H p = some o) (e : lenA o = some n) (q : Q (.int (n : Nat)) H) : rLenU K [V.ref p] H Q := by
  cases o with
  | lst xs => exact i_lenL h (Option.some.inj e ▸ q)
  | tup xs => exact i_lenT h (Option.some.inj e ▸ q)
  | _ => cases e
theorem len_lm {ns : List Int} : lenA (.lst (ns.map V.int)) = some ns.length := by simp [lenA]
theorem len_tm {ns : List Int} : lenA (.tup (ns.map V.int)) = some ns.length := by simp [lenA]
/-- what is walked -/
inductive SeqA : HO → Bool → Prop where
  | l (xs : List V) : SeqA (.lst xs) true
  | t (xs : List V) : SeqA (.tup xs) false
theorem i_sA {K : PySem.W.Frag} {H : Hp} {a : Addr} {o : HO} {b : Bool} {R : It → Hp → Prop} (h : H a = some o) (e : SeqA o b) (q : R (if b = true then Itl K a else Itt K a) H) : zItS K (.ref a) H R := by
  cases e with
  | l xs => exact i_sL h q
  | t xs => exact i_sT h q
end Z

/-! Z: xs[::k]. -/
namespace Z
open PySem PySem.Spec PyProof.Rows L2
/-- every k-th -/
def stepped {α : Type} (k : Nat) (xs : List α) : List α := gP ((List.range ((xs.length + k - 1) / k)).map fun i => k * i) xs
theorem bounds_step (k n : Nat) (hk : 1 ≤ k) : sliceBounds none none (some (k : Int)) n = (0, (n : Int), (k : Int)) := by
  unfold sliceBounds
  simp
  omega
theorem range_step (k n : Nat) (hk : 1 ≤ k) : sliceRange 0 (n : Int) (k : Int) = (List.range ((n + k - 1) / k)).map fun i => k * i := by
  unfold sliceRange
  simp only
  rw [if_pos (by omega)]
  by_cases h : n = 0
  · subst h
    rw [if_neg (by omega)]
    have : (0 + k - 1) / k = 0 := Nat.div_eq_of_lt (by omega)
    rw [this]; rfl
  · rw [if_pos (by omega)]
    have e : (((n : Int) - 0 + (k : Int) - 1) / (k : Int)).toNat = (n + k - 1) / k := by
      rw [show ((n : Int) - 0 + (k : Int) - 1) = ((n + k - 1 : Nat) : Int) by omega, ← Int.natCast_ediv]
      exact Int.toNat_natCast _
    rw [e]
    refine List.map_congr_left fun i _ => ?_
    rw [Int.zero_add]
    have : (k : Int) * (i : Int) = ((k * i : Nat) : Int) := by simp
    rw [this]
    exact Int.toNat_natCast _
theorem pick_step (items : List Value) (k : Nat) (hk : 1 ≤ k) : slicePick items.toArray none none (some (k : Int)) = (stepped k items).toArray := by
  unfold slicePick
  rw [bounds_step _ _ hk]
  simp only [List.size_toArray]
  rw [range_step _ _ hk]
  unfold stepped gP
  congr 1
  refine congrArg (fun f => List.filterMap f _) (funext fun x => ?_)
  exact List.getElem?_toArray
theorem gP_len {α : Type} (idx : List Nat) (l : List α) : (gP idx l).length ≤ idx.length := List.length_filterMap_le _ _
theorem stepped_len {α : Type} (k : Nat) (xs : List α) (hk : 1 ≤ k) : (stepped k xs).length ≤ xs.length := by
  refine Nat.le_trans (gP_len _ _) ?_
  rw [List.length_map, List.length_range]
  have : (xs.length + k - 1) / k ≤ xs.length := by
    by_cases h : xs.length = 0
    · rw [h, Nat.div_eq_of_lt (by omega)]; omega
    · refine Nat.div_le_of_le_mul ?_
      have : k * xs.length ≥ 1 * xs.length + (k - 1) := by
        have e : k = (k - 1) + 1 := by omega
        rw [e, Nat.add_mul]
        have : (k - 1) * 1 ≤ (k - 1) * xs.length := Nat.mul_le_mul_left _ (by omega)
        omega
      omega
  exact this
/-- xs[::k] -/
def zSlK (K : PySem.W.Frag) (x : V) (o : Option Int) (H2 : Hp) (Q : VK) : Prop := ∃ (a : Addr) (xs : List V) (m : Nat), x = .ref a ∧ o = some (m : Int) ∧ 1 ≤ m ∧ SqL K H2 a xs ∧ ∀ p H', New H2 p (.lst (stepped m xs)) H' → Q (.ref p) H'
def tSlK (K : PySem.W.Frag) (te ts : TE) : TE := fun σ H Q => te σ H fun x H1 => ts σ H1 fun y H2 => ∃ i, y = .int i ∧ zSlK K x (some i) H2 Q
theorem stepped_rel {xs : List V} {us : List Value} (r : Vals xs us) (m : Nat) : Vals (stepped m xs) (stepped m us) := by
  unfold stepped
  rw [r.length]
  exact gP_rel r _
theorem pe_slK {X : Cx} (K : PySem.W.Frag) (hK : X.K = K) {e se : Expr} {te ts : TE} {p3 pos : Pos} (he : PE X e te) (hs : PE X se ts)
    (ht : ∀ (l r : Value) (ops : List Value), subscripted (.Slice none none (some se) p3) false l r = operate [l, r] (getItem l r) := by intros; with_unfolding_all rfl)
    (hg : ∀ (l r : Value), letTemporaryGo e l r = pure () := by intros; with_unfolding_all rfl) : PE X (.Subscript e (.Slice none none (some se) p3) pos) (tSlK K te ts) := by
  subst hK
  refine ⟨fun pins s σ H Q I h => ?_⟩
  refine Subscript_ (thn (he.run pins s σ H _ I h) fun v s1 ⟨x, H1, I1, r1, q1⟩ => ?_)
  refine wpAny_Slice (thn (po_none.run pins s1 σ H1 (fun o H2 => o = none ∧ H2 = H1) I1 ⟨rfl, rfl⟩) fun vl s2 ⟨l, H2, I2, pl, el, e2⟩ => ?_)
  subst el e2
  refine thn (po_none.run pins s2 σ H2 (fun o H3 => o = none ∧ H3 = H2) I2 ⟨rfl, rfl⟩) fun vu s3 ⟨u, H3, I3, pu, eu, e3⟩ => ?_
  subst eu e3
  have hpo : PO X (some se) (tPart ts) := po_some hs
  refine thn (hpo.run pins s3 σ H3 (fun o H4 => zSlK X.K x o H4 Q) I3 q1) fun vs s4 ⟨o, H4, I4, ps, q⟩ => ?_
  obtain ⟨a, xs, m, ex, eo, hm, hx, q⟩ := q
  subst ex eo
  obtain rfl : v = Value.ref a := r1
  have I5 : Inv X pins σ H4 { s4 with heap := s4.heap.push { cls := .type "slice", data := .fields #[vl, vu, vs] } } := I4.kept (t' := s4.toks) fun b ob z => Heap.get?_push_of_some _ z
  obtain ⟨its, r, hl, hz⟩ := I5.list hx
  have hlen := r.length
  show wpAny _ _ (subscriptTail e (.Slice none none (some se) p3) (.ref a) (.ref s4.heap.objs.size)) _ _ _
  refine tail_any (ops := [.ref a, .ref s4.heap.objs.size]) hl.isList.typeIs PySem.slot_list_getitem.lookup ?_ (ht _ _ [])
  refine wpAny_getItem_list_slice hl.isList (Heap.IsSliceOf.new _ vl vu vs) pl pu ps (fun z => by have := Option.some.inj z; omega) ?_ (by rw [List.size_toArray]; omega)
  rw [pick_step _ _ hm]
  refine ⟨.ref _, _, I5.laid (t' := s4.toks) (o := .lst (stepped m xs)) (fun b ob z => Heap.get?_push_of_some _ z) (Nat.le_refl _) ?_, rfl, q _ _ ⟨I5.hok.fresh (Nat.le_refl _), rfl⟩⟩
  exact ⟨Nat.le_trans (stepped_len m xs hm) hz, _, 0, stepped_rel r m, Heap.get?_push_size _ rfl⟩
section
variable {K : PySem.W.Frag} {te ts : TE} {σ : L2.St} {H : Hp} {Q : VK} {p : Addr} {xs : List V} {m : Nat} {G : Int → Prop} {i : Int}
theorem i_slK (h : te σ H fun x H1 => ts σ H1 fun y H2 => ∃ i, y = .int i ∧ zSlK K x (some i) H2 Q) : tSlK K te ts σ H Q := h
theorem i_slKL (h : H p = some (.lst xs)) (hm : 1 ≤ m) (k : ∀ r H', New H r (.lst (stepped m xs)) H' → Q (.ref r) H') : zSlK K (.ref p) (some (m : Int)) H Q := ⟨p, xs, m, rfl, rfl, hm, SqL.of h, k⟩
end
theorem gP_map {α β : Type} (f : α → β) (idx : List Nat) (l : List α) : gP idx (l.map f) = (gP idx l).map f := by
  unfold gP
  rw [List.map_filterMap]
  refine congrArg (fun h => List.filterMap h idx) (funext fun i => ?_)
  rw [List.getElem?_map]
theorem stepped_map {α β : Type} (f : α → β) (k : Nat) (xs : List α) : stepped k (xs.map f) = (stepped k xs).map f := by
  unfold stepped
  rw [gP_map, List.length_map]
section
variable {K : PySem.W.Frag} {σ : L2.St} {H : Hp} {Q : VK} {R : It → Hp → Prop} {g : TG} {tb : TZ} {nx : L2.St → Hp → Prop} {rt : VK} {n : Nat} {lo c : Int}
def zR3 (vs : List V) (H1 : Hp) (R : It → Hp → Prop) : Prop := ∃ i j c n, vs = [V.int i, V.int j, V.int c] ∧ RgC i j c n ∧ R (Itc i c n) H1
theorem i_rng3 {ta : TA} (h : ta σ H fun vs H1 => zR3 vs H1 R) : iRng3 ta σ H R := h
/-- for x in range(lo, hi, c) -/
theorem loop_step (Pv : Nat → L2.St → Hp → Prop) (h0 : Pv 0 σ H) (hs : ∀ i σ H, i < n → Pv i σ H → g (.int (lo + (i : Nat) * c)) σ H fun σ2 H2 => tb (Pv (i + 1)) rt nx (Pv (i + 1)) σ2 H2) (hd : ∀ σ H, Pv n σ H → nx σ H) :
    zLoop (Itc lo c n) g tb nx rt σ H := by
  refine loop_by n Pv h0 (fun i σ H hi p => hi) (fun σ H p => Nat.le_refl _) (fun i x σ H H' hi p y => ?_) hd
  obtain ⟨e, y⟩ := y
  subst e y
  exact hs i σ _ hi p
end
/-- range(0, n * c, c) -/
theorem rgc0 {n c : Nat} (hc : 1 ≤ c) (hn : n * c < 1073741824) (hc2 : c < 1073741824) : RgC 0 ((n * c : Nat) : Int) (c : Nat) n := by
  have sz : Builtin.Range.rangeSize 0 ((n * c : Nat) : Int) (c : Nat) = (n : Nat) := by
    unfold Builtin.Range.rangeSize
    rw [if_pos (by omega)]
    by_cases h : n = 0
    · subst h; simp
    · have : 1 ≤ n * c := Nat.mul_pos (by omega) (by omega)
      rw [if_pos (by omega)]
      obtain ⟨m, rfl⟩ : ∃ m, n = m + 1 := ⟨n - 1, by omega⟩
      have e : (((m + 1) * c : Nat) : Int) - 0 - 1 = ((c - 1 : Nat) : Int) + (c : Nat) * (m : Nat) := by
        rw [Nat.add_mul, Nat.one_mul, Nat.mul_comm m c]
        rw [show ((c - 1 : Nat) : Int) = (c : Nat) - 1 by omega]
        have : (((c * m : Nat)) : Int) = (c : Nat) * (m : Nat) := by simp
        omega
      rw [e, Int.add_mul_ediv_left _ _ (by omega), Int.ediv_eq_zero_of_lt (by omega) (by omega)]
      omega
  refine ⟨by omega, by omega, ?_, sz⟩
  unfold Builtin.Range.small
  rw [sz]
  have : n ≤ n * c := Nat.le_mul_of_pos_right n (by omega)
  rw [if_pos (by omega : ((c : Nat) : Int) > 0)]
  generalize n * c = m at *
  simp only [Builtin.Range.rangeFitsLong, Bool.and_eq_true, Bool.or_eq_true, decide_eq_true_eq, beq_iff_eq]
  omega
theorem i_rng3L {R : It → Hp → Prop} {H : Hp} {n c : Nat} (hc : 1 ≤ c) (hn : n * c < 1073741824) (hc2 : c < 1073741824) (q : R (Itc 0 (c : Nat) n) H) : zR3 [V.int 0, V.int ((n * c : Nat) : Int), V.int (c : Nat)] H R := ⟨_, _, _, _, rfl, rgc0 hc hn hc2, q⟩
theorem cut_lm {xs : List V} {l m : Nat} (hm : l + m ≤ xs.length) : cutV xs (some (l : Int)) (some ((l : Int) + (m : Int))) = (xs.drop l).take m := by
  unfold cutV
  rw [← Int.natCast_add, HT.sIx_nat, HT.sIx_nat, Nat.min_eq_left hm, Nat.min_eq_left (show l ≤ xs.length by omega), Nat.add_sub_cancel_left]
section
variable {K : PySem.W.Frag} {H : Hp} {Q : VK} {p : Addr} {xs : List V} {l m : Nat}
/-- xs[l:l + m], within -/
theorem i_slLM (h : H p = some (.lst xs)) (hm : l + m ≤ xs.length) (k : ∀ r H', New H r (.lst ((xs.drop l).take m)) H' → Q (.ref r) H') : rSlU K (.ref p) (some (l : Int)) (some ((l + m : Nat) : Int)) H Q := by
  have e : cutV xs (some (l : Int)) (some ((l + m : Nat) : Int)) = (xs.drop l).take m := by
    unfold cutV
    rw [HT.sIx_nat, HT.sIx_nat, Nat.min_eq_left hm, Nat.min_eq_left (show l ≤ xs.length by omega), Nat.add_sub_cancel_left]
  exact i_slL h fun r H' n => k r H' (e ▸ n)
theorem i_slLt (h : H p = some (.lst xs)) (k : ∀ r H', New H r (.lst (xs.take m)) H' → Q (.ref r) H') : rSlU K (.ref p) none (some (m : Int)) H Q := by
  have e : cutV xs none (some (m : Int)) = xs.take m := by
    unfold cutV
    rw [HT.sIx_none, HT.sIx_nat, List.drop_zero, Nat.sub_zero]
    by_cases c : m ≤ xs.length
    · rw [Nat.min_eq_left c]
    · rw [Nat.min_eq_right (by omega), List.take_length, List.take_of_length_le (by omega)]
  exact i_slL h fun r H' n => k r H' (e ▸ n)
theorem i_slLd (h : H p = some (.lst xs)) (k : ∀ r H', New H r (.lst (xs.drop m)) H' → Q (.ref r) H') : rSlU K (.ref p) (some (m : Int)) none H Q := by
  have e : cutV xs (some (m : Int)) none = xs.drop m := by
    unfold cutV
    rw [HT.sIx_none, HT.sIx_nat]
    by_cases c : m ≤ xs.length
    · rw [Nat.min_eq_left c, List.take_of_length_le (by rw [List.length_drop]; omega)]
    · rw [Nat.min_eq_right (by omega), List.drop_length, List.drop_of_length_le (by omega), List.take_nil]
  exact i_slL h fun r H' n => k r H' (e ▸ n)
end
end Z

local macro_rules | `(tactic| k_call_by "ne" 0) => `(tactic| first
  | with_reducible assumption
  | ((with_reducible refine Ne.symm ?z_h); (case z_h => with_reducible assumption))
  | ((with_reducible refine Z.Made.nei (H := ?z_H) (dx := ?z_dx) (C := ?z_C) (H' := ?z_H') (u := ?z_u) ?z_n ?z_h); (case z_n => with_reducible assumption); (case z_h => k_call_by "hf" 0))
  | ((with_reducible refine Z.Made.nei' (H := ?z_H) (dx := ?z_dx) (C := ?z_C) (H' := ?z_H') (u := ?z_u) ?z_n ?z_h); (case z_n => with_reducible assumption); (case z_h => k_call_by "hf" 0))
  | ((with_reducible refine Z.New.ne (H := ?z_H) (o := ?z_o) (u := ?z_u) (H' := ?z_H') ?z_n ?z_h); (case z_n => with_reducible assumption); (case z_h => k_call_by "hf" 0))
  | ((with_reducible refine Z.New.ne' (H := ?z_H) (o := ?z_o) (u := ?z_u) (H' := ?z_H') ?z_n ?z_h); (case z_n => with_reducible assumption); (case z_h => k_call_by "hf" 0))
  | ((with_reducible refine Z.ne_fr (H := ?z_H) (u := ?z_u) ?z_f ?z_h); (case z_f => with_reducible assumption); (case z_h => k_call_by "hf" 0))
  | ((with_reducible refine Z.ne_fr' (H := ?z_H) (u := ?z_u) ?z_f ?z_h); (case z_f => with_reducible assumption); (case z_h => k_call_by "hf" 0))
  | fail)
local macro_rules | `(tactic| k_call_by "hf" 0) => `(tactic| first
  | with_reducible assumption
  | ((with_reducible refine Z.New.at (H := ?z_H) ?z_n); (case z_n => with_reducible assumption))
  | ((with_reducible refine Z.New.get (H := ?z_H) (p := ?z_p) (o := ?z_o) ?z_n ?z_h); (case z_n => with_reducible assumption); (case z_h => k_call_by "hf" 0))
  | ((with_reducible refine Z.Made.at (H := ?z_H) (dx := ?z_dx) ?z_n); (case z_n => with_reducible assumption))
  | ((with_reducible refine Z.Made.get (H := ?z_H) (x := ?z_x) (dx := ?z_dx) (C := ?z_C) ?z_n ?z_h); (case z_n => with_reducible assumption); (case z_h => k_call_by "hf" 0))
  | ((with_reducible refine Z.Up.at (H := ?z_H) ?z_n); (case z_n => with_reducible assumption))
  | ((with_reducible refine Z.Up.get (H := ?z_H) (p := ?z_p) (o := ?z_o) ?z_n ?z_ne ?z_h); (case z_n => with_reducible assumption); (case z_ne => k_call_by "ne" 0); (case z_h => k_call_by "hf" 0))
  | ((with_reducible refine Z.same_get (H := ?z_H) ?z_s ?z_h); (case z_s => with_reducible assumption); (case z_h => k_call_by "hf" 0))
  | ((with_reducible refine Z.But.get (H := ?z_H) (p := ?z_p) ?z_n ?z_ne ?z_h); (case z_n => with_reducible assumption); (case z_ne => k_call_by "ne" 0); (case z_h => k_call_by "hf" 0))
  | fail)
local macro_rules | `(tactic| k_call_by "hq" 0) => `(tactic| first
  | with_reducible assumption
  | ((with_reducible refine L2.SqL.of ?z_h); (case z_h => k_call_by "hf" 0))
  | ((with_reducible refine Z.sq_same (H := ?z_H) ?z_s ?z_h); (case z_s => with_reducible assumption); (case z_h => k_call_by "hq" 0))
  | ((with_reducible refine Z.sq_new (H := ?z_H) (p := ?z_p) (o := ?z_o) ?z_n ?z_h); (case z_n => with_reducible assumption); (case z_h => k_call_by "hq" 0))
  | fail)
-- what stood stands
local macro_rules | `(tactic| k_call_by "fh" 0) => `(tactic| first
  | with_reducible assumption
  | ((with_reducible refine Z.New.fr (o := ?z_o) (H' := ?z_H') ?z_n); (case z_n => with_reducible assumption))
  | ((with_reducible refine Z.Made.fr (dx := ?z_dx) (C := ?z_C) (H' := ?z_H') ?z_n); (case z_n => with_reducible assumption))
  | ((with_reducible refine Z.fresh_made (H1 := ?z_H1) (H2 := ?z_H2) (dx := ?z_dx) (C := ?z_C) ?z_n ?z_s); (case z_n => with_reducible assumption); (case z_s => k_call_by "fr" 0))
  | ((with_reducible refine Z.fresh_by (H1 := ?z_H1) (H2 := ?z_H2) (o := ?z_o) ?z_n ?z_s); (case z_n => with_reducible assumption); (case z_s => k_call_by "fr" 0))
  | ((with_reducible refine Z.fresh_at (H1 := ?z_H1) ?z_n ?z_s); (case z_n => with_reducible assumption); (case z_s => k_call_by "fr" 0))
  | ((with_reducible refine Z.fresh_but (H1 := ?z_H1) (H2 := ?z_H2) (o := ?z_o) (a := ?z_a) ?z_n ?z_s ?z_ne); (case z_n => with_reducible assumption); (case z_s => k_call_by "fr" 0); (case z_ne => k_call_by "ne" 0))
  | fail)
local macro_rules | `(tactic| k_call_by "fr" 0) => `(tactic| first
  | with_reducible assumption
  | with_reducible exact L2.Same.refl _
  | with_reducible exact Z.But.refl
  | ((with_reducible refine Z.fr_new (H1 := ?z_H1) (p := ?z_p) (o := ?z_o) ?z_y ?z_x); (case z_y => with_reducible assumption); (case z_x => k_call_by "fr" 0))
  | ((with_reducible refine Z.fr_made (H1 := ?z_H1) (p := ?z_p) (dx := ?z_dx) (C := ?z_C) ?z_y ?z_x); (case z_y => with_reducible assumption); (case z_x => k_call_by "fr" 0))
  | ((with_reducible refine Z.fr_same (H1 := ?z_H1) ?z_y ?z_x); (case z_y => with_reducible assumption); (case z_x => k_call_by "fr" 0))
  | ((with_reducible refine Z.fr_up (H1 := ?z_H1) (p := ?z_p) (o := ?z_o) ?z_y ?z_x ?z_f); (case z_y => with_reducible assumption); (case z_x => k_call_by "fr" 0); (case z_f => k_call_by "fh" 0))
  | ((with_reducible refine Z.fr_but (H1 := ?z_H1) (p := ?z_p) ?z_y ?z_x ?z_f); (case z_y => with_reducible assumption); (case z_x => k_call_by "fr" 0); (case z_f => k_call_by "fh" 0))
  | ((with_reducible refine Z.fb_new (H1 := ?z_H1) (p := ?z_p) (o := ?z_o) ?z_y ?z_x); (case z_y => with_reducible assumption); (case z_x => k_call_by "fr" 0))
  | ((with_reducible refine Z.fb_same (H1 := ?z_H1) ?z_y ?z_x); (case z_y => with_reducible assumption); (case z_x => k_call_by "fr" 0))
  | ((with_reducible refine Z.fb_but (H1 := ?z_H1) ?z_y ?z_x); (case z_y => with_reducible assumption); (case z_x => k_call_by "fr" 0))
  | ((with_reducible refine Z.fb_up (H1 := ?z_H1) (o := ?z_o) ?z_y ?z_x); (case z_y => with_reducible assumption); (case z_x => k_call_by "fr" 0))
  | ((with_reducible refine Z.fb_upn (H1 := ?z_H1) (p := ?z_p) (o := ?z_o) ?z_y ?z_x ?z_f); (case z_y => with_reducible assumption); (case z_x => k_call_by "fr" 0); (case z_f => k_call_by "fh" 0))
  | ((with_reducible refine Z.fb_butn (H1 := ?z_H1) (p := ?z_p) ?z_y ?z_x ?z_f); (case z_y => with_reducible assumption); (case z_x => k_call_by "fr" 0); (case z_f => k_call_by "fh" 0))
  | fail)
-- sizes that fit
local macro_rules | `(tactic| k_call_by "sz" 0) => `(tactic| first
  | with_reducible assumption
  | omega
  | (simp only [PySem.sizeLine_eq, List.length_append, List.length_cons, List.length_nil, List.length_map, List.length_replicate, List.length_reverse, List.length_take, List.length_drop]; omega)
  | (simp only [PySem.sizeLine_eq, List.length_append, List.length_cons, List.length_nil, List.length_map, List.length_replicate, List.length_reverse] at *; omega)
  | fail)
local macro_rules | `(tactic| k_call_by "zb" 0) => `(tactic| first
  | omega
  | (simp only [PySem.sizeLine_eq, List.length_append, List.length_cons, List.length_nil, List.length_map, List.length_replicate, List.length_reverse, List.length_take, List.length_drop]; omega)
  | (simp only [List.length_append, List.length_cons, List.length_nil, List.length_map, List.length_replicate, List.length_reverse] at *; omega)
  | fail)
-- one step
local macro_rules | `(tactic| k_call_by "z" 0) => `(tactic| first
  | with_reducible refine Z.i_seq ?_
  | with_reducible refine Z.i_asg ?_
  | ((with_reducible refine Z.i_var (v := ?z_v) ?z_e ?_); (case z_e => exact rfl))
  | with_reducible refine Z.i_op ?_
  | with_reducible refine Z.i_c ?_
  | with_reducible refine Z.i_name ?_
  | with_reducible refine Z.i_cons ?_
  | with_reducible refine Z.i_nil ?_
  | with_reducible refine Z.i_ret ?_
  | with_reducible refine Z.i_drop ?_
  | with_reducible refine Z.i_if ?_
  | with_reducible refine Z.i_call ?_
  | ((with_reducible refine Z.i_len2 ?z_e ?z_f ?_); (case z_e => exact rfl); (case z_f => exact rfl))
  | with_reducible refine Z.i_cb ?_
  | with_reducible refine Z.i_test ?_
  | with_reducible refine Z.i_blV ?_
  | with_reducible refine Z.i_b ?_
  | with_reducible refine Z.i_and ?_
  | with_reducible refine Z.i_or ?_
  | with_reducible refine Z.i_not ?_
  | with_reducible refine Z.i_next ?_
  | with_reducible refine Z.i_addI ?_
  | with_reducible refine Z.i_I0 ?_
  | with_reducible refine Z.i_U ?_
  | with_reducible refine Z.i_un ?_
  | with_reducible refine Z.i_eqI ?_
  | with_reducible refine Z.i_neI ?_
  | with_reducible refine Z.i_eqS ?_
  | with_reducible refine Z.i_neS ?_
  | with_reducible refine Z.i_ifE ?_
  | with_reducible refine Z.i_sl ?_
  | with_reducible refine Z.i_nopart ?_
  | with_reducible refine Z.i_part ?_
  | with_reducible refine Z.i_partI ?_
  | with_reducible refine Z.i_tup ?_
  | with_reducible refine Z.i_lst ?_
  | ((with_reducible refine Z.i_sz ?z_c ?_); (case z_c => exact Nat.le_of_ble_eq_true rfl))
  | with_reducible refine Z.i_bm ?_
  | with_reducible refine Z.i_bm0 ?_
  | with_reducible refine Z.i_for ?_
  | with_reducible refine Z.i_iList ?_
  | with_reducible refine Z.i_iTup ?_
  | with_reducible refine Z.i_rng1 ?_
  | with_reducible refine Z.i_rng2 ?_
  | with_reducible refine Z.i_enum ?_
  | with_reducible refine Z.i_zip ?_
  | with_reducible refine Z.i_lc ?_
  | with_reducible refine Z.i_yes ?_
  | ((with_reducible refine Z.i_wipe ?z_e ?_); (case z_e => exact rfl))
  | ((with_reducible refine Z.i_mk1 ?z_e ?z_f ?_); (case z_e => exact rfl); (case z_f => exact rfl))
  | ((with_reducible refine Z.i_mk1S ?z_e ?z_f ?_); (case z_e => exact rfl); (case z_f => exact rfl))
  | with_reducible refine Z.i_M ?_
  | with_reducible refine Z.i_V ?_
  | with_reducible refine Z.i_make ?_
  | with_reducible refine Z.i_fldS ?_
  | with_reducible refine Z.i_fld ?_
  | with_reducible refine Z.i_chain ?_
  | with_reducible refine Z.i_notV ?_
  | with_reducible refine Z.ifNT ?_
  | with_reducible refine Z.ifNF ?_
  | with_reducible refine Z.i_iSeqS ?_
  | with_reducible refine Z.i_zipA ?_
  | with_reducible refine Z.i_gcons ?_
  | with_reducible refine Z.i_gnil ?_
  | with_reducible refine Z.i_gsub ?_
  | with_reducible refine Z.i_augS ?_
  | with_reducible refine Z.i_ipI ?_
  | ((with_reducible refine Z.i_aug (x := ?z_x) ?z_e ?_); (case z_e => exact rfl))
  | with_reducible refine Z.i_par ?_
  | with_reducible refine Z.i_par3 ?_
  | with_reducible refine Z.i_two ?_
  | with_reducible refine Z.i_three ?_
  | with_reducible refine Z.i_andV ?_
  | with_reducible refine Z.i_orV ?_
  | with_reducible refine Z.i_isR ?_
  | with_reducible refine Z.i_isN ?_
  | with_reducible refine Z.i_isI ?_
  | with_reducible refine Z.i_isnR ?_
  | with_reducible refine Z.i_isnN ?_
  | with_reducible refine Z.i_isnI ?_
  | with_reducible refine Z.i_dnew ?_
  | with_reducible refine Z.i_slK ?_
  | with_reducible refine Z.i_rng3 ?_
  | with_reducible refine Z.i_callS ?_
  | with_reducible refine Z.i_MSo ?_
  | with_reducible refine Z.i_VSo ?_
  | with_reducible refine Z.i_makeS ?_
  | with_reducible refine Z.i_tryAs ?_
  | with_reducible refine Z.i_raise0 ?_
  | with_reducible refine Z.i_retN ?_
  | with_reducible refine Z.i_break ?_
  | with_reducible refine Z.i_cont ?_
  | with_reducible refine Z.i_max2 ?_
  | with_reducible refine Z.i_min2 ?_
  | with_reducible refine Z.i_intI ?_
  | with_reducible refine Z.i_intB ?_
  | with_reducible refine Z.i_abs ?_
  | with_reducible refine Z.i_part ?_
  | with_reducible refine L2.iteT ?_
  | with_reducible refine L2.iteF ?_
  | k_call_by "zh" 0
  | k_call_by "zn" 0
  | ((with_reducible refine Z.i_isi0 ?_); k_call_by "isi" 0)
  | fail)
local macro_rules | `(tactic| k_call_by "y" 0) => `(tactic| first
  | with_reducible refine Z.i_asg ?_
  | ((with_reducible refine Z.i_var (v := ?z_v) ?z_e ?_); (case z_e => exact rfl))
  | with_reducible refine Z.i_op ?_
  | with_reducible refine Z.i_c ?_
  | with_reducible refine Z.i_name ?_
  | with_reducible refine Z.i_cons ?_
  | with_reducible refine Z.i_nil ?_
  | with_reducible refine Z.i_ret ?_
  | with_reducible refine Z.i_drop ?_
  | with_reducible refine Z.i_call ?_
  | ((with_reducible refine Z.i_len2 ?z_e ?z_f ?_); (case z_e => exact rfl); (case z_f => exact rfl))
  | with_reducible refine Z.i_cb ?_
  | with_reducible refine Z.i_test ?_
  | with_reducible refine Z.i_blV ?_
  | with_reducible refine Z.i_b ?_
  | with_reducible refine Z.i_and ?_
  | with_reducible refine Z.i_or ?_
  | with_reducible refine Z.i_not ?_
  | with_reducible refine Z.i_next ?_
  | with_reducible refine Z.i_addI ?_
  | with_reducible refine Z.i_I0 ?_
  | with_reducible refine Z.i_U ?_
  | with_reducible refine Z.i_un ?_
  | with_reducible refine Z.i_eqI ?_
  | with_reducible refine Z.i_neI ?_
  | with_reducible refine Z.i_eqS ?_
  | with_reducible refine Z.i_neS ?_
  | with_reducible refine Z.i_ifE ?_
  | with_reducible refine Z.i_sl ?_
  | with_reducible refine Z.i_nopart ?_
  | with_reducible refine Z.i_part ?_
  | with_reducible refine Z.i_partI ?_
  | with_reducible refine Z.i_tup ?_
  | with_reducible refine Z.i_lst ?_
  | ((with_reducible refine Z.i_sz ?z_c ?_); (case z_c => exact Nat.le_of_ble_eq_true rfl))
  | with_reducible refine Z.i_bm ?_
  | with_reducible refine Z.i_bm0 ?_
  | with_reducible refine Z.i_for ?_
  | with_reducible refine Z.i_iList ?_
  | with_reducible refine Z.i_iTup ?_
  | with_reducible refine Z.i_rng1 ?_
  | with_reducible refine Z.i_rng2 ?_
  | with_reducible refine Z.i_enum ?_
  | with_reducible refine Z.i_zip ?_
  | with_reducible refine Z.i_lc ?_
  | with_reducible refine Z.i_yes ?_
  | ((with_reducible refine Z.i_wipe ?z_e ?_); (case z_e => exact rfl))
  | ((with_reducible refine Z.i_mk1 ?z_e ?z_f ?_); (case z_e => exact rfl); (case z_f => exact rfl))
  | ((with_reducible refine Z.i_mk1S ?z_e ?z_f ?_); (case z_e => exact rfl); (case z_f => exact rfl))
  | with_reducible refine Z.i_M ?_
  | with_reducible refine Z.i_V ?_
  | with_reducible refine Z.i_make ?_
  | with_reducible refine Z.i_fldS ?_
  | with_reducible refine Z.i_fld ?_
  | with_reducible refine Z.i_chain ?_
  | with_reducible refine Z.i_notV ?_
  | with_reducible refine Z.ifNT ?_
  | with_reducible refine Z.ifNF ?_
  | with_reducible refine Z.i_iSeqS ?_
  | with_reducible refine Z.i_zipA ?_
  | with_reducible refine Z.i_gcons ?_
  | with_reducible refine Z.i_gnil ?_
  | with_reducible refine Z.i_gsub ?_
  | with_reducible refine Z.i_augS ?_
  | with_reducible refine Z.i_ipI ?_
  | ((with_reducible refine Z.i_aug (x := ?z_x) ?z_e ?_); (case z_e => exact rfl))
  | with_reducible refine Z.i_par ?_
  | with_reducible refine Z.i_par3 ?_
  | with_reducible refine Z.i_two ?_
  | with_reducible refine Z.i_three ?_
  | with_reducible refine Z.i_andV ?_
  | with_reducible refine Z.i_orV ?_
  | with_reducible refine Z.i_isR ?_
  | with_reducible refine Z.i_isN ?_
  | with_reducible refine Z.i_isI ?_
  | with_reducible refine Z.i_isnR ?_
  | with_reducible refine Z.i_isnN ?_
  | with_reducible refine Z.i_isnI ?_
  | with_reducible refine Z.i_dnew ?_
  | with_reducible refine Z.i_slK ?_
  | with_reducible refine Z.i_rng3 ?_
  | with_reducible refine Z.i_callS ?_
  | with_reducible refine Z.i_MSo ?_
  | with_reducible refine Z.i_VSo ?_
  | with_reducible refine Z.i_makeS ?_
  | with_reducible refine Z.i_tryAs ?_
  | with_reducible refine Z.i_raise0 ?_
  | with_reducible refine Z.i_retN ?_
  | with_reducible refine Z.i_break ?_
  | with_reducible refine Z.i_cont ?_
  | with_reducible refine Z.i_max2 ?_
  | with_reducible refine Z.i_min2 ?_
  | with_reducible refine Z.i_intI ?_
  | with_reducible refine Z.i_intB ?_
  | with_reducible refine Z.i_abs ?_
  | with_reducible refine Z.i_part ?_
  | with_reducible refine L2.iteT ?_
  | with_reducible refine L2.iteF ?_
  | k_call_by "zh" 0
  | k_call_by "zn" 0
  | ((with_reducible refine Z.i_isi0 ?_); k_call_by "isi" 0)
  | fail)
local macro_rules | `(tactic| k_call_by "isi" 0) => `(tactic| first
  | with_reducible refine Z.isi_I_int ?_
  | with_reducible refine Z.isi_B_int ?_
  | with_reducible refine Z.isi_S_int ?_
  | with_reducible refine Z.isi_N_int ?_
  | ((with_reducible refine Z.isi_L_int (xs := ?z_xs) ?z_h ?_); (case z_h => k_call_by "hf" 0))
  | ((with_reducible refine Z.isi_T_int (xs := ?z_xs) ?z_h ?_); (case z_h => k_call_by "hf" 0))
  | ((with_reducible refine Z.isi_D_int (xs := ?z_xs) ?z_h ?_); (case z_h => k_call_by "hf" 0))
  | with_reducible refine Z.isi_I_bool ?_
  | with_reducible refine Z.isi_B_bool ?_
  | with_reducible refine Z.isi_S_bool ?_
  | with_reducible refine Z.isi_N_bool ?_
  | ((with_reducible refine Z.isi_L_bool (xs := ?z_xs) ?z_h ?_); (case z_h => k_call_by "hf" 0))
  | ((with_reducible refine Z.isi_T_bool (xs := ?z_xs) ?z_h ?_); (case z_h => k_call_by "hf" 0))
  | ((with_reducible refine Z.isi_D_bool (xs := ?z_xs) ?z_h ?_); (case z_h => k_call_by "hf" 0))
  | with_reducible refine Z.isi_I_str ?_
  | with_reducible refine Z.isi_B_str ?_
  | with_reducible refine Z.isi_S_str ?_
  | with_reducible refine Z.isi_N_str ?_
  | ((with_reducible refine Z.isi_L_str (xs := ?z_xs) ?z_h ?_); (case z_h => k_call_by "hf" 0))
  | ((with_reducible refine Z.isi_T_str (xs := ?z_xs) ?z_h ?_); (case z_h => k_call_by "hf" 0))
  | ((with_reducible refine Z.isi_D_str (xs := ?z_xs) ?z_h ?_); (case z_h => k_call_by "hf" 0))
  | with_reducible refine Z.isi_I_list ?_
  | with_reducible refine Z.isi_B_list ?_
  | with_reducible refine Z.isi_S_list ?_
  | with_reducible refine Z.isi_N_list ?_
  | ((with_reducible refine Z.isi_L_list (xs := ?z_xs) ?z_h ?_); (case z_h => k_call_by "hf" 0))
  | ((with_reducible refine Z.isi_T_list (xs := ?z_xs) ?z_h ?_); (case z_h => k_call_by "hf" 0))
  | ((with_reducible refine Z.isi_D_list (xs := ?z_xs) ?z_h ?_); (case z_h => k_call_by "hf" 0))
  | with_reducible refine Z.isi_I_tuple ?_
  | with_reducible refine Z.isi_B_tuple ?_
  | with_reducible refine Z.isi_S_tuple ?_
  | with_reducible refine Z.isi_N_tuple ?_
  | ((with_reducible refine Z.isi_L_tuple (xs := ?z_xs) ?z_h ?_); (case z_h => k_call_by "hf" 0))
  | ((with_reducible refine Z.isi_T_tuple (xs := ?z_xs) ?z_h ?_); (case z_h => k_call_by "hf" 0))
  | ((with_reducible refine Z.isi_D_tuple (xs := ?z_xs) ?z_h ?_); (case z_h => k_call_by "hf" 0))
  | with_reducible refine Z.isi_I_dict ?_
  | with_reducible refine Z.isi_B_dict ?_
  | with_reducible refine Z.isi_S_dict ?_
  | with_reducible refine Z.isi_N_dict ?_
  | ((with_reducible refine Z.isi_L_dict (xs := ?z_xs) ?z_h ?_); (case z_h => k_call_by "hf" 0))
  | ((with_reducible refine Z.isi_T_dict (xs := ?z_xs) ?z_h ?_); (case z_h => k_call_by "hf" 0))
  | ((with_reducible refine Z.isi_D_dict (xs := ?z_xs) ?z_h ?_); (case z_h => k_call_by "hf" 0))
  | fail)
-- steps that ask the heap
local macro_rules | `(tactic| k_call_by "rf" 0) => `(tactic| exact rfl)
local macro_rules | `(tactic| k_call_by "zh" 0) => `(tactic| first
  | ((with_reducible refine Z.i_ixL (xs := ?z_xs) (v := ?z_v) ?z_h ?z_e ?_); (case z_h => k_call_by "hf" 0); (case z_e => exact rfl))
  | ((with_reducible refine Z.i_ixT (xs := ?z_xs) (v := ?z_v) ?z_h ?z_e ?_); (case z_h => k_call_by "hf" 0); (case z_e => exact rfl))
  | ((with_reducible refine Z.i_lenLI (ns := ?z_ns) ?z_h ?_); (case z_h => k_call_by "hf" 0))
  | ((with_reducible refine Z.i_lenL (xs := ?z_xs) ?z_h ?_); (case z_h => k_call_by "hf" 0))
  | ((with_reducible refine Z.i_lenTI (ns := ?z_ns) ?z_h ?_); (case z_h => k_call_by "hf" 0))
  | ((with_reducible refine Z.i_lenT (xs := ?z_xs) ?z_h ?_); (case z_h => k_call_by "hf" 0))
  | ((with_reducible refine Z.i_lenQI (ns := ?z_ns) ?z_h ?_); (case z_h => k_call_by "hq" 0))
  | ((with_reducible refine Z.i_lenQ (xs := ?z_xs) ?z_h ?_); (case z_h => k_call_by "hq" 0))
  | ((with_reducible refine Z.i_slL (xs := ?z_xs) ?z_h ?_); (case z_h => k_call_by "hf" 0))
  | ((with_reducible refine Z.i_tyL (xs := ?z_xs) ?z_h ?_); (case z_h => k_call_by "hf" 0))
  | ((with_reducible refine Z.i_append (xs := ?z_xs) ?z_h ?z_z ?_); (case z_h => k_call_by "hf" 0); (case z_z => k_call_by "sz" 0))
  | ((with_reducible refine Z.i_reverse (xs := ?z_xs) ?z_h ?_); (case z_h => k_call_by "hf" 0))
  | ((with_reducible refine Z.i_clear (xs := ?z_xs) ?z_h ?_); (case z_h => k_call_by "hf" 0))
  | ((with_reducible refine Z.i_tupT (vs := ?z_vs) ?z_h ?z_hn ?_); (case z_h => k_call_by "hf" 0); (case z_hn => exact rfl))
  | ((with_reducible refine Z.i_setL (xs := ?z_xs) (j := ?z_j) ?z_h ?z_e ?_); (case z_h => k_call_by "hf" 0); (case z_e => exact rfl))
  | ((with_reducible refine Z.i_ixQ (xs := ?z_xs) (v := ?z_v) ?z_h ?z_e ?_); (case z_h => k_call_by "hq" 0); (case z_e => exact rfl))
  | ((with_reducible refine Z.i_enumL (xs := ?z_xs) ?z_h ?_); (case z_h => k_call_by "hq" 0))
  | ((with_reducible refine Z.i_itL (xs := ?z_xs) ?z_h ?_); (case z_h => k_call_by "hf" 0))
  | ((with_reducible refine Z.i_itT (xs := ?z_xs) ?z_h ?_); (case z_h => k_call_by "hf" 0))
  | ((with_reducible refine Z.i_itQ (xs := ?z_xs) ?z_h ?_); (case z_h => k_call_by "hq" 0))
  | ((with_reducible refine Z.i_zipL (xs := ?z_xs) (ys := ?z_ys) ?z_h ?z_h2 ?_); (case z_h => k_call_by "hq" 0); (case z_h2 => k_call_by "hq" 0))
  | ((with_reducible refine Z.i_addLI (ns := ?z_ns) (ms := ?z_ms) ?z_h1 ?z_h2 ?z_z ?_); (case z_h1 => k_call_by "hf" 0); (case z_h2 => k_call_by "hf" 0); (case z_z => k_call_by "sz" 0))
  | ((with_reducible refine Z.i_addL1 (ns := ?z_ns) (a := ?z_a) ?z_h1 ?z_h2 ?z_z ?_); (case z_h1 => k_call_by "hf" 0); (case z_h2 => k_call_by "hf" 0); (case z_z => k_call_by "sz" 0))
  | ((with_reducible refine Z.i_mulLI (a := ?z_a) ?z_h1 ?z_z ?_); (case z_h1 => k_call_by "hf" 0); (case z_z => k_call_by "zb" 0))
  | ((with_reducible refine Z.i_sum (ns := ?z_ns) ?z_h ?_); (case z_h => k_call_by "hf" 0))
  | ((with_reducible refine Z.i_all (bs := ?z_bs) ?z_h ?_); (case z_h => k_call_by "hf" 0))
  | ((with_reducible refine Z.i_any (bs := ?z_bs) ?z_h ?_); (case z_h => k_call_by "hf" 0))
  | ((with_reducible refine Z.i_listL (xs := ?z_xs) ?z_h ?_); (case z_h => k_call_by "hf" 0))
  | ((with_reducible refine Z.i_listT (xs := ?z_xs) ?z_h ?_); (case z_h => k_call_by "hf" 0))
  | ((with_reducible refine Z.i_tupleL (xs := ?z_xs) ?z_h ?_); (case z_h => k_call_by "hf" 0))
  | ((with_reducible refine Z.i_rng1N ?z_h ?_); (case z_h => omega))
  | ((with_reducible refine Z.i_sL (xs := ?z_xs) ?z_h ?_); (case z_h => k_call_by "hf" 0))
  | ((with_reducible refine Z.i_sT (xs := ?z_xs) ?z_h ?_); (case z_h => k_call_by "hf" 0))
  | ((with_reducible refine Z.i_sQ (xs := ?z_xs) ?z_h ?_); (case z_h => k_call_by "hq" 0))
  | ((with_reducible refine Z.i_zipAL (xs := ?z_xs) (ys := ?z_ys) ?z_h ?z_h2 ?_); (case z_h => k_call_by "hq" 0); (case z_h2 => k_call_by "hq" 0))
  | ((with_reducible refine Z.i_zipAT (xs := ?z_xs) (ys := ?z_ys) ?z_h ?z_h2 ?_); (case z_h => k_call_by "hf" 0); (case z_h2 => k_call_by "hf" 0))
  | ((with_reducible refine Z.i_fld1 (C := ?z_C) (dx := ?z_dx) (fs := ?z_fs) (v := ?z_v) ?z_h ?z_c ?z_n ?z_l ?_); (case z_h => k_call_by "hf" 0); (case z_c => with_reducible assumption); (case z_n => with_reducible assumption); (case z_l => exact rfl))
  | ((with_reducible refine Z.i_fldS1 (C := ?z_C) (dx := ?z_dx) (fs := ?z_fs) ?z_h ?z_c ?z_n ?z_l ?_); (case z_h => k_call_by "hf" 0); (case z_c => with_reducible assumption); (case z_n => with_reducible assumption); (case z_l => exact rfl))
  | fail)
-- operations whose numbers are written
local macro_rules | `(tactic| k_call_by "zc" 0) => `(tactic| first
  | (show (0 : Int) < _; omega)
  | assumption
  | (refine ⟨?_, ?_, ?_⟩ <;> decide)
  | (refine ⟨?_, ?_⟩ <;> first | decide | omega)
  | fail)
local macro_rules | `(tactic| k_call_by "zn" 0) => `(tactic| first
  | ((with_reducible refine Z.i_I ?z_c ?_); (case z_c => k_call_by "zc" 0))
  | ((with_reducible refine Z.i_mulR ?z_c ?_); (case z_c => k_call_by "zc" 0))
  | ((with_reducible refine Z.i_mulJ ?z_c ?_); (case z_c => k_call_by "zc" 0))
  | fail)
local macro_rules | `(tactic| k_call_by "zz" 0) => `(tactic| repeat k_call_by "z" 0)
local macro_rules | `(tactic| k_call_by "zi" 0) => `(tactic| first
  | k_call_by "z" 0
  | with_reducible refine fun (_ : PySem.Addr) (_ : L2.Hp) (_ : Z.New _ _ _ _) => ?_
  | with_reducible refine fun (_ : L2.Hp) (_ : Z.Up _ _ _ _) => ?_
  | with_reducible refine fun (_ : PySem.Addr) (_ : PySem.Addr) (_ : L2.Hp) (_ : Z.Made _ _ _ _ _) => ?_
  | fail)
local macro_rules | `(tactic| k_call_by "za" 0) => `(tactic| repeat k_call_by "zi" 0)
local macro_rules | `(tactic| k_call_by "yi" 0) => `(tactic| first
  | k_call_by "y" 0
  | with_reducible refine fun (_ : PySem.Addr) (_ : L2.Hp) (_ : Z.New _ _ _ _) => ?_
  | with_reducible refine fun (_ : L2.Hp) (_ : Z.Up _ _ _ _) => ?_
  | with_reducible refine fun (_ : PySem.Addr) (_ : PySem.Addr) (_ : L2.Hp) (_ : Z.Made _ _ _ _ _) => ?_
  | fail)
local macro_rules | `(tactic| k_call_by "ya" 0) => `(tactic| repeat k_call_by "yi" 0)

namespace L
open PySem PySem.Spec PyProof.Rows L2
def top (i : Nat) : Stmt := PySem.Challenge.pw_sampleweave_k17_whole_resampled.main.body.getD i (.Pass ⟨0, 0, 0, 0⟩)
abbrev s_l_cell : Stmt := top 23
abbrev n_l_cell : List Str := ["_law_script", "_law_k"]
abbrev p_l_cell : List Str := ["_law_script", "_law_k"]
theorem sc_l_cell : FnScope n_l_cell p_l_cell (defScope s_l_cell) := ⟨rfl, rfl, rfl, by decide +kernel, rfl, by decide +kernel, by decide +kernel⟩
def d_l_cell : He.DefD := ⟨("_law_cell", none), "_law_cell", "_law_cell", defArgs s_l_cell, defBody s_l_cell, defScope s_l_cell, [], []⟩
theorem bd_l_cell : Z.Bd d_l_cell p_l_cell 2 [] (fun _ vs _ => vs) := Z.Bd.plain rfl rfl rfl (fun _ _ _ _ _ _ us hl => match us, hl with | [_, _], _ => rfl)
abbrev s_l_pot : Stmt := top 24
abbrev n_l_pot : List Str := ["_law_cell_here"]
abbrev p_l_pot : List Str := ["_law_cell_here"]
theorem sc_l_pot : FnScope n_l_pot p_l_pot (defScope s_l_pot) := ⟨rfl, rfl, rfl, by decide +kernel, rfl, by decide +kernel, by decide +kernel⟩
def d_l_pot : He.DefD := ⟨("_law_pot", none), "_law_pot", "_law_pot", defArgs s_l_pot, defBody s_l_pot, defScope s_l_pot, [], []⟩
theorem bd_l_pot : Z.Bd d_l_pot p_l_pot 1 [] (fun _ vs _ => vs) := Z.Bd.plain rfl rfl rfl (fun _ _ _ _ _ _ us hl => match us, hl with | [_], _ => rfl)
abbrev s_l_draw : Stmt := top 25
abbrev n_l_draw : List Str := ["_law_pot_here", "_law_many", "_law_digit"]
abbrev p_l_draw : List Str := ["_law_pot_here", "_law_many"]
theorem sc_l_draw : FnScope n_l_draw p_l_draw (defScope s_l_draw) := ⟨rfl, rfl, rfl, by decide +kernel, rfl, by decide +kernel, by decide +kernel⟩
def d_l_draw : He.DefD := ⟨("_law_draw", none), "_law_draw", "_law_draw", defArgs s_l_draw, defBody s_l_draw, defScope s_l_draw, [], []⟩
theorem bd_l_draw : Z.Bd d_l_draw p_l_draw 2 [] (fun _ vs _ => vs) := Z.Bd.plain rfl rfl rfl (fun _ _ _ _ _ _ us hl => match us, hl with | [_, _], _ => rfl)
abbrev s_l_number : Stmt := top 26
abbrev n_l_number : List Str := ["_law_pot_here", "_law_way", "_law_found", "_law_k"]
abbrev p_l_number : List Str := ["_law_pot_here"]
theorem sc_l_number : FnScope n_l_number p_l_number (defScope s_l_number) := ⟨rfl, rfl, rfl, by decide +kernel, rfl, by decide +kernel, by decide +kernel⟩
def d_l_number : He.DefD := ⟨("_law_number", none), "_law_number", "_law_number", defArgs s_l_number, defBody s_l_number, defScope s_l_number, [], []⟩
theorem bd_l_number : Z.Bd d_l_number p_l_number 1 [] (fun _ vs _ => vs) := Z.Bd.plain rfl rfl rfl (fun _ _ _ _ _ _ us hl => match us, hl with | [_], _ => rfl)
abbrev s_is_whole : Stmt := top 5
abbrev n_is_whole : List Str := ["thing"]
abbrev p_is_whole : List Str := ["thing"]
theorem sc_is_whole : FnScope n_is_whole p_is_whole (defScope s_is_whole) := ⟨rfl, rfl, rfl, by decide +kernel, rfl, by decide +kernel, by decide +kernel⟩
def d_is_whole : He.DefD := ⟨("is_whole", none), "is_whole", "is_whole", defArgs s_is_whole, defBody s_is_whole, defScope s_is_whole, [], []⟩
theorem bd_is_whole : Z.Bd d_is_whole p_is_whole 1 [] (fun _ vs _ => vs) := Z.Bd.plain rfl rfl rfl (fun _ _ _ _ _ _ us hl => match us, hl with | [_], _ => rfl)
abbrev s_is_whole_from : Stmt := top 6
abbrev n_is_whole_from : List Str := ["thing", "least", "most"]
abbrev p_is_whole_from : List Str := ["thing", "least", "most"]
theorem sc_is_whole_from : FnScope n_is_whole_from p_is_whole_from (defScope s_is_whole_from) := ⟨rfl, rfl, rfl, by decide +kernel, rfl, by decide +kernel, by decide +kernel⟩
def d_is_whole_from : He.DefD := ⟨("is_whole_from", none), "is_whole_from", "is_whole_from", defArgs s_is_whole_from, defBody s_is_whole_from, defScope s_is_whole_from, [], []⟩
theorem bd_is_whole_from : Z.Bd d_is_whole_from p_is_whole_from 3 [] (fun _ vs _ => vs) := Z.Bd.plain rfl rfl rfl (fun _ _ _ _ _ _ us hl => match us, hl with | [_, _, _], _ => rfl)
abbrev s_want : Stmt := top 11
abbrev n_want : List Str := ["truth", "field"]
abbrev p_want : List Str := ["truth", "field"]
theorem sc_want : FnScope n_want p_want (defScope s_want) := ⟨rfl, rfl, rfl, by decide +kernel, rfl, by decide +kernel, by decide +kernel⟩
def d_want : He.DefD := ⟨("want", none), "want", "want", defArgs s_want, defBody s_want, defScope s_want, [], []⟩
theorem bd_want : Z.Bd d_want p_want 2 [] (fun _ vs _ => vs) := Z.Bd.plain rfl rfl rfl (fun _ _ _ _ _ _ us hl => match us, hl with | [_, _], _ => rfl)
abbrev s_Node_u__init : Stmt := inClass (top 12) 0
abbrev n_Node_u__init : List Str := ["self", "late", "begin"]
abbrev p_Node_u__init : List Str := ["self", "late", "begin"]
theorem sc_Node_u__init : FnScope n_Node_u__init p_Node_u__init (defScope s_Node_u__init) := ⟨rfl, rfl, rfl, by decide +kernel, rfl, by decide +kernel, by decide +kernel⟩
def d_Node_u__init : He.DefD := ⟨("Node", some "__init__"), "__init__", "Node.__init__", defArgs s_Node_u__init, defBody s_Node_u__init, defScope s_Node_u__init, [], []⟩
theorem bd_Node_u__init : Z.Bd d_Node_u__init p_Node_u__init 3 [] (fun _ vs _ => vs) := Z.Bd.plain rfl rfl rfl (fun _ _ _ _ _ _ us hl => match us, hl with | [_, _, _], _ => rfl)
abbrev s_are_wholes : Stmt := top 15
abbrev n_are_wholes : List Str := ["thing", "most", "number"]
abbrev p_are_wholes : List Str := ["thing", "most"]
theorem sc_are_wholes : FnScope n_are_wholes p_are_wholes (defScope s_are_wholes) := ⟨rfl, rfl, rfl, by decide +kernel, rfl, by decide +kernel, by decide +kernel⟩
def d_are_wholes : He.DefD := ⟨("are_wholes", none), "are_wholes", "are_wholes", defArgs s_are_wholes, defBody s_are_wholes, defScope s_are_wholes, [], []⟩
theorem bd_are_wholes : Z.Bd d_are_wholes p_are_wholes 2 [] (fun _ vs _ => vs) := Z.Bd.plain rfl rfl rfl (fun _ _ _ _ _ _ us hl => match us, hl with | [_, _], _ => rfl)
abbrev s_tapped : Stmt := top 16
abbrev n_tapped : List Str := ["numbers", "taken", "number", "sample"]
abbrev p_tapped : List Str := ["numbers", "taken"]
theorem sc_tapped : FnScope n_tapped p_tapped (defScope s_tapped) := ⟨rfl, rfl, rfl, by decide +kernel, rfl, by decide +kernel, by decide +kernel⟩
def d_tapped : He.DefD := ⟨("tapped", none), "tapped", "tapped", defArgs s_tapped, defBody s_tapped, defScope s_tapped, [], []⟩
theorem bd_tapped : Z.Bd d_tapped p_tapped 2 [] (fun _ vs _ => vs) := Z.Bd.plain rfl rfl rfl (fun _ _ _ _ _ _ us hl => match us, hl with | [_, _], _ => rfl)
abbrev s_Node_takes : Stmt := inClass (top 12) 3
abbrev n_Node_takes : List Str := ["self"]
abbrev p_Node_takes : List Str := ["self"]
theorem sc_Node_takes : FnScope n_Node_takes p_Node_takes (defScope s_Node_takes) := ⟨rfl, rfl, rfl, by decide +kernel, rfl, by decide +kernel, by decide +kernel⟩
def d_Node_takes : He.DefD := ⟨("Node", some "takes"), "takes", "Node.takes", defArgs s_Node_takes, defBody s_Node_takes, defScope s_Node_takes, [], []⟩
theorem bd_Node_takes : Z.Bd d_Node_takes p_Node_takes 1 [] (fun _ vs _ => vs) := Z.Bd.plain rfl rfl rfl (fun _ _ _ _ _ _ us hl => match us, hl with | [_], _ => rfl)
abbrev s_Node_gives : Stmt := inClass (top 12) 4
abbrev n_Node_gives : List Str := ["self"]
abbrev p_Node_gives : List Str := ["self"]
theorem sc_Node_gives : FnScope n_Node_gives p_Node_gives (defScope s_Node_gives) := ⟨rfl, rfl, rfl, by decide +kernel, rfl, by decide +kernel, by decide +kernel⟩
def d_Node_gives : He.DefD := ⟨("Node", some "gives"), "gives", "Node.gives", defArgs s_Node_gives, defBody s_Node_gives, defScope s_Node_gives, [], []⟩
theorem bd_Node_gives : Z.Bd d_Node_gives p_Node_gives 1 [] (fun _ vs _ => vs) := Z.Bd.plain rfl rfl rfl (fun _ _ _ _ _ _ us hl => match us, hl with | [_], _ => rfl)
abbrev s_Node_at_first : Stmt := inClass (top 12) 7
abbrev n_Node_at_first : List Str := ["self"]
abbrev p_Node_at_first : List Str := ["self"]
theorem sc_Node_at_first : FnScope n_Node_at_first p_Node_at_first (defScope s_Node_at_first) := ⟨rfl, rfl, rfl, by decide +kernel, rfl, by decide +kernel, by decide +kernel⟩
def d_Node_at_first : He.DefD := ⟨("Node", some "at_first"), "at_first", "Node.at_first", defArgs s_Node_at_first, defBody s_Node_at_first, defScope s_Node_at_first, [], []⟩
theorem bd_Node_at_first : Z.Bd d_Node_at_first p_Node_at_first 1 [] (fun _ vs _ => vs) := Z.Bd.plain rfl rfl rfl (fun _ _ _ _ _ _ us hl => match us, hl with | [_], _ => rfl)
abbrev s_Taps_u__init : Stmt := inClass (top 17) 0
abbrev n_Taps_u__init : List Str := ["self", "numbers", "late", "begin"]
abbrev p_Taps_u__init : List Str := ["self", "numbers", "late", "begin"]
theorem sc_Taps_u__init : FnScope n_Taps_u__init p_Taps_u__init (defScope s_Taps_u__init) := ⟨rfl, rfl, rfl, by decide +kernel, rfl, by decide +kernel, by decide +kernel⟩
def d_Taps_u__init : He.DefD := ⟨("Taps", some "__init__"), "__init__", "Taps.__init__", defArgs s_Taps_u__init, defBody s_Taps_u__init, defScope s_Taps_u__init, [], [("late", .int 0), ("begin", .int 0)]⟩
abbrev s_Taps_at_first : Stmt := inClass (top 17) 4
abbrev n_Taps_at_first : List Str := ["self"]
abbrev p_Taps_at_first : List Str := ["self"]
theorem sc_Taps_at_first : FnScope n_Taps_at_first p_Taps_at_first (defScope s_Taps_at_first) := ⟨rfl, rfl, rfl, by decide +kernel, rfl, by decide +kernel, by decide +kernel⟩
def d_Taps_at_first : He.DefD := ⟨("Taps", some "at_first"), "at_first", "Taps.at_first", defArgs s_Taps_at_first, defBody s_Taps_at_first, defScope s_Taps_at_first, [], []⟩
theorem bd_Taps_at_first : Z.Bd d_Taps_at_first p_Taps_at_first 1 [] (fun _ vs _ => vs) := Z.Bd.plain rfl rfl rfl (fun _ _ _ _ _ _ us hl => match us, hl with | [_], _ => rfl)
abbrev s_Taps_worked : Stmt := inClass (top 17) 5
abbrev n_Taps_worked : List Str := ["self", "kept", "rows", "taken"]
abbrev p_Taps_worked : List Str := ["self", "kept", "rows"]
theorem sc_Taps_worked : FnScope n_Taps_worked p_Taps_worked (defScope s_Taps_worked) := ⟨rfl, rfl, rfl, by decide +kernel, rfl, by decide +kernel, by decide +kernel⟩
def d_Taps_worked : He.DefD := ⟨("Taps", some "worked"), "worked", "Taps.worked", defArgs s_Taps_worked, defBody s_Taps_worked, defScope s_Taps_worked, [], []⟩
theorem bd_Taps_worked : Z.Bd d_Taps_worked p_Taps_worked 3 [] (fun _ vs _ => vs) := Z.Bd.plain rfl rfl rfl (fun _ _ _ _ _ _ us hl => match us, hl with | [_, _, _], _ => rfl)
abbrev s_Up_u__init : Stmt := inClass (top 19) 0
abbrev n_Up_u__init : List Str := ["self", "many", "hold", "late", "begin"]
abbrev p_Up_u__init : List Str := ["self", "many", "hold", "late", "begin"]
theorem sc_Up_u__init : FnScope n_Up_u__init p_Up_u__init (defScope s_Up_u__init) := ⟨rfl, rfl, rfl, by decide +kernel, rfl, by decide +kernel, by decide +kernel⟩
def d_Up_u__init : He.DefD := ⟨("Up", some "__init__"), "__init__", "Up.__init__", defArgs s_Up_u__init, defBody s_Up_u__init, defScope s_Up_u__init, [.bl false], [("late", .int 0), ("begin", .int 0)]⟩
abbrev s_Up_gives : Stmt := inClass (top 19) 3
abbrev n_Up_gives : List Str := ["self"]
abbrev p_Up_gives : List Str := ["self"]
theorem sc_Up_gives : FnScope n_Up_gives p_Up_gives (defScope s_Up_gives) := ⟨rfl, rfl, rfl, by decide +kernel, rfl, by decide +kernel, by decide +kernel⟩
def d_Up_gives : He.DefD := ⟨("Up", some "gives"), "gives", "Up.gives", defArgs s_Up_gives, defBody s_Up_gives, defScope s_Up_gives, [], []⟩
theorem bd_Up_gives : Z.Bd d_Up_gives p_Up_gives 1 [] (fun _ vs _ => vs) := Z.Bd.plain rfl rfl rfl (fun _ _ _ _ _ _ us hl => match us, hl with | [_], _ => rfl)
abbrev s_Up_worked : Stmt := inClass (top 19) 5
abbrev n_Up_worked : List Str := ["self", "kept", "rows"]
abbrev p_Up_worked : List Str := ["self", "kept", "rows"]
theorem sc_Up_worked : FnScope n_Up_worked p_Up_worked (defScope s_Up_worked) := ⟨rfl, rfl, rfl, by decide +kernel, rfl, by decide +kernel, by decide +kernel⟩
def d_Up_worked : He.DefD := ⟨("Up", some "worked"), "worked", "Up.worked", defArgs s_Up_worked, defBody s_Up_worked, defScope s_Up_worked, [], []⟩
theorem bd_Up_worked : Z.Bd d_Up_worked p_Up_worked 3 [] (fun _ vs _ => vs) := Z.Bd.plain rfl rfl rfl (fun _ _ _ _ _ _ us hl => match us, hl with | [_, _, _], _ => rfl)
abbrev s_Down_u__init : Stmt := inClass (top 20) 0
abbrev n_Down_u__init : List Str := ["self", "many", "late", "begin"]
abbrev p_Down_u__init : List Str := ["self", "many", "late", "begin"]
theorem sc_Down_u__init : FnScope n_Down_u__init p_Down_u__init (defScope s_Down_u__init) := ⟨rfl, rfl, rfl, by decide +kernel, rfl, by decide +kernel, by decide +kernel⟩
def d_Down_u__init : He.DefD := ⟨("Down", some "__init__"), "__init__", "Down.__init__", defArgs s_Down_u__init, defBody s_Down_u__init, defScope s_Down_u__init, [], [("late", .int 0), ("begin", .int 0)]⟩
abbrev s_Down_takes : Stmt := inClass (top 20) 3
abbrev n_Down_takes : List Str := ["self"]
abbrev p_Down_takes : List Str := ["self"]
theorem sc_Down_takes : FnScope n_Down_takes p_Down_takes (defScope s_Down_takes) := ⟨rfl, rfl, rfl, by decide +kernel, rfl, by decide +kernel, by decide +kernel⟩
def d_Down_takes : He.DefD := ⟨("Down", some "takes"), "takes", "Down.takes", defArgs s_Down_takes, defBody s_Down_takes, defScope s_Down_takes, [], []⟩
theorem bd_Down_takes : Z.Bd d_Down_takes p_Down_takes 1 [] (fun _ vs _ => vs) := Z.Bd.plain rfl rfl rfl (fun _ _ _ _ _ _ us hl => match us, hl with | [_], _ => rfl)
abbrev s_Down_worked : Stmt := inClass (top 20) 5
abbrev n_Down_worked : List Str := ["self", "kept", "rows"]
abbrev p_Down_worked : List Str := ["self", "kept", "rows"]
theorem sc_Down_worked : FnScope n_Down_worked p_Down_worked (defScope s_Down_worked) := ⟨rfl, rfl, rfl, by decide +kernel, rfl, by decide +kernel, by decide +kernel⟩
def d_Down_worked : He.DefD := ⟨("Down", some "worked"), "worked", "Down.worked", defArgs s_Down_worked, defBody s_Down_worked, defScope s_Down_worked, [], []⟩
theorem bd_Down_worked : Z.Bd d_Down_worked p_Down_worked 3 [] (fun _ vs _ => vs) := Z.Bd.plain rfl rfl rfl (fun _ _ _ _ _ _ us hl => match us, hl with | [_, _, _], _ => rfl)
abbrev s_Resample_u__init : Stmt := inClass (top 21) 0
abbrev n_Resample_u__init : List Str := ["self", "up", "down", "numbers", "late", "begin"]
abbrev p_Resample_u__init : List Str := ["self", "up", "down", "numbers", "late", "begin"]
theorem sc_Resample_u__init : FnScope n_Resample_u__init p_Resample_u__init (defScope s_Resample_u__init) := ⟨rfl, rfl, rfl, by decide +kernel, rfl, by decide +kernel, by decide +kernel⟩
def d_Resample_u__init : He.DefD := ⟨("Resample", some "__init__"), "__init__", "Resample.__init__", defArgs s_Resample_u__init, defBody s_Resample_u__init, defScope s_Resample_u__init, [], [("late", .int 0), ("begin", .int 0)]⟩
abbrev s_Resample_gives : Stmt := inClass (top 21) 4
abbrev n_Resample_gives : List Str := ["self"]
abbrev p_Resample_gives : List Str := ["self"]
theorem sc_Resample_gives : FnScope n_Resample_gives p_Resample_gives (defScope s_Resample_gives) := ⟨rfl, rfl, rfl, by decide +kernel, rfl, by decide +kernel, by decide +kernel⟩
def d_Resample_gives : He.DefD := ⟨("Resample", some "gives"), "gives", "Resample.gives", defArgs s_Resample_gives, defBody s_Resample_gives, defScope s_Resample_gives, [], []⟩
theorem bd_Resample_gives : Z.Bd d_Resample_gives p_Resample_gives 1 [] (fun _ vs _ => vs) := Z.Bd.plain rfl rfl rfl (fun _ _ _ _ _ _ us hl => match us, hl with | [_], _ => rfl)
abbrev s_Resample_takes : Stmt := inClass (top 21) 3
abbrev n_Resample_takes : List Str := ["self"]
abbrev p_Resample_takes : List Str := ["self"]
theorem sc_Resample_takes : FnScope n_Resample_takes p_Resample_takes (defScope s_Resample_takes) := ⟨rfl, rfl, rfl, by decide +kernel, rfl, by decide +kernel, by decide +kernel⟩
def d_Resample_takes : He.DefD := ⟨("Resample", some "takes"), "takes", "Resample.takes", defArgs s_Resample_takes, defBody s_Resample_takes, defScope s_Resample_takes, [], []⟩
theorem bd_Resample_takes : Z.Bd d_Resample_takes p_Resample_takes 1 [] (fun _ vs _ => vs) := Z.Bd.plain rfl rfl rfl (fun _ _ _ _ _ _ us hl => match us, hl with | [_], _ => rfl)
abbrev s_Resample_at_first : Stmt := inClass (top 21) 6
abbrev n_Resample_at_first : List Str := ["self"]
abbrev p_Resample_at_first : List Str := ["self"]
theorem sc_Resample_at_first : FnScope n_Resample_at_first p_Resample_at_first (defScope s_Resample_at_first) := ⟨rfl, rfl, rfl, by decide +kernel, rfl, by decide +kernel, by decide +kernel⟩
def d_Resample_at_first : He.DefD := ⟨("Resample", some "at_first"), "at_first", "Resample.at_first", defArgs s_Resample_at_first, defBody s_Resample_at_first, defScope s_Resample_at_first, [], []⟩
theorem bd_Resample_at_first : Z.Bd d_Resample_at_first p_Resample_at_first 1 [] (fun _ vs _ => vs) := Z.Bd.plain rfl rfl rfl (fun _ _ _ _ _ _ us hl => match us, hl with | [_], _ => rfl)
abbrev s_Resample_worked : Stmt := inClass (top 21) 7
abbrev n_Resample_worked : List Str := ["self", "kept", "rows", "given", "sample", "one", "taken"]
abbrev p_Resample_worked : List Str := ["self", "kept", "rows"]
theorem sc_Resample_worked : FnScope n_Resample_worked p_Resample_worked (defScope s_Resample_worked) := ⟨rfl, rfl, rfl, by decide +kernel, rfl, by decide +kernel, by decide +kernel⟩
def d_Resample_worked : He.DefD := ⟨("Resample", some "worked"), "worked", "Resample.worked", defArgs s_Resample_worked, defBody s_Resample_worked, defScope s_Resample_worked, [], []⟩
theorem bd_Resample_worked : Z.Bd d_Resample_worked p_Resample_worked 3 [] (fun _ vs _ => vs) := Z.Bd.plain rfl rfl rfl (fun _ _ _ _ _ _ us hl => match us, hl with | [_, _, _], _ => rfl)
abbrev s_Node_fresh : Stmt := inClass (top 12) 10
abbrev n_Node_fresh : List Str := ["self"]
abbrev p_Node_fresh : List Str := ["self"]
theorem sc_Node_fresh : FnScope n_Node_fresh p_Node_fresh (defScope s_Node_fresh) := ⟨rfl, rfl, rfl, by decide +kernel, rfl, by decide +kernel, by decide +kernel⟩
def d_Node_fresh : He.DefD := ⟨("Node", some "fresh"), "fresh", "Node.fresh", defArgs s_Node_fresh, defBody s_Node_fresh, defScope s_Node_fresh, [], []⟩
theorem bd_Node_fresh : Z.Bd d_Node_fresh p_Node_fresh 1 [] (fun _ vs _ => vs) := Z.Bd.plain rfl rfl rfl (fun _ _ _ _ _ _ us hl => match us, hl with | [_], _ => rfl)
abbrev s_Node_fire : Stmt := inClass (top 12) 11
abbrev n_Node_fire : List Str := ["self", "memory", "rows", "mute", "kept", "behind", "given"]
abbrev p_Node_fire : List Str := ["self", "memory", "rows"]
theorem sc_Node_fire : FnScope n_Node_fire p_Node_fire (defScope s_Node_fire) := ⟨rfl, rfl, rfl, by decide +kernel, rfl, by decide +kernel, by decide +kernel⟩
def d_Node_fire : He.DefD := ⟨("Node", some "fire"), "fire", "Node.fire", defArgs s_Node_fire, defBody s_Node_fire, defScope s_Node_fire, [], []⟩
theorem bd_Node_fire : Z.Bd d_Node_fire p_Node_fire 3 [] (fun _ vs _ => vs) := Z.Bd.plain rfl rfl rfl (fun _ _ _ _ _ _ us hl => match us, hl with | [_, _, _], _ => rfl)
abbrev s_l_numbers : Stmt := top 27
abbrev n_l_numbers : List Str := ["_law_pot_here", "_law_most", "_law_k"]
abbrev p_l_numbers : List Str := ["_law_pot_here", "_law_most"]
theorem sc_l_numbers : FnScope n_l_numbers p_l_numbers (defScope s_l_numbers) := ⟨rfl, rfl, rfl, by decide +kernel, rfl, by decide +kernel, by decide +kernel⟩
def d_l_numbers : He.DefD := ⟨("_law_numbers", none), "_law_numbers", "_law_numbers", defArgs s_l_numbers, defBody s_l_numbers, defScope s_l_numbers, [], []⟩
theorem bd_l_numbers : Z.Bd d_l_numbers p_l_numbers 2 [] (fun _ vs _ => vs) := Z.Bd.plain rfl rfl rfl (fun _ _ _ _ _ _ us hl => match us, hl with | [_, _], _ => rfl)
abbrev s_l_sample : Stmt := top 28
abbrev n_l_sample : List Str := ["_law_stream", "_law_width", "_law_at"]
abbrev p_l_sample : List Str := ["_law_stream", "_law_width", "_law_at"]
theorem sc_l_sample : FnScope n_l_sample p_l_sample (defScope s_l_sample) := ⟨rfl, rfl, rfl, by decide +kernel, rfl, by decide +kernel, by decide +kernel⟩
def d_l_sample : He.DefD := ⟨("_law_sample", none), "_law_sample", "_law_sample", defArgs s_l_sample, defBody s_l_sample, defScope s_l_sample, [], []⟩
theorem bd_l_sample : Z.Bd d_l_sample p_l_sample 3 [] (fun _ vs _ => vs) := Z.Bd.plain rfl rfl rfl (fun _ _ _ _ _ _ us hl => match us, hl with | [_, _, _], _ => rfl)
abbrev s_l_given : Stmt := top 29
abbrev n_l_given : List Str := ["_law_stream", "_law_up", "_law_down", "_law_numbers_here", "_law_firing", "_law_found", "_law_j", "_law_some", "_law_k"]
abbrev p_l_given : List Str := ["_law_stream", "_law_up", "_law_down", "_law_numbers_here", "_law_firing"]
theorem sc_l_given : FnScope n_l_given p_l_given (defScope s_l_given) := ⟨rfl, rfl, rfl, by decide +kernel, rfl, by decide +kernel, by decide +kernel⟩
def d_l_given : He.DefD := ⟨("_law_given", none), "_law_given", "_law_given", defArgs s_l_given, defBody s_l_given, defScope s_l_given, [], []⟩
theorem bd_l_given : Z.Bd d_l_given p_l_given 5 [] (fun _ vs _ => vs) := Z.Bd.plain rfl rfl rfl (fun _ _ _ _ _ _ us hl => match us, hl with | [_, _, _, _, _], _ => rfl)
abbrev s_l_fired : Stmt := top 30
abbrev n_l_fired : List Str := ["_law_node", "_law_memory", "_law_samples", "_law_found", "_law_k", "_law_given_here"]
abbrev p_l_fired : List Str := ["_law_node", "_law_memory", "_law_samples"]
theorem sc_l_fired : FnScope n_l_fired p_l_fired (defScope s_l_fired) := ⟨rfl, rfl, rfl, by decide +kernel, rfl, by decide +kernel, by decide +kernel⟩
def d_l_fired : He.DefD := ⟨("_law_fired", none), "_law_fired", "_law_fired", defArgs s_l_fired, defBody s_l_fired, defScope s_l_fired, [], []⟩
theorem bd_l_fired : Z.Bd d_l_fired p_l_fired 3 [] (fun _ vs _ => vs) := Z.Bd.plain rfl rfl rfl (fun _ _ _ _ _ _ us hl => match us, hl with | [_, _, _], _ => rfl)
abbrev s_l_by_three : Stmt := top 31
abbrev n_l_by_three : List Str := ["_law_three", "_law_memories", "_law_samples", "_law_found", "_law_k"]
abbrev p_l_by_three : List Str := ["_law_three", "_law_memories", "_law_samples"]
theorem sc_l_by_three : FnScope n_l_by_three p_l_by_three (defScope s_l_by_three) := ⟨rfl, rfl, rfl, by decide +kernel, rfl, by decide +kernel, by decide +kernel⟩
def d_l_by_three : He.DefD := ⟨("_law_by_three", none), "_law_by_three", "_law_by_three", defArgs s_l_by_three, defBody s_l_by_three, defScope s_l_by_three, [], []⟩
theorem bd_l_by_three : Z.Bd d_l_by_three p_l_by_three 3 [] (fun _ vs _ => vs) := Z.Bd.plain rfl rfl rfl (fun _ _ _ _ _ _ us hl => match us, hl with | [_, _, _], _ => rfl)
abbrev s_l_right : Stmt := top 32
abbrev n_l_right : List Str := ["_law_pot_here", "_law_up", "_law_down", "_law_numbers_here", "_law_handed", "_law_node", "_law_three", "_law_streams", "_law_memories", "_law_chains", "_law_fired_here", "_law_k", "_law_at", "_law_samples", "_law_given_here", "_law_due", "_law_one", "_law_place"]
abbrev p_l_right : List Str := ["_law_pot_here", "_law_up", "_law_down", "_law_numbers_here"]
theorem sc_l_right : FnScope n_l_right p_l_right (defScope s_l_right) := ⟨rfl, rfl, rfl, by decide +kernel, rfl, by decide +kernel, by decide +kernel⟩
def d_l_right : He.DefD := ⟨("_law_right", none), "_law_right", "_law_right", defArgs s_l_right, defBody s_l_right, defScope s_l_right, [], []⟩
theorem bd_l_right : Z.Bd d_l_right p_l_right 4 [] (fun _ vs _ => vs) := Z.Bd.plain rfl rfl rfl (fun _ _ _ _ _ _ us hl => match us, hl with | [_, _, _, _], _ => rfl)
abbrev s_law : Stmt := top 33
abbrev n_law : List Str := ["_law_script", "_law_k", "_law_pot_here", "_law_up", "_law_down"]
abbrev p_law : List Str := ["_law_script"]
theorem sc_law : FnScope n_law p_law (defScope s_law) := ⟨rfl, rfl, rfl, by decide +kernel, rfl, by decide +kernel, by decide +kernel⟩
def d_law : He.DefD := ⟨("law", none), "law", "law", defArgs s_law, defBody s_law, defScope s_law, [], []⟩
theorem bd_law : Z.Bd d_law p_law 1 [] (fun _ vs _ => vs) := Z.Bd.plain rfl rfl rfl (fun _ _ _ _ _ _ us hl => match us, hl with | [_], _ => rfl)
theorem kb_Down_u__init_2 : Z.Bd d_Down_u__init p_Down_u__init 2 [] (fun K vs zs => Z.gP [0, 1, 2, 3] (vs ++ (([V.int 0, V.int 0] : List V) ++ zs))) := Z.Bd.b [("late", .int 0), ("begin", .int 0)] [0, 1, 2, 3] rfl (List.cons_ne_nil _ _) (fun q h => by
  cases h with
  | head => exact (.head _)
  | tail _ h => cases h with
    | head => exact (.tail _ (.head _))
    | tail _ h => cases h) (fun D doc pm an cdv ct us mv ws l1 l2 l3 => match us, mv, ws, l1, l2, l3 with | [a0, a1], [m0, m1], [], _, _, _ => ⟨_, _, _, _, _, _, rfl, rfl, ⟨_, _, _, _, _, _, rfl, rfl, rfl⟩⟩)
theorem kb_Taps_u__init_2 : Z.Bd d_Taps_u__init p_Taps_u__init 2 [] (fun K vs zs => Z.gP [0, 1, 2, 3] (vs ++ (([V.int 0, V.int 0] : List V) ++ zs))) := Z.Bd.b [("late", .int 0), ("begin", .int 0)] [0, 1, 2, 3] rfl (List.cons_ne_nil _ _) (fun q h => by
  cases h with
  | head => exact (.head _)
  | tail _ h => cases h with
    | head => exact (.tail _ (.head _))
    | tail _ h => cases h) (fun D doc pm an cdv ct us mv ws l1 l2 l3 => match us, mv, ws, l1, l2, l3 with | [a0, a1], [m0, m1], [], _, _, _ => ⟨_, _, _, _, _, _, rfl, rfl, ⟨_, _, _, _, _, _, rfl, rfl, rfl⟩⟩)
theorem kb_Up_u__init_2 : Z.Bd d_Up_u__init p_Up_u__init 2 [] (fun K vs zs => Z.gP [0, 1, 2, 3, 4] (vs ++ ([V.bl false] ++ (([V.int 0, V.int 0] : List V) ++ zs)))) := Z.Bd.c [("late", .int 0), ("begin", .int 0)] [0, 1, 2, 3, 4] (List.cons_ne_nil _ _) (List.cons_ne_nil _ _) (fun q h => by
  cases h with
  | head => exact (.head _)
  | tail _ h => cases h with
    | head => exact (.tail _ (.head _))
    | tail _ h => cases h) (fun T D doc pm an cdv ct us its mv ws l1 l2 l3 l4 => match us, its, mv, ws, l1, l2, l3, l4 with | [a0, a1], [i0], [m0, m1], [], _, _, _, _ => ⟨_, rfl, ⟨_, _, _, _, _, _, rfl, rfl, ⟨_, _, _, _, _, _, rfl, rfl, rfl⟩⟩⟩)
theorem kb_Resample_u__init_4 : Z.Bd d_Resample_u__init p_Resample_u__init 4 [] (fun K vs zs => Z.gP [0, 1, 2, 3, 4, 5] (vs ++ (([V.int 0, V.int 0] : List V) ++ zs))) := Z.Bd.b [("late", .int 0), ("begin", .int 0)] [0, 1, 2, 3, 4, 5] rfl (List.cons_ne_nil _ _) (fun q h => by
  cases h with
  | head => exact (.head _)
  | tail _ h => cases h with
    | head => exact (.tail _ (.head _))
    | tail _ h => cases h) (fun D doc pm an cdv ct us mv ws l1 l2 l3 => match us, mv, ws, l1, l2, l3 with | [a0, a1, a2, a3], [m0, m1], [], _, _, _ => ⟨_, _, _, _, _, _, rfl, rfl, ⟨_, _, _, _, _, _, rfl, rfl, rfl⟩⟩)
def fa : List He.Fa := [.noat "Taps" "own_late", .noat "Up" "own_late", .noat "Down" "own_late", .noat "Resample" "own_late", .free "len", .free "max", .glo "_law_draw", .free "range", .free "isinstance", .free "bool", .free "int", .glo "is_whole", .glo "want", .glo "is_whole_from", .int "MOST_BEGIN" 9999, .int "MOST_LATE" 99, .free "all", .free "list", .free "sum", .free "zip", .free "tuple", .glo "Node", .glo "are_wholes", .int "MOST_TAPS" 12, .glo "tapped", .int "MOST_RATE" 8, .cls "Resample", .cls "Down", .cls "Up", .cls "Taps", .glo "_law_number", .glo "_law_sample", .glo "_law_fired", .glo "_law_by_three", .free "repr", .glo "_law_given", .mkr "Down", .glo "Down", .mkr "Taps", .glo "Taps", .mkr "Up", .glo "Up", .mkr "Resample", .glo "Resample", .free "min", .glo "_law_right", .glo "_law_numbers", .glo "_law_pot", .glo "_law_cell", .noat "Taps" "own_begin", .noat "Up" "own_begin", .noat "Down" "own_begin", .noat "Resample" "own_begin", .noat "Taps" "own_numbers", .noat "Up" "own_numbers", .noat "Down" "own_numbers", .noat "Resample" "own_numbers", .noat "Taps" "own_hold", .noat "Taps" "own_many", .noat "Up" "own_hold", .noat "Up" "own_many", .noat "Down" "own_hold", .noat "Down" "own_many", .noat "Resample" "own_hold", .noat "Resample" "own_many", .noat "Taps" "own_down", .noat "Taps" "own_up", .noat "Up" "own_down", .noat "Up" "own_up", .noat "Down" "own_down", .noat "Down" "own_up", .noat "Resample" "own_down", .noat "Resample" "own_up", .glo "law"]
def fx : List Z.Fx := [Z.fxC "Node" "__init__", Z.fxM "Resample" "at_first" "Resample", Z.fxM "Down" "at_first" "Node", Z.fxM "Up" "at_first" "Node", Z.fxM "Taps" "at_first" "Taps", Z.fxM "Resample" "worked" "Resample", Z.fxM "Down" "worked" "Down", Z.fxM "Up" "worked" "Up", Z.fxM "Taps" "worked" "Taps", Z.fxM "Resample" "gives" "Resample", Z.fxM "Down" "gives" "Node", Z.fxM "Up" "gives" "Up", Z.fxM "Taps" "gives" "Node", Z.fxM "Resample" "takes" "Resample", Z.fxM "Down" "takes" "Down", Z.fxM "Up" "takes" "Node", Z.fxM "Taps" "takes" "Node", Z.fxM "Resample" "fire" "Node", Z.fxM "Down" "fire" "Node", Z.fxM "Up" "fire" "Node", Z.fxM "Taps" "fire" "Node", Z.fxM "Resample" "fresh" "Node", Z.fxM "Down" "fresh" "Node", Z.fxM "Up" "fresh" "Node", Z.fxM "Taps" "fresh" "Node"]
def dl : List He.DefD := [d_l_cell, d_l_pot, d_l_draw, d_l_number, d_is_whole, d_is_whole_from, d_want, d_Node_u__init, d_are_wholes, d_tapped, d_Node_takes, d_Node_gives, d_Node_at_first, d_Taps_u__init, d_Taps_at_first, d_Taps_worked, d_Up_u__init, d_Up_gives, d_Up_worked, d_Down_u__init, d_Down_takes, d_Down_worked, d_Resample_u__init, d_Resample_gives, d_Resample_takes, d_Resample_at_first, d_Resample_worked, d_Node_fresh, d_Node_fire, d_l_numbers, d_l_sample, d_l_given, d_l_fired, d_l_by_three, d_l_right, d_law]
abbrev Ev (K : PySem.W.Frag) (mg : Str → Option Value) : Prop := Z.Ev fa fx dl K mg

/-- a pot: what digits are left, and a number to mix -/
def Pot (H : Hp) (a : Addr) : Prop := ∃ x y : Int, H a = some (.lst [.int x, .int y]) ∧ 0 ≤ y ∧ y < 4294967296
theorem divW {i m : Int} (h : 0 < m) (b : m.natAbs < 2 ^ 250) : CDivW i m := wide_div h b (by decide) (by decide)
theorem divP {i m : Int} (h : 0 < m) (b : m.natAbs < 2 ^ 250) : CDivP i m := Z.divP h b (by decide) (by decide)
theorem Pot.ne {H : Hp} {a D : Addr} (p : Pot H a) (f : H D = none) : D ≠ a := by
  obtain ⟨x, y, h, _⟩ := p
  exact (L2.ne_of_none h f).symm
theorem Pot.mono {H H' : Hp} {a : Addr} (p : Pot H a) (s : Same H H') : Pot H' a := by
  obtain ⟨x, y, h, q⟩ := p
  exact ⟨x, y, s _ _ h, q⟩
theorem Pot.up {H H' : Hp} {a D : Addr} {o : HO} (p : Pot H a) (u : Z.Up H D o H') (ne : a ≠ D) : Pot H' a := by
  obtain ⟨x, y, h, q⟩ := p
  exact ⟨x, y, u.get ne h, q⟩
theorem Pot.new {H H' : Hp} {a D : Addr} {o : HO} (p : Pot H a) (u : Z.New H D o H') : Pot H' a := p.mono u.same
/-- a number that the laws draw -/
def Num (r : Int) : Prop := r.natAbs < 2 ^ 200
theorem num_of {r : Int} (h : -1000000000000000000 ≤ r ∧ r ≤ 1000000000000000000) : Num r := by
  unfold Num
  have : r.natAbs ≤ 1000000000000000000 := by omega
  exact Nat.lt_of_le_of_lt this (by decide)
theorem Num.big {a : Int} (h : Num a) : a.natAbs < Z.big := Nat.lt_of_lt_of_le h (by unfold Z.big; exact Nat.pow_le_pow_right (by decide) (by decide))
theorem num_mul {a b : Int} (h : Num a) (g : Num b) : CMulX a b := mulx_ok h g (by decide)
theorem map_take_succ {α β : Type} (f : α → β) {xs : List α} {i : Nat} {x : α} (h : xs[i]? = some x) : (xs.take (i + 1)).map f = (xs.take i).map f ++ [f x] := by
  rw [List.take_add_one, h, List.map_append]; rfl
theorem ints_at {ns : List Int} {i : Nat} {v : V} (h : (ns.map V.int)[i]? = some v) : ∃ z, ns[i]? = some z ∧ v = .int z := by
  rw [List.getElem?_map] at h
  cases e : ns[i]? with
  | none => rw [e] at h; cases h
  | some z => rw [e] at h; exact ⟨z, rfl, (Option.some.inj h).symm⟩
theorem pick {xs : List Int} {r : Int} (h0 : 0 ≤ r) (h1 : r < xs.length) : ∃ v, atI (xs.map V.int) r = some (.int v) ∧ xs[r.toNat]? = some v := by
  obtain ⟨n, rfl⟩ : ∃ n : Nat, r = n := ⟨r.toNat, by omega⟩
  have hn : n < xs.length := by omega
  refine ⟨xs[n], atI_nat (by rw [List.getElem?_map, List.getElem?_eq_getElem hn]; rfl), by simp⟩
theorem take_snoc {α : Type} {xs : List α} {i : Nat} {x : α} (h : xs[i]? = some x) : xs.take (i + 1) = xs.take i ++ [x] := by
  rw [List.take_add_one, h]; rfl

def sp_l_cell (K : PySem.W.Frag) : Sp := fun vz H Q Ex => ∃ (s0 : Addr) (ns : List Int) (i : Nat), vz = [.ref s0, .int (i : Int)] ∧ (SqL K H s0 (ns.map V.int)) ∧ (i < 64) ∧ (∀ z : Int, Q (.int z) H)
theorem c_l_cell {K : PySem.W.Frag} {H : Hp} {Q : VK} {Ex : XK} {s0 : Addr} {ns : List Int} {i : Nat} (h1 : SqL K H s0 (ns.map V.int)) (h2 : i < 64) (k : ∀ z : Int, Q (.int z) H) : sp_l_cell K [.ref s0, .int (i : Int)] H Q Ex := ⟨s0, ns, i, rfl, h1, h2, k⟩
theorem ok_l_cell {g : Prop} {P : Program} {w : World} {K : PySem.W.Frag} {mg : Str → Option Value} {base : Heap} (E : Ev K mg) : Z.Pr g P w K mg base 1 (He.ga K "_law_cell") d_l_cell p_l_cell (sp_l_cell K) := by
  obtain ⟨fd, FD⟩ := E.fn 0 (d := d_l_cell)
  refine ⟨fd, FD, Z.FunD.okG FD sc_l_cell (fun vz H Q Ex h => ?_) (fun cdv A outer s H vz Q Ex hr hgd h => ?_)⟩
  · obtain ⟨_, _, _, rfl, _⟩ := h
    rfl
  · have hu := hr.units
    obtain ⟨s0, ns, i, rfl, h1, h2, k⟩ := h
    refine ⟨_, (Z.zs_one (Z.z_ret (pe_ifExp (pt_cmpR op_lt (pv 1) (pe_callB (Z.clenK K rfl) (by rfl) (E.free 4) (by decide +kernel) (pa_cons (pv 0) pa_nil)) (nomark _)) (pe_ix (Z.ixUK K rfl) (pv 0) (pv 1) (fun _ _ => rfl)) pe_int))), ?_⟩
    refine Z.i_start (σ := [some (.ref s0), some (.int (i : Int))]) rfl ?_
    try dsimp only [Z.cxK]
    k_call_by "za" 0
    refine Z.ite2' (fun hx => ?_) (fun hx => ?_)
    · k_call_by "za" 0
      obtain ⟨z, hz⟩ : ∃ z, ns[i]? = some z := ⟨ns[i]'(by omega), by simp⟩
      refine Z.i_ixQ h1 (atI_nat (by rw [List.getElem?_map, hz]; rfl)) ?_
      exact k z
    · k_call_by "za" 0
      exact k 0
def sp_l_pot (K : PySem.W.Frag) : Sp := fun vz H Q Ex => ∃ (c : Int), vz = [.int c] ∧ (∀ p H', H p = none → Same H H' → Pot H' p → Q (.ref p) H')
theorem c_l_pot {K : PySem.W.Frag} {H : Hp} {Q : VK} {Ex : XK} {c : Int}  (k : ∀ p H', H p = none → Same H H' → Pot H' p → Q (.ref p) H') : sp_l_pot K [.int c] H Q Ex := ⟨c, rfl, k⟩
theorem ok_l_pot {g : Prop} {P : Program} {w : World} {K : PySem.W.Frag} {mg : Str → Option Value} {base : Heap} (E : Ev K mg) : Z.Pr g P w K mg base 1 (He.ga K "_law_pot") d_l_pot p_l_pot (sp_l_pot K) := by
  obtain ⟨fd, FD⟩ := E.fn 1 (d := d_l_pot)
  refine ⟨fd, FD, Z.FunD.okG FD sc_l_pot (fun vz H Q Ex h => ?_) (fun cdv A outer s H vz Q Ex hr hgd h => ?_)⟩
  · obtain ⟨_, rfl, _⟩ := h
    rfl
  · have hu := hr.units
    obtain ⟨c, rfl, k⟩ := h
    refine ⟨_, (Z.zs_one (Z.z_ret (pe_lst (pa_cons (pe_callB (Z.cmax2 rfl) (by rfl) (E.free 5) (by decide +kernel) (pa_cons pe_int (pa_cons (pe_op op_sub (pv 0) (pe_op op_pow pe_int pe_int)) pa_nil))) (pa_cons (pe_op op_mod (pe_op (Z.opAddK K rfl) (pe_op (Z.opMulK K rfl) (pe_op op_mod (pv 0) pe_int) pe_int) pe_int) pe_int) pa_nil))))), ?_⟩
    refine Z.i_start (σ := [some (.int c)]) rfl ?_
    try dsimp only [Z.cxK]
    k_call_by "za" 0
    rename_i p H' n
    exact k p H' n.fr n.same ⟨_, _, n.at, Int.emod_nonneg _ (by decide), Int.lt_trans (Int.emod_lt_of_pos _ (by decide)) (by decide)⟩
def sp_l_draw (K : PySem.W.Frag) : Sp := fun vz H Q Ex => ∃ (a : Addr) (m : Int), vz = [.ref a, .int m] ∧ (Pot H a) ∧ (0 < m) ∧ (m.natAbs < 2 ^ 250) ∧ (∀ r H', 0 ≤ r → r < m → Pot H' a → Z.But a H H' → Q (.int r) H')
theorem c_l_draw {K : PySem.W.Frag} {H : Hp} {Q : VK} {Ex : XK} {a : Addr} {m : Int} (h1 : Pot H a) (h2 : 0 < m) (h3 : m.natAbs < 2 ^ 250) (k : ∀ r H', 0 ≤ r → r < m → Pot H' a → Z.But a H H' → Q (.int r) H') : sp_l_draw K [.ref a, .int m] H Q Ex := ⟨a, m, rfl, h1, h2, h3, k⟩
theorem ok_l_draw {g : Prop} {P : Program} {w : World} {K : PySem.W.Frag} {mg : Str → Option Value} {base : Heap} (E : Ev K mg) : Z.Pr g P w K mg base 1 (He.ga K "_law_draw") d_l_draw p_l_draw (sp_l_draw K) := by
  obtain ⟨fd, FD⟩ := E.fn 2 (d := d_l_draw)
  refine ⟨fd, FD, Z.FunD.okG FD sc_l_draw (fun vz H Q Ex h => ?_) (fun cdv A outer s H vz Q Ex hr hgd h => ?_)⟩
  · obtain ⟨_, _, rfl, _⟩ := h
    rfl
  · have hu := hr.units
    obtain ⟨a, m, rfl, h1, h2, h3, k⟩ := h
    refine ⟨_, (Z.zs_cons (Z.z_if (pt_cmpR op_gt (pe_ix (Z.ixUK K rfl) (pv 0) pe_int (fun _ _ => rfl)) pe_int (nomark _)) (Z.zs_cons (Z.z_set (i := 2) sc_l_draw.nd rfl (Or.inl rfl) (pe_op op_mod (pe_ix (Z.ixUK K rfl) (pv 0) pe_int (fun _ _ => rfl)) (pv 1)))
   (Z.zs_cons (Z.z_asg (pe_op op_fdivW (pe_ix (Z.ixUK K rfl) (pv 0) pe_int (fun _ _ => rfl)) (pv 1)) (pg_sub (pv 0) pe_int set_list))
   (Z.zs_one (Z.z_ret (pv 2))))) Z.zs_nil)
   (Z.zs_cons (Z.z_asg (pe_op op_mod (pe_op (Z.opAddK K rfl) (pe_op (Z.opMulK K rfl) (pe_ix (Z.ixUK K rfl) (pv 0) pe_int (fun _ _ => rfl)) pe_int) pe_int) pe_int) (pg_sub (pv 0) pe_int set_list))
   (Z.zs_one (Z.z_ret (pe_op op_mod (pe_op op_fdivW (pe_op op_mod (pe_op (Z.opMulK K rfl) (pe_ix (Z.ixUK K rfl) (pv 0) pe_int (fun _ _ => rfl)) (pe_ix (Z.ixUK K rfl) (pv 0) pe_int (fun _ _ => rfl))) pe_int) pe_int) (pv 1)))))), ?_⟩
    refine Z.i_start (σ := [some (.ref a), some (.int m), none]) rfl ?_
    try dsimp only [Z.cxK]
    obtain ⟨x, y, hp, hy0, hy1⟩ := h1
    k_call_by "za" 0
    refine Z.ite2' (fun hx => ?_) (fun hx => ?_)
    · k_call_by "za" 0
      refine Z.i_I (divW h2 h3) ?_
      k_call_by "za" 0
      rename_i H2 u2
      exact k _ _ (Int.emod_nonneg _ (by omega)) (Int.emod_lt_of_pos _ h2) ⟨_, _, u2.at, hy0, hy1⟩ (by k_call_by "fr" 0)
    · k_call_by "za" 0
      rename_i H2 u2
      have e0 : 0 ≤ (y * 39373 + 8191) % 2147483587 := Int.emod_nonneg _ (by decide)
      have e1 : (y * 39373 + 8191) % 2147483587 < 2147483587 := Int.emod_lt_of_pos _ (by decide)
      k_call_by "za" 0
      exact k _ _ (Int.emod_nonneg _ (by omega)) (Int.emod_lt_of_pos _ h2) ⟨_, _, u2.at, e0, by omega⟩ (by k_call_by "fr" 0)

theorem e14 : (10 : Int) ^ (Int.toNat 14) = 100000000000000 := by decide
theorem e9 : (10 : Int) ^ (Int.toNat 9) = 1000000000 := by decide
theorem grow {f r : Int} {i : Nat} (h0 : 0 ≤ f) (h1 : f < 100000000000000 ^ i) (r0 : 0 ≤ r) (r1 : r < 100000000000000) : 0 ≤ f * 100000000000000 + r ∧ f * 100000000000000 + r < 100000000000000 ^ (i + 1) := by
  refine ⟨by omega, ?_⟩
  rw [Int.pow_succ]
  omega
theorem way_one {r : Int} (h0 : 0 ≤ r) (h1 : r < 8) (h2 : ¬ r = 0) : r = 1 ∨ r = 2 ∨ r = 3 ∨ r = 4 ∨ r = 5 ∨ r = 6 ∨ r = 7 := by omega

def sp_l_number (K : PySem.W.Frag) : Sp := fun vz H Q Ex => ∃ (a : Addr), vz = [.ref a] ∧ (Pot H a) ∧ (∀ r H', Num r → Pot H' a → Z.But a H H' → Q (.int r) H')
theorem c_l_number {K : PySem.W.Frag} {H : Hp} {Q : VK} {Ex : XK} {a : Addr} (h1 : Pot H a) (k : ∀ r H', Num r → Pot H' a → Z.But a H H' → Q (.int r) H') : sp_l_number K [.ref a] H Q Ex := ⟨a, rfl, h1, k⟩
theorem ok_l_number {g : Prop} {P : Program} {w : World} {K : PySem.W.Frag} {mg : Str → Option Value} {base : Heap} (E : Ev K mg) : Z.Pr g P w K mg base 2 (He.ga K "_law_number") d_l_number p_l_number (sp_l_number K) := by
  obtain ⟨fd, FD⟩ := E.fn 3 (d := d_l_number)
  refine ⟨fd, FD, Z.FunD.okG FD sc_l_number (fun vz H Q Ex h => ?_) (fun cdv A outer s H vz Q Ex hr hgd h => ?_)⟩
  · obtain ⟨_, rfl, _⟩ := h
    rfl
  · have hu := hr.units
    obtain ⟨a, rfl, h1, k⟩ := h
    have F_l_draw := ok_l_draw (g := g) (P := P) (w := w) (base := base) E
    refine ⟨_, (Z.zs_cons (Z.z_set (i := 1) sc_l_number.nd rfl (Or.inl rfl) (Z.pe_f F_l_draw (hr.mono (by decide)) hgd (by rfl) (E.glo 6) bd_l_draw (passL) (pa_cons (pv 0) (pa_cons pe_int pa_nil))))
   (Z.zs_cons (Z.z_if (pt_cmpR (Z.opEqK K rfl hu) (pv 1) pe_int (nomark _)) (Z.zs_cons (Z.z_set (i := 2) sc_l_number.nd rfl (Or.inl rfl) pe_int)
   (Z.zs_cons (Z.z_for (passes_of rfl) rfl (pi_range1 (by rfl) (E.free 7) (pa_cons pe_int pa_nil)) (pg_name (i := 3) sc_l_number.nd rfl (Or.inl rfl))
   (Z.zs_one (Z.z_set (i := 2) sc_l_number.nd rfl (Or.inl rfl) (pe_op (Z.opAddK K rfl) (pe_op (Z.opMulK K rfl) (pv 2) (pe_op op_pow pe_int pe_int)) (Z.pe_f F_l_draw (hr.mono (by decide)) hgd (by rfl) (E.glo 6) bd_l_draw (passL) (pa_cons (pv 0) (pa_cons (pe_op op_pow pe_int pe_int) pa_nil)))))))
   (Z.zs_one (Z.z_ret (pe_op (Z.opMulK K rfl) (pv 2) (pe_op op_sub pe_int (pe_op (Z.opMulK K rfl) pe_int (Z.pe_f F_l_draw (hr.mono (by decide)) hgd (by rfl) (E.glo 6) bd_l_draw (passL) (pa_cons (pv 0) (pa_cons pe_int pa_nil)))))))))) Z.zs_nil)
   (Z.zs_one (Z.z_ret (pe_op op_sub (Z.pe_f F_l_draw (hr.mono (by decide)) hgd (by rfl) (E.glo 6) bd_l_draw (passL) (pa_cons (pv 0) (pa_cons (pe_ix (Z.ixUK K rfl) (pe_lst (pa_cons pe_int (pa_cons pe_int (pa_cons pe_int (pa_cons pe_int (pa_cons pe_int (pa_cons pe_int (pa_cons (pe_op op_pow pe_int pe_int) pa_nil)))))))) (pe_op op_sub (pv 1) pe_int) (fun _ _ => rfl)) pa_nil))) (pe_ix (Z.ixUK K rfl) (pe_lst (pa_cons pe_int (pa_cons pe_int (pa_cons pe_int (pa_cons pe_int (pa_cons pe_int (pa_cons pe_int (pa_cons pe_int pa_nil)))))))) (pe_op op_sub (pv 1) pe_int) (fun _ _ => rfl))))))), ?_⟩
    refine Z.i_start (σ := [some (.ref a), none, none, none]) rfl ?_
    try dsimp only [Z.cxK]
    k_call_by "za" 0
    refine c_l_draw h1 (by decide) (by decide) fun r H1 r0 r1 p1 b1 => ?_
    k_call_by "za" 0
    refine Z.ite2' (fun hz => ?_) (fun hz => ?_)
    · k_call_by "za" 0
      refine Z.i_rng1L 4 rfl (by decide) ?_
      refine Z.loop_range0 (fun i σ H' => (∃ (f : Int) (x3 : Option V), σ = [some (.ref a), some (.int r), some (.int f), x3] ∧ 0 ≤ f ∧ f < 100000000000000 ^ i) ∧ Pot H' a ∧ Z.But a H H') ?_ ?_ ?_
      · exact ⟨⟨0, _, rfl, by decide, by decide⟩, p1, b1⟩
      · rintro i σ H2 hi ⟨⟨f, x3, rfl, f0, f1⟩, p2, b2⟩
        k_call_by "za" 0
        rw [e14]
        refine c_l_draw p2 (by decide) (by decide) fun q H3 q0 q1 p3 b3 => ?_
        k_call_by "za" 0
        have e := grow f0 f1 q0 q1
        exact ⟨⟨_, _, rfl, e.1, e.2⟩, p3, b2.trans b3⟩
      · rintro σ H2 ⟨⟨f, x3, rfl, f0, f1⟩, p2, b2⟩
        k_call_by "za" 0
        refine c_l_draw p2 (by decide) (by decide) fun q H3 q0 q1 p3 b3 => ?_
        k_call_by "za" 0
        have hf : f.natAbs < 2 ^ 190 := by
          have : (100000000000000 : Int) ^ 4 = 100000000000000000000000000000000000000000000000000000000 := by decide
          rw [this] at f1
          exact Nat.lt_trans (m := 100000000000000000000000000000000000000000000000000000000) (by omega) (by decide)
        have hs : (1 - 2 * q).natAbs < 2 ^ 2 := by omega
        refine k _ _ ?_ p3 (b2.trans b3)
        unfold Num
        rw [Int.natAbs_mul]
        have h9 : f.natAbs * (1 - 2 * q).natAbs < 2 ^ 190 * 2 ^ 2 := Nat.mul_lt_mul_of_lt_of_le hf (Nat.le_of_lt hs) (by decide)
        exact Nat.lt_of_lt_of_le h9 (by decide)
    · k_call_by "za" 0
      rename_i t1 H2 n2
      obtain ⟨m, hm, em⟩ := pick (xs := [21, 21, 21, 3, 201, 2001, (10 : Int) ^ (Int.toNat 9)]) (r := r - 1) (by omega) (by show _ < (7 : Int); omega)
      have hb : 0 < m ∧ m ≤ 1000000000 := by
        rw [e9] at em
        rcases way_one r0 r1 hz with rfl | rfl | rfl | rfl | rfl | rfl | rfl <;> cases em <;> decide
      refine Z.i_ixL n2.at hm ?_
      k_call_by "za" 0
      refine c_l_draw (p1.new n2) hb.1 (Nat.lt_of_le_of_lt (m := 1000000000) (by omega) (by decide)) fun q H3 q0 q1 p3 b3 => ?_
      k_call_by "za" 0
      rename_i t2 H4 n4
      obtain ⟨c, hc, ec⟩ := pick (xs := [10, 10, 5, 1, 100, 1000, 500000000]) (r := r - 1) (by omega) (by show _ < (7 : Int); omega)
      have hb2 : 0 < c ∧ c ≤ 500000000 := by
        rcases way_one r0 r1 hz with rfl | rfl | rfl | rfl | rfl | rfl | rfl <;> cases ec <;> decide
      refine Z.i_ixL n4.at hc ?_
      k_call_by "za" 0
      exact k _ _ (num_of (by omega)) (p3.new n4) (by k_call_by "fr" 0)
/-! ### the sorts of nodes -/
inductive Nd where
  | taps (ns : List Int)
  | up (n : Nat) (h : Bool)
  | down (n : Nat)
  | resample (ru rd : Nat) (rn : List Int)
/-- what a node keeps -/
inductive Kp where
  | unit
  | int (i : Int)
  | tup (ns : List Int)
  | gain (f : Int) (ns : List Int)
def r0 (rows : List (List Int)) : Int := ((rows[0]?).getD []).headD 0
def r1 (rows : List (List Int)) : Int := ((rows[1]?).getD []).headD 0
def r2 (rows : List (List Int)) : Int := ((rows[2]?).getD []).headD 0
def Kp.tl : Kp → List Int
  | .tup ns => ns
  | _ => []
def Kp.num : Kp → Int
  | .int i => i
  | _ => 0
def Kp.now : Kp → Int × List Int
  | .gain f [] => (f, [])
  | .gain _ (n :: r) => (n, r)
  | _ => (0, [])
def tapped (ns ts : List Int) : Int := ((ns.zip ts).map fun p => p.1 * p.2).sum
def rstep (ns : List Int) (st : List Int × List Int) (one : Int) : List Int × List Int := ((one :: st.1).take (ns.length - 1), st.2 ++ [tapped ns (one :: st.1)])
/-- what a resample keeps and has given by then -/
structure RIn (ns : List Int) (st : List Int × List Int) (n : Nat) : Prop where
  le : st.1.length = ns.length - 1
  nu : ∀ m ∈ st.1, Num m
  gi : st.2.length = n
theorem RIn.step {ns : List Int} {st : List Int × List Int} {n : Nat} {x : Int} (h : RIn ns st n) (hx : Num x) (hl : 1 ≤ ns.length) : RIn ns (rstep ns st x) (n + 1) := by
  refine ⟨?_, fun m hm => ?_, ?_⟩
  · show ((x :: st.1).take (ns.length - 1)).length = _
    rw [List.length_take, List.length_cons, h.le]; omega
  · rcases List.mem_cons.mp (List.mem_of_mem_take hm) with e | e
    · rw [e]; exact hx
    · exact h.nu m e
  · show (st.2 ++ [_]).length = _
    rw [List.length_append, h.gi]; rfl
def upped (up : Nat) (xs : List Int) : List Int := (xs.map fun x => x :: List.replicate (up - 1) 0).flatten
def Nd.takes : Nd → List Nat
  | .taps ns => [1]
  | .up n h => [1]
  | .down n => [n]
  | .resample ru rd rn => [rd]
def Nd.gives : Nd → Nat
  | .taps ns => 1
  | .up n h => n
  | .down n => 1
  | .resample ru rd rn => ru
def Nd.first : Nd → Kp
  | .taps ns => .tup (List.replicate (ns.length - 1) 0)
  | .up n h => .unit
  | .down n => .unit
  | .resample ru rd rn => .tup (List.replicate (rn.length - 1) 0)
def Nd.worked : Nd → Kp → List (List Int) → Kp × List Int
  | .taps ns, kp, rows => (.tup ((r0 rows :: kp.tl).take (ns.length - 1)), [tapped ns (r0 rows :: kp.tl)])
  | .up n h, kp, rows => (kp, if h then List.replicate n (r0 rows) else r0 rows :: List.replicate (n - 1) 0)
  | .down n, kp, rows => (kp, [r0 rows])
  | .resample ru rd rn, kp, rows => (.tup ((upped ru ((rows[0]?).getD [])).foldl (rstep rn) (kp.tl, [])).1, Z.stepped rd ((upped ru ((rows[0]?).getD [])).foldl (rstep rn) (kp.tl, [])).2)
def Nd.wf : Nd → Prop
  | .taps ns => 1 ≤ ns.length ∧ ns.length ≤ 12 ∧ ∀ n ∈ ns, Num n
  | .up n h => 1 ≤ n ∧ n ≤ 8
  | .down n => 1 ≤ n ∧ n ≤ 8
  | .resample ru rd rn => (1 ≤ ru ∧ ru ≤ 8) ∧ (1 ≤ rd ∧ rd ≤ 8) ∧ 1 ≤ rn.length ∧ rn.length ≤ 12 ∧ ∀ n ∈ rn, Num n
def Nd.tk (nd : Nd) : List Int := nd.takes.map fun n => ((n : Nat) : Int)
def Nd.fire (nd : Nd) (m : Nat) (kp : Kp) (rows : List (List Int)) : Nat × Kp × List Int := if m = 0 then (0, (nd.worked kp rows).1, (nd.worked kp rows).2) else (m - 1, kp, List.replicate nd.gives 0)
def IsNd (K : PySem.W.Frag) (H : Hp) (a : Addr) (l b : Nat) : Nd → Prop
  | .taps ns => ∃ dx s, H a = some (.ins (He.ga K "Taps") dx [("own_late", .int (l : Nat)), ("own_begin", .int (b : Nat)), ("own_numbers", .ref s)]) ∧ H s = some (.tup (ns.map V.int))
  | .up n h => ∃ dx , H a = some (.ins (He.ga K "Up") dx [("own_late", .int (l : Nat)), ("own_begin", .int (b : Nat)), ("own_many", .int (n : Nat)), ("own_hold", .bl h)])
  | .down n => ∃ dx , H a = some (.ins (He.ga K "Down") dx [("own_late", .int (l : Nat)), ("own_begin", .int (b : Nat)), ("own_many", .int (n : Nat))])
  | .resample ru rd rn => ∃ dx s, H a = some (.ins (He.ga K "Resample") dx [("own_late", .int (l : Nat)), ("own_begin", .int (b : Nat)), ("own_up", .int (ru : Nat)), ("own_down", .int (rd : Nat)), ("own_numbers", .ref s)]) ∧ H s = some (.tup (rn.map V.int))

/-- v is what kp tells -/
def IsKp (H : Hp) (v : V) : Kp → Prop
  | .unit => ∃ r, v = .ref r ∧ H r = some (.tup [])
  | .int i => v = .int i
  | .tup ns => ∃ r, v = .ref r ∧ H r = some (.tup (ns.map V.int))
  | .gain f ns => ∃ r s, v = .ref r ∧ H r = some (.tup [.int f, .ref s]) ∧ H s = some (.tup (ns.map V.int))
def IsMem (H : Hp) (v : V) (m : Nat) (kp : Kp) : Prop := ∃ r w, v = .ref r ∧ H r = some (.tup [.int (m : Nat), w]) ∧ IsKp H w kp
def IsRow (H : Hp) (v : V) (row : List Int) : Prop := ∃ q, v = .ref q ∧ H q = some (.lst (row.map V.int))
def IsRows (H : Hp) (p : Addr) (rows : List (List Int)) : Prop := ∃ vs, H p = some (.lst vs) ∧ Z.All2 (IsRow H) vs rows
/-- tuples and instances stand -/
structure Kept (H H' : Hp) : Prop where
  t : ∀ r xs, H r = some (.tup xs) → H' r = some (.tup xs)
  i : ∀ r C dx fs, H r = some (.ins C dx fs) → H' r = some (.ins C dx fs)
theorem Kept.of {H H' : Hp} (s : Same H H') : Kept H H' := ⟨fun _ _ h => s _ _ h, fun _ _ _ _ h => s _ _ h⟩
theorem Kept.but {H H' : Hp} {a : Addr} {xs : List V} (b : Z.But a H H') (h : H a = some (.lst xs)) : Kept H H' :=
  ⟨fun _ _ e => b.get (Z.ne_tl e h) e, fun _ _ _ _ e => b.get (Z.ne_il e h) e⟩
theorem Kept.up {H H' : Hp} {a : Addr} {xs : List V} {o : HO} (u : Z.Up H a o H') (h : H a = some (.lst xs)) : Kept H H' := .but u.but h
theorem Kept.trans {H H1 H2 : Hp} (x : Kept H H1) (y : Kept H1 H2) : Kept H H2 := ⟨fun _ _ h => y.t _ _ (x.t _ _ h), fun _ _ _ _ h => y.i _ _ _ _ (x.i _ _ _ _ h)⟩
theorem Pot.kept {H H' : Hp} {a : Addr} (p : Pot H a) (b : Z.But a H H') : Kept H H' := by
  obtain ⟨x, y, h, _⟩ := p
  exact .but b h
theorem IsKp.kept {H H' : Hp} {v : V} (k : Kept H H') : ∀ {kp : Kp}, IsKp H v kp → IsKp H' v kp
  | .unit, ⟨r, e, h⟩ => ⟨r, e, k.t _ _ h⟩
  | .int _, h => h
  | .tup _, ⟨r, e, h⟩ => ⟨r, e, k.t _ _ h⟩
  | .gain _ _, ⟨r, s, e, h, h2⟩ => ⟨r, s, e, k.t _ _ h, k.t _ _ h2⟩
theorem IsMem.kept {H H' : Hp} {v : V} {m : Nat} {kp : Kp} (h : IsMem H v m kp) (k : Kept H H') : IsMem H' v m kp := by
  obtain ⟨r, w, e, h, h2⟩ := h
  exact ⟨r, w, e, k.t _ _ h, h2.kept k⟩
theorem IsNd.kept {K : PySem.W.Frag} {H H' : Hp} {a : Addr} {l b : Nat} (k : Kept H H') : ∀ {nd : Nd}, IsNd K H a l b nd → IsNd K H' a l b nd
  | .taps _, ⟨dx, s, h, h2⟩ => ⟨dx, s, k.i _ _ _ _ h, k.t _ _ h2⟩
  | .up _ _, ⟨dx, h⟩ => ⟨dx, k.i _ _ _ _ h⟩
  | .down _, ⟨dx, h⟩ => ⟨dx, k.i _ _ _ _ h⟩
  | .resample _ _ _, ⟨dx, s, h, h2⟩ => ⟨dx, s, k.i _ _ _ _ h, k.t _ _ h2⟩
theorem IsNd.ins {K : PySem.W.Frag} {H : Hp} {a : Addr} {l b : Nat} : ∀ {nd : Nd}, IsNd K H a l b nd → ∃ C dx fs, H a = some (.ins C dx fs)
  | .taps _, ⟨dx, s, h, h2⟩ => ⟨_, _, _, h⟩
  | .up _ _, ⟨dx, h⟩ => ⟨_, _, _, h⟩
  | .down _, ⟨dx, h⟩ => ⟨_, _, _, h⟩
  | .resample _ _ _, ⟨dx, s, h, h2⟩ => ⟨_, _, _, h⟩
/-- what numbers may come into a node -/
def Nd.num : Nd → Int → Prop
  | .taps _, n => Num n
  | .up _ _, n => Num n
  | .down _, n => True
  | .resample _ _ _, n => Num n
theorem IsRows.same {H H' : Hp} {p : Addr} {rows : List (List Int)} (h : IsRows H p rows) (s : Same H H') : IsRows H' p rows := by
  obtain ⟨vs, h, a⟩ := h
  exact ⟨vs, s _ _ h, a.mono fun _ _ ⟨q, e, h⟩ => ⟨q, e, s _ _ h⟩⟩
theorem IsRows.row {H : Hp} {p : Addr} {rows : List (List Int)} {i : Nat} {row : List Int} (h : IsRows H p rows) (e : rows[i]? = some row) : ∃ vs q, H p = some (.lst vs) ∧ atI vs (i : Int) = some (.ref q) ∧ H q = some (.lst (row.map V.int)) := by
  obtain ⟨vs, h, a⟩ := h
  obtain ⟨v, hv, q, rfl, hq⟩ := a.get' e
  exact ⟨vs, q, h, atI_nat hv, hq⟩
/-- rows as a node takes them -/
def Fit (nd : Nd) (rows : List (List Int)) : Prop := rows.map List.length = nd.takes ∧ ∀ row ∈ rows, ∀ n ∈ row, nd.num n
theorem Fit.at {nd : Nd} {rows : List (List Int)} (f : Fit nd rows) {i w : Nat} (e : nd.takes[i]? = some w) : ∃ row, rows[i]? = some row ∧ row.length = w ∧ ∀ n ∈ row, nd.num n := by
  rw [← f.1, List.getElem?_map] at e
  cases h : rows[i]? with
  | none => rw [h] at e; cases e
  | some row => rw [h] at e; exact ⟨row, rfl, Option.some.inj e, f.2 row (List.mem_of_getElem? h)⟩
def sp_is_whole (K : PySem.W.Frag) : Sp := fun vz H Q Ex => ∃ (i : Int), vz = [.int i] ∧ (Q (.bl true) H)
theorem c_is_whole {K : PySem.W.Frag} {H : Hp} {Q : VK} {Ex : XK} {i : Int}  (k : Q (.bl true) H) : sp_is_whole K [.int i] H Q Ex := ⟨i, rfl, k⟩
theorem ok_is_whole {g : Prop} {P : Program} {w : World} {K : PySem.W.Frag} {mg : Str → Option Value} {base : Heap} (E : Ev K mg) : Z.Pr g P w K mg base 1 (He.ga K "is_whole") d_is_whole p_is_whole (sp_is_whole K) := by
  obtain ⟨fd, FD⟩ := E.fn 4 (d := d_is_whole)
  refine ⟨fd, FD, Z.FunD.okG FD sc_is_whole (fun vz H Q Ex h => ?_) (fun cdv A outer s H vz Q Ex hr hgd h => ?_)⟩
  · obtain ⟨_, rfl, _⟩ := h
    rfl
  · have hu := hr.units
    obtain ⟨i, rfl, k⟩ := h
    refine ⟨_, (Z.zs_one (Z.z_ret (pe_and (pe_callB (Z.cisiK K rfl) (by rfl) (E.free 8) (by decide +kernel) (pa_cons (pv 0) (pa_cons (pe_bltn (v := .ty "int") (u := .type "int") (by rfl) (E.free 10) (by decide +kernel) rfl) pa_nil))) (pe_one (pe_not (pe_callB (Z.cisiK K rfl) (by rfl) (E.free 8) (by decide +kernel) (pa_cons (pv 0) (pa_cons (pe_bltn (v := .ty "bool") (u := .type "bool") (by rfl) (E.free 9) (by decide +kernel) rfl) pa_nil)))))))), ?_⟩
    refine Z.i_start (σ := [some (.int i)]) rfl ?_
    try dsimp only [Z.cxK]
    k_call_by "za" 0
    exact k
def sp_is_whole_from (K : PySem.W.Frag) : Sp := fun vz H Q Ex => ∃ (i l m : Int), vz = [.int i, .int l, .int m] ∧ (l ≤ i) ∧ (i ≤ m) ∧ (Q (.bl true) H)
theorem c_is_whole_from {K : PySem.W.Frag} {H : Hp} {Q : VK} {Ex : XK} {i l m : Int} (h1 : l ≤ i) (h2 : i ≤ m) (k : Q (.bl true) H) : sp_is_whole_from K [.int i, .int l, .int m] H Q Ex := ⟨i, l, m, rfl, h1, h2, k⟩
theorem ok_is_whole_from {g : Prop} {P : Program} {w : World} {K : PySem.W.Frag} {mg : Str → Option Value} {base : Heap} (E : Ev K mg) : Z.Pr g P w K mg base 2 (He.ga K "is_whole_from") d_is_whole_from p_is_whole_from (sp_is_whole_from K) := by
  obtain ⟨fd, FD⟩ := E.fn 5 (d := d_is_whole_from)
  refine ⟨fd, FD, Z.FunD.okG FD sc_is_whole_from (fun vz H Q Ex h => ?_) (fun cdv A outer s H vz Q Ex hr hgd h => ?_)⟩
  · obtain ⟨_, _, _, rfl, _⟩ := h
    rfl
  · have hu := hr.units
    obtain ⟨i, l, m, rfl, h1, h2, k⟩ := h
    have F_is_whole := ok_is_whole (g := g) (P := P) (w := w) (base := base) E
    refine ⟨_, (Z.zs_one (Z.z_ret (pe_and (Z.pe_f F_is_whole (hr.mono (by decide)) hgd (by rfl) (E.glo 11) bd_is_whole (passL) (pa_cons (pv 0) pa_nil)) (pe_one (pe_chain op_le op_le (pv 1) (pv 0) (pv 2)))))), ?_⟩
    refine Z.i_start (σ := [some (.int i), some (.int l), some (.int m)]) rfl ?_
    try dsimp only [Z.cxK]
    k_call_by "za" 0
    refine c_is_whole ?_
    k_call_by "za" 0
    refine Z.itT h1 ?_
    k_call_by "za" 0
    rw [decide_eq_true h2]
    exact k

theorem c_is_whole1 {K : PySem.W.Frag} {H : Hp} {Q : VK} {Ex : XK} {i : Int} (k : Q (.bl true) H) : sp_is_whole K [.int i] H Q Ex := c_is_whole k
theorem c_is_whole_from1 {K : PySem.W.Frag} {H : Hp} {Q : VK} {Ex : XK} {i l m : Int} (h1 : l ≤ i) (h2 : i ≤ m) (k : Q (.bl true) H) : sp_is_whole_from K [.int i, .int l, .int m] H Q Ex := c_is_whole_from h1 h2 k

def sp_want (K : PySem.W.Frag) : Sp := fun vz H Q Ex => ∃ (f : Str), vz = [.bl true, .str f] ∧ (Q .non H)
theorem c_want {K : PySem.W.Frag} {H : Hp} {Q : VK} {Ex : XK} {f : Str}  (k : Q .non H) : sp_want K [.bl true, .str f] H Q Ex := ⟨f, rfl, k⟩
theorem ok_want {g : Prop} {P : Program} {w : World} {K : PySem.W.Frag} {mg : Str → Option Value} {base : Heap} (E : Ev K mg) : Z.Pr g P w K mg base 1 (He.ga K "want") d_want p_want (sp_want K) := by
  obtain ⟨fd, FD⟩ := E.fn 6 (d := d_want)
  refine ⟨fd, FD, Z.FunD.okG FD sc_want (fun vz H Q Ex h => ?_) (fun cdv A outer s H vz Q Ex hr hgd h => ?_)⟩
  · obtain ⟨_, rfl, _⟩ := h
    rfl
  · have hu := hr.units
    obtain ⟨f, rfl, k⟩ := h
    refine ⟨_, (Z.zs_one (Z.z_if (pt_not (pt_val (pv 0))) (Z.zs_one Z.z_never) Z.zs_nil)), ?_⟩
    refine Z.i_start (σ := [some (.bl true), some (.str f)]) rfl ?_
    try dsimp only [Z.cxK]
    k_call_by "za" 0
    exact k
def kinds (K : PySem.W.Frag) : List Addr := [He.ga K "Taps", He.ga K "Up", He.ga K "Down", He.ga K "Resample"]
def sp_Node_u__init (K : PySem.W.Frag) : Sp := fun vz H Q Ex => ∃ (a C dx : Addr) (l b : Nat), vz = [.ref a, .int (l : Nat), .int (b : Nat)] ∧ (H a = some (.ins C dx [])) ∧ (C ∈ kinds K) ∧ (l ≤ 99) ∧ (b ≤ 9999) ∧ (∀ H', Z.Up H a (.ins C dx [("own_late", .int (l : Nat)), ("own_begin", .int (b : Nat))]) H' → Q .non H')
theorem c_Node_u__init {K : PySem.W.Frag} {H : Hp} {Q : VK} {Ex : XK} {a C dx : Addr} {l b : Nat} (h1 : H a = some (.ins C dx [])) (h2 : C ∈ kinds K) (h3 : l ≤ 99) (h4 : b ≤ 9999) (k : ∀ H', Z.Up H a (.ins C dx [("own_late", .int (l : Nat)), ("own_begin", .int (b : Nat))]) H' → Q .non H') : sp_Node_u__init K [.ref a, .int (l : Nat), .int (b : Nat)] H Q Ex := ⟨a, C, dx, l, b, rfl, h1, h2, h3, h4, k⟩
theorem ok_Node_u__init {g : Prop} {P : Program} {w : World} {K : PySem.W.Frag} {mg : Str → Option Value} {base : Heap} (E : Ev K mg) : Z.Pr g P w K mg base 3 (He.ma K (He.ga K "Node") "__init__") d_Node_u__init p_Node_u__init (sp_Node_u__init K) := by
  obtain ⟨fd, FD⟩ := E.fn 7 (d := d_Node_u__init)
  refine ⟨fd, FD, Z.FunD.okG FD sc_Node_u__init (fun vz H Q Ex h => ?_) (fun cdv A outer s H vz Q Ex hr hgd h => ?_)⟩
  · obtain ⟨_, _, _, _, _, rfl, _⟩ := h
    rfl
  · have hu := hr.units
    obtain ⟨a, C, dx, l, b, rfl, h1, h2, h3, h4, k⟩ := h
    have F_is_whole_from := ok_is_whole_from (g := g) (P := P) (w := w) (base := base) E
    have F_want := ok_want (g := g) (P := P) (w := w) (base := base) E
    have cl_Taps := E.cls 29
    have na_Taps_own_begin := E.noat 49
    have na_Taps_own_late := E.noat 0
    have cl_Up := E.cls 28
    have na_Up_own_begin := E.noat 50
    have na_Up_own_late := E.noat 1
    have cl_Down := E.cls 27
    have na_Down_own_begin := E.noat 51
    have na_Down_own_late := E.noat 2
    have cl_Resample := E.cls 26
    have na_Resample_own_begin := E.noat 52
    have na_Resample_own_late := E.noat 3
    refine ⟨_, (Z.zs_cons (Z.z_expr (Z.pe_f F_want (hr.mono (by decide)) hgd (by rfl) (E.glo 12) bd_want (passL) (pa_cons (Z.pe_f F_is_whole_from (hr.mono (by decide)) hgd (by rfl) (E.glo 13) bd_is_whole_from (passL) (pa_cons (pv 1) (pa_cons pe_int (pa_cons (Z.pe_gint rfl (E.int 15)) pa_nil)))) (pa_cons pe_str pa_nil))))
   (Z.zs_cons (Z.z_expr (Z.pe_f F_want (hr.mono (by decide)) hgd (by rfl) (E.glo 12) bd_want (passL) (pa_cons (Z.pe_f F_is_whole_from (hr.mono (by decide)) hgd (by rfl) (E.glo 13) bd_is_whole_from (passL) (pa_cons (pv 2) (pa_cons pe_int (pa_cons (Z.pe_gint rfl (E.int 14)) pa_nil)))) (pa_cons pe_str pa_nil))))
   (Z.zs_cons (Z.z_fld (pv 0) (pv 1) rfl)
   (Z.zs_one (Z.z_fld (pv 0) (pv 2) rfl))))), ?_⟩
    refine Z.i_start (σ := [some (.ref a), some (.int (l : Nat)), some (.int (b : Nat))]) rfl ?_
    try dsimp only [Z.cxK]
    have hc : Cls K C := by 
      unfold kinds at h2
      simp only [List.mem_cons, List.not_mem_nil, or_false] at h2
      rcases h2 with rfl | rfl | rfl | rfl
      · exact cl_Taps
      · exact cl_Up
      · exact cl_Down
      · exact cl_Resample
    have n1 : NoAttr K C "own_late" := by 
      unfold kinds at h2
      simp only [List.mem_cons, List.not_mem_nil, or_false] at h2
      rcases h2 with rfl | rfl | rfl | rfl
      · exact na_Taps_own_late
      · exact na_Up_own_late
      · exact na_Down_own_late
      · exact na_Resample_own_late
    have n2 : NoAttr K C "own_begin" := by 
      unfold kinds at h2
      simp only [List.mem_cons, List.not_mem_nil, or_false] at h2
      rcases h2 with rfl | rfl | rfl | rfl
      · exact na_Taps_own_begin
      · exact na_Up_own_begin
      · exact na_Down_own_begin
      · exact na_Resample_own_begin
    k_call_by "za" 0
    refine c_is_whole_from1 (by omega) (by omega) ?_
    k_call_by "za" 0
    refine c_want ?_
    k_call_by "za" 0
    refine c_is_whole_from1 (by omega) (by omega) ?_
    k_call_by "za" 0
    refine c_want ?_
    k_call_by "za" 0
    
    rename_i H1 u1 H2 u2
    exact k H2 ⟨⟨_, h1⟩, by rw [u2.eq, u1.eq, Z.upd_upd]; rfl⟩
def KpOk : Nd → Kp → Prop
  | .taps ns, kp => ∃ ts, kp = .tup ts ∧ ts.length = ns.length - 1 ∧ ∀ n ∈ ts, Num n
  | .up n h, kp => True
  | .down n, kp => True
  | .resample ru rd rn, kp => ∃ ts, kp = .tup ts ∧ ts.length = rn.length - 1 ∧ ∀ n ∈ ts, Num n
def sp_are_wholes (K : PySem.W.Frag) : Sp := fun vz H Q Ex => ∃ (q : Addr) (ns : List Int) (m : Int), vz = [.ref q, .int m] ∧ (H q = some (.lst (ns.map V.int))) ∧ (1 ≤ ns.length) ∧ ((ns.length : Int) ≤ m) ∧ (ns.length ≤ 1000) ∧ (∀ H', Same H H' → Q (.bl true) H')
theorem c_are_wholes {K : PySem.W.Frag} {H : Hp} {Q : VK} {Ex : XK} {q : Addr} {ns : List Int} {m : Int} (h1 : H q = some (.lst (ns.map V.int))) (h2 : 1 ≤ ns.length) (h3 : (ns.length : Int) ≤ m) (h4 : ns.length ≤ 1000) (k : ∀ H', Same H H' → Q (.bl true) H') : sp_are_wholes K [.ref q, .int m] H Q Ex := ⟨q, ns, m, rfl, h1, h2, h3, h4, k⟩
theorem ok_are_wholes {g : Prop} {P : Program} {w : World} {K : PySem.W.Frag} {mg : Str → Option Value} {base : Heap} (E : Ev K mg) : Z.Pr g P w K mg base 2 (He.ga K "are_wholes") d_are_wholes p_are_wholes (sp_are_wholes K) := by
  obtain ⟨fd, FD⟩ := E.fn 8 (d := d_are_wholes)
  refine ⟨fd, FD, Z.FunD.okG FD sc_are_wholes (fun vz H Q Ex h => ?_) (fun cdv A outer s H vz Q Ex hr hgd h => ?_)⟩
  · obtain ⟨_, _, _, rfl, _⟩ := h
    rfl
  · have hu := hr.units
    obtain ⟨q, ns, m, rfl, h1, h2, h3, h4, k⟩ := h
    have F_is_whole := ok_is_whole (g := g) (P := P) (w := w) (base := base) E
    refine ⟨_, (Z.zs_one (Z.z_ret (pe_and (pe_callB (Z.cisiK K rfl) (by rfl) (E.free 8) (by decide +kernel) (pa_cons (pv 0) (pa_cons (pe_bltn (v := .ty "list") (u := .type "list") (by rfl) (E.free 17) (by decide +kernel) rfl) pa_nil))) (pe_and (pe_chain op_le op_le pe_int (pe_callB (Z.clenK K rfl) (by rfl) (E.free 4) (by decide +kernel) (pa_cons (pv 0) pa_nil)) (pv 1)) (pe_one (pe_callB (Z.callK K rfl rfl) (by rfl) (E.free 16) (by decide +kernel) (pa_cons (pe_lc (own := [("number", 2)]) (g := gName 2) rfl sc_are_wholes.nd (Z.pi_seqK K rfl (pv 0)) (blkOk_by (own := [("number", 2)]) (N := n_are_wholes) (sc := (defScope s_are_wholes)) (by decide +kernel)) (fun _ _ _ _ _ => (pg_name (i := 2) sc_are_wholes.nd rfl (Or.inl rfl))) (fun _ _ _ _ _ => pts_nil) (fun _ _ _ _ _ => (Z.pe_f F_is_whole (hr.mono (by decide)) hgd (by rfl) (E.glo 11) bd_is_whole (passL) (pa_cons (pv 2) pa_nil)))) pa_nil))))))), ?_⟩
    refine Z.i_start (σ := [some (.ref q), some (.int m), none]) rfl ?_
    try dsimp only [Z.cxK]
    k_call_by "za" 0
    refine Z.itT (by omega) ?_
    k_call_by "za" 0
    rw [decide_eq_true (by omega)]
    refine L2.iteT ?_
    k_call_by "za" 0
    refine Z.comp_list (xs := ns.map V.int) (fun i acc H' => acc = (List.replicate i true).map V.bl ∧ Same H H') ?_ ?_ ?_ ?_
    · intro D H' n
      exact ⟨rfl, n.same⟩
    · rintro i acc H' hi ⟨rfl, s⟩
      k_call_by "hq" 0
    · rintro D i acc x H' fD hx hD ⟨rfl, s⟩
      obtain ⟨z, hz, rfl⟩ := ints_at hx
      have hl := (List.getElem?_eq_some_iff.mp hz).1
      k_call_by "za" 0
      refine c_is_whole1 ?_
      refine Z.i_end (by k_call_by "hf" 0) (by rw [List.length_map, List.length_replicate, sizeLine_eq]; omega) fun H6 u => ⟨?_, by k_call_by "fr" 0⟩
      rw [List.replicate_succ', List.map_append]; rfl
    · rintro D acc H' fD hD ⟨rfl, s⟩
      k_call_by "za" 0
      have e : (List.replicate (ns.map V.int).length true).all id = true := by
        induction (ns.map V.int).length with
        | zero => rfl
        | succ n ih => rw [List.replicate_succ, List.all_cons, ih]; rfl
      rw [e]
      exact k H' s
def sp_tapped (K : PySem.W.Frag) : Sp := fun vz H Q Ex => ∃ (p q : Addr) (ns ts : List Int), vz = [.ref p, .ref q] ∧ (H p = some (.tup (ns.map V.int))) ∧ (H q = some (.tup (ts.map V.int))) ∧ (ns.length ≤ 1000) ∧ (∀ n ∈ ns, Num n) ∧ (∀ n ∈ ts, Num n) ∧ (∀ H', Same H H' → Q (.int (L.tapped ns ts)) H')
theorem c_tapped {K : PySem.W.Frag} {H : Hp} {Q : VK} {Ex : XK} {p q : Addr} {ns ts : List Int} (h1 : H p = some (.tup (ns.map V.int))) (h2 : H q = some (.tup (ts.map V.int))) (h3 : ns.length ≤ 1000) (h4 : ∀ n ∈ ns, Num n) (h5 : ∀ n ∈ ts, Num n) (k : ∀ H', Same H H' → Q (.int (L.tapped ns ts)) H') : sp_tapped K [.ref p, .ref q] H Q Ex := ⟨p, q, ns, ts, rfl, h1, h2, h3, h4, h5, k⟩
theorem ok_tapped {g : Prop} {P : Program} {w : World} {K : PySem.W.Frag} {mg : Str → Option Value} {base : Heap} (E : Ev K mg) : Z.Pr g P w K mg base 1 (He.ga K "tapped") d_tapped p_tapped (sp_tapped K) := by
  obtain ⟨fd, FD⟩ := E.fn 9 (d := d_tapped)
  refine ⟨fd, FD, Z.FunD.okG FD sc_tapped (fun vz H Q Ex h => ?_) (fun cdv A outer s H vz Q Ex hr hgd h => ?_)⟩
  · obtain ⟨_, _, _, _, rfl, _⟩ := h
    rfl
  · have hu := hr.units
    obtain ⟨p, q, ns, ts, rfl, h1, h2, h3, h4, h5, k⟩ := h
    refine ⟨_, (Z.zs_one (Z.z_ret (pe_callB (Z.csumK K rfl rfl) (by rfl) (E.free 18) (by decide +kernel) (pa_cons (pe_lc (own := [("number", 2), ("sample", 3)]) (g := gTup K 2 (gCons (gName 2) (gCons (gName 3) gNil))) rfl sc_tapped.nd (Z.pi_zipK K rfl (by rfl) (E.free 19) (pa_cons (pv 0) (pa_cons (pv 1) pa_nil))) (blkOk_by (own := [("number", 2), ("sample", 3)]) (N := n_tapped) (sc := (defScope s_tapped)) (by decide +kernel)) (fun _ _ _ _ _ => (pg_tup (n := 2) (by rfl) (pgs_cons (pg_name (i := 2) sc_tapped.nd rfl (Or.inl rfl)) (pgs_cons (pg_name (i := 3) sc_tapped.nd rfl (Or.inl rfl)) pgs_nil)))) (fun _ _ _ _ _ => pts_nil) (fun _ _ _ _ _ => (pe_op (Z.opMulK K rfl) (pv 2) (pv 3)))) pa_nil)))), ?_⟩
    refine Z.i_start (σ := [some (.ref p), some (.ref q), none, none]) rfl ?_
    try dsimp only [Z.cxK]
    k_call_by "za" 0
    refine Z.comp_zipT (xs := ns.map V.int) (ys := ts.map V.int) (ns.zip ts).length (by simp) (fun i acc H' => acc = (((ns.zip ts).take i).map fun p => p.1 * p.2).map V.int ∧ Same H H') ?_ ?_ ?_ ?_
    · intro D H' n
      exact ⟨rfl, n.same⟩
    · rintro i acc H' hi ⟨rfl, s⟩
      exact ⟨SqT.of (s _ _ h1), SqT.of (s _ _ h2)⟩
    · rintro D i acc x y T H2 H3 fD hx hy hD ⟨rfl, s⟩ n
      obtain ⟨a, ha, rfl⟩ := ints_at hx
      obtain ⟨b, hb, rfl⟩ := ints_at hy
      have hl := (List.getElem?_eq_some_iff.mp ha).1
      have hz : (ns.zip ts)[i]? = some (a, b) := by rw [List.getElem?_zip_eq_some]; exact ⟨ha, hb⟩
      k_call_by "za" 0
      refine Z.i_mulI (num_mul (h4 a (List.mem_of_getElem? ha)) (h5 b (List.mem_of_getElem? hb))) ?_
      refine Z.i_end (by k_call_by "hf" 0) (by simp only [List.length_map, List.length_take, sizeLine_eq]; omega) fun H6 u => ⟨?_, by k_call_by "fr" 0⟩
      rw [take_snoc hz, List.map_append, List.map_append]; rfl
    · rintro D acc H' fD hD ⟨rfl, s⟩
      rw [List.take_length] at hD
      k_call_by "za" 0
      exact k H' s
def sp_Node_takes (K : PySem.W.Frag) : Sp := fun vz H Q Ex => ∃ (a : Addr), vz = [.ref a] ∧ (∀ r H', Z.New H r (.tup [.int 1]) H' → Q (.ref r) H')
theorem c_Node_takes {K : PySem.W.Frag} {H : Hp} {Q : VK} {Ex : XK} {a : Addr}  (k : ∀ r H', Z.New H r (.tup [.int 1]) H' → Q (.ref r) H') : sp_Node_takes K [.ref a] H Q Ex := ⟨a, rfl, k⟩
theorem ok_Node_takes {g : Prop} {P : Program} {w : World} {K : PySem.W.Frag} {mg : Str → Option Value} {base : Heap} (E : Ev K mg) : Z.Pr g P w K mg base 1 (He.ma K (He.ga K "Node") "takes") d_Node_takes p_Node_takes (sp_Node_takes K) := by
  obtain ⟨fd, FD⟩ := E.fn 10 (d := d_Node_takes)
  refine ⟨fd, FD, Z.FunD.okG FD sc_Node_takes (fun vz H Q Ex h => ?_) (fun cdv A outer s H vz Q Ex hr hgd h => ?_)⟩
  · obtain ⟨_, rfl, _⟩ := h
    rfl
  · have hu := hr.units
    obtain ⟨a, rfl, k⟩ := h
    refine ⟨_, (Z.zs_one (Z.z_ret (pe_tup (pa_cons pe_int pa_nil)))), ?_⟩
    refine Z.i_start (σ := [some (.ref a)]) rfl ?_
    try dsimp only [Z.cxK]
    k_call_by "za" 0
    exact k _ _ (by assumption)
def sp_Node_gives (K : PySem.W.Frag) : Sp := fun vz H Q Ex => ∃ (a : Addr), vz = [.ref a] ∧ (Q (.int 1) H)
theorem c_Node_gives {K : PySem.W.Frag} {H : Hp} {Q : VK} {Ex : XK} {a : Addr}  (k : Q (.int 1) H) : sp_Node_gives K [.ref a] H Q Ex := ⟨a, rfl, k⟩
theorem ok_Node_gives {g : Prop} {P : Program} {w : World} {K : PySem.W.Frag} {mg : Str → Option Value} {base : Heap} (E : Ev K mg) : Z.Pr g P w K mg base 1 (He.ma K (He.ga K "Node") "gives") d_Node_gives p_Node_gives (sp_Node_gives K) := by
  obtain ⟨fd, FD⟩ := E.fn 11 (d := d_Node_gives)
  refine ⟨fd, FD, Z.FunD.okG FD sc_Node_gives (fun vz H Q Ex h => ?_) (fun cdv A outer s H vz Q Ex hr hgd h => ?_)⟩
  · obtain ⟨_, rfl, _⟩ := h
    rfl
  · have hu := hr.units
    obtain ⟨a, rfl, k⟩ := h
    refine ⟨_, (Z.zs_one (Z.z_ret pe_int)), ?_⟩
    refine Z.i_start (σ := [some (.ref a)]) rfl ?_
    try dsimp only [Z.cxK]
    k_call_by "za" 0
    exact k
def sp_Node_at_first (K : PySem.W.Frag) : Sp := fun vz H Q Ex => ∃ (a : Addr), vz = [.ref a] ∧ (∀ r H', Z.New H r (.tup []) H' → Q (.ref r) H')
theorem c_Node_at_first {K : PySem.W.Frag} {H : Hp} {Q : VK} {Ex : XK} {a : Addr}  (k : ∀ r H', Z.New H r (.tup []) H' → Q (.ref r) H') : sp_Node_at_first K [.ref a] H Q Ex := ⟨a, rfl, k⟩
theorem ok_Node_at_first {g : Prop} {P : Program} {w : World} {K : PySem.W.Frag} {mg : Str → Option Value} {base : Heap} (E : Ev K mg) : Z.Pr g P w K mg base 1 (He.ma K (He.ga K "Node") "at_first") d_Node_at_first p_Node_at_first (sp_Node_at_first K) := by
  obtain ⟨fd, FD⟩ := E.fn 12 (d := d_Node_at_first)
  refine ⟨fd, FD, Z.FunD.okG FD sc_Node_at_first (fun vz H Q Ex h => ?_) (fun cdv A outer s H vz Q Ex hr hgd h => ?_)⟩
  · obtain ⟨_, rfl, _⟩ := h
    rfl
  · have hu := hr.units
    obtain ⟨a, rfl, k⟩ := h
    refine ⟨_, (Z.zs_one (Z.z_ret (pe_tup pa_nil))), ?_⟩
    refine Z.i_start (σ := [some (.ref a)]) rfl ?_
    try dsimp only [Z.cxK]
    k_call_by "za" 0
    exact k _ _ (by assumption)
def sp_Taps_u__init (K : PySem.W.Frag) : Sp := fun vz H Q Ex => ∃ (a dx : Addr) (l b : Nat) (ns : List Int) (q : Addr), vz = [.ref a, .ref q, .int (l : Nat), .int (b : Nat)] ∧ (H a = some (.ins (He.ga K "Taps") dx [])) ∧ (l ≤ 99) ∧ (b ≤ 9999) ∧ (1 ≤ ns.length ∧ ns.length ≤ 12 ∧ ∀ n ∈ ns, Num n) ∧ (H q = some (.lst (ns.map V.int))) ∧ (∀ H', IsNd K H' a l b (.taps ns) → Z.But a H H' → Q .non H')
theorem c_Taps_u__init {K : PySem.W.Frag} {H : Hp} {Q : VK} {Ex : XK} {a dx : Addr} {l b : Nat} {ns : List Int} {q : Addr} (h1 : H a = some (.ins (He.ga K "Taps") dx [])) (h2 : l ≤ 99) (h3 : b ≤ 9999) (h4 : 1 ≤ ns.length ∧ ns.length ≤ 12 ∧ ∀ n ∈ ns, Num n) (h5 : H q = some (.lst (ns.map V.int))) (k : ∀ H', IsNd K H' a l b (.taps ns) → Z.But a H H' → Q .non H') : sp_Taps_u__init K [.ref a, .ref q, .int (l : Nat), .int (b : Nat)] H Q Ex := ⟨a, dx, l, b, ns, q, rfl, h1, h2, h3, h4, h5, k⟩
theorem ok_Taps_u__init {g : Prop} {P : Program} {w : World} {K : PySem.W.Frag} {mg : Str → Option Value} {base : Heap} (E : Ev K mg) : Z.Pr g P w K mg base 4 (He.ma K (He.ga K "Taps") "__init__") d_Taps_u__init p_Taps_u__init (sp_Taps_u__init K) := by
  obtain ⟨fd, FD⟩ := E.fn 13 (d := d_Taps_u__init)
  refine ⟨fd, FD, Z.FunD.okG FD sc_Taps_u__init (fun vz H Q Ex h => ?_) (fun cdv A outer s H vz Q Ex hr hgd h => ?_)⟩
  · obtain ⟨_, _, _, _, _, _, rfl, _⟩ := h
    rfl
  · have hu := hr.units
    obtain ⟨a, dx, l, b, ns, q, rfl, h1, h2, h3, h4, h5, k⟩ := h
    have F_Node_u__init := ok_Node_u__init (g := g) (P := P) (w := w) (base := base) E
    have F_are_wholes := ok_are_wholes (g := g) (P := P) (w := w) (base := base) E
    have F_want := ok_want (g := g) (P := P) (w := w) (base := base) E
    have cl_Taps := E.cls 29
    have na_Taps_own_numbers := E.noat 53
    have cl_Up := E.cls 28
    have na_Up_own_numbers := E.noat 54
    have cl_Down := E.cls 27
    have na_Down_own_numbers := E.noat 55
    have cl_Resample := E.cls 26
    have na_Resample_own_numbers := E.noat 56
    refine ⟨_, (Z.zs_cons (Z.z_expr (Z.pe_f F_want (hr.mono (by decide)) hgd (by rfl) (E.glo 12) bd_want (passL) (pa_cons (Z.pe_f F_are_wholes (hr.mono (by decide)) hgd (by rfl) (E.glo 22) bd_are_wholes (passL) (pa_cons (pv 1) (pa_cons (Z.pe_gint rfl (E.int 23)) pa_nil))) (pa_cons pe_str pa_nil))))
   (Z.zs_cons (Z.z_expr (Z.pe_cm F_Node_u__init (hr.mono (by decide)) hgd (by rfl) (E.glo 21) (Z.fxC_ok (E.own 0)) bd_Node_u__init passL (pa_cons (pv 0) (pa_cons (pv 2) (pa_cons (pv 3) pa_nil)))))
   (Z.zs_one (Z.z_fld (pv 0) (pe_callTy (Z.ctupleK K rfl) (by rfl) (E.free 20) (by decide +kernel) (pa_cons (pv 1) pa_nil)) rfl)))), ?_⟩
    refine Z.i_start (σ := [some (.ref a), some (.ref q), some (.int (l : Nat)), some (.int (b : Nat))]) rfl ?_
    try dsimp only [Z.cxK]
    have hl := h2
    have hb := h3
    k_call_by "za" 0
    refine c_are_wholes h5 h4.1 (by have := h4.2.1; omega) (by have := h4.2.1; omega) fun H0 s0 => ?_
    k_call_by "za" 0
    refine c_want ?_
    k_call_by "za" 0
    have qa : q ≠ a := (Z.ne_il h1 h5).symm
    refine c_Node_u__init (s0 _ _ h1) (by simp [kinds]) hl hb fun H1 u1 => ?_
    k_call_by "za" 0
    rename_i s H2 n2 H3 u3
    exact k H3 ⟨dx, s, u3.at, by k_call_by "hf" 0⟩ (by k_call_by "fr" 0)
def sp_Taps_at_first (K : PySem.W.Frag) : Sp := fun vz H Q Ex => ∃ (a : Addr) (l b : Nat) (ns : List Int), vz = [.ref a] ∧ (IsNd K H a l b (.taps ns)) ∧ (1 ≤ ns.length ∧ ns.length ≤ 12 ∧ ∀ n ∈ ns, Num n) ∧ (∀ v H', Same H H' → IsKp H' v (.tup (List.replicate (ns.length - 1) 0)) → Q v H')
theorem c_Taps_at_first {K : PySem.W.Frag} {H : Hp} {Q : VK} {Ex : XK} {a : Addr} {l b : Nat} {ns : List Int} (h1 : IsNd K H a l b (.taps ns)) (h2 : 1 ≤ ns.length ∧ ns.length ≤ 12 ∧ ∀ n ∈ ns, Num n) (k : ∀ v H', Same H H' → IsKp H' v (.tup (List.replicate (ns.length - 1) 0)) → Q v H') : sp_Taps_at_first K [.ref a] H Q Ex := ⟨a, l, b, ns, rfl, h1, h2, k⟩
theorem ok_Taps_at_first {g : Prop} {P : Program} {w : World} {K : PySem.W.Frag} {mg : Str → Option Value} {base : Heap} (E : Ev K mg) : Z.Pr g P w K mg base 1 (He.ma K (He.ga K "Taps") "at_first") d_Taps_at_first p_Taps_at_first (sp_Taps_at_first K) := by
  obtain ⟨fd, FD⟩ := E.fn 14 (d := d_Taps_at_first)
  refine ⟨fd, FD, Z.FunD.okG FD sc_Taps_at_first (fun vz H Q Ex h => ?_) (fun cdv A outer s H vz Q Ex hr hgd h => ?_)⟩
  · obtain ⟨_, _, _, _, rfl, _⟩ := h
    rfl
  · have hu := hr.units
    obtain ⟨a, l, b, ns, rfl, h1, h2, k⟩ := h
    have cl_Taps := E.cls 29
    have na_Taps_own_numbers := E.noat 53
    have cl_Up := E.cls 28
    have na_Up_own_numbers := E.noat 54
    have cl_Down := E.cls 27
    have na_Down_own_numbers := E.noat 55
    have cl_Resample := E.cls 26
    have na_Resample_own_numbers := E.noat 56
    refine ⟨_, (Z.zs_one (Z.z_ret (pe_op (Z.opMulK K rfl) (pe_tup (pa_cons pe_int pa_nil)) (pe_op op_sub (pe_callB (Z.clenK K rfl) (by rfl) (E.free 4) (by decide +kernel) (pa_cons (Z.pe_fldK K rfl (pv 0) rfl) pa_nil)) pe_int)))), ?_⟩
    refine Z.i_start (σ := [some (.ref a)]) rfl ?_
    try dsimp only [Z.cxK]
    obtain ⟨dx, s, h1, g1⟩ := h1
    k_call_by "za" 0
    refine Z.i_mulTI (a := .int 0) (by k_call_by "hf" 0) (by have := h2.2.1; omega) fun r H' s' e => ?_
    refine k _ _ (by k_call_by "fr" 0) ⟨r, rfl, ?_⟩
    rw [e, show ((ns.length : Int) - 1).toNat = ns.length - 1 by omega]
    congr 2
    try simp
def sp_Taps_worked (K : PySem.W.Frag) : Sp := fun vz H Q Ex => ∃ (a p : Addr) (v : V) (l b : Nat) (ns : List Int) (kp : Kp) (rows : List (List Int)), vz = [.ref a, v, .ref p] ∧ (IsNd K H a l b (.taps ns)) ∧ (1 ≤ ns.length ∧ ns.length ≤ 12 ∧ ∀ nn ∈ ns, Num nn) ∧ (IsKp H v kp) ∧ (IsRows H p rows) ∧ (Fit (.taps ns) rows) ∧ (KpOk (.taps ns) kp) ∧ (∀ t w q H', H q = none → Same H H' → H' t = some (.tup [w, .ref q]) → H' q = some (.lst ((Nd.worked (.taps ns) kp rows).2.map V.int)) → IsKp H' w (Nd.worked (.taps ns) kp rows).1 → Q (.ref t) H')
theorem c_Taps_worked {K : PySem.W.Frag} {H : Hp} {Q : VK} {Ex : XK} {a p : Addr} {v : V} {l b : Nat} {ns : List Int} {kp : Kp} {rows : List (List Int)} (h1 : IsNd K H a l b (.taps ns)) (h2 : 1 ≤ ns.length ∧ ns.length ≤ 12 ∧ ∀ nn ∈ ns, Num nn) (h3 : IsKp H v kp) (h4 : IsRows H p rows) (h5 : Fit (.taps ns) rows) (h6 : KpOk (.taps ns) kp) (k : ∀ t w q H', H q = none → Same H H' → H' t = some (.tup [w, .ref q]) → H' q = some (.lst ((Nd.worked (.taps ns) kp rows).2.map V.int)) → IsKp H' w (Nd.worked (.taps ns) kp rows).1 → Q (.ref t) H') : sp_Taps_worked K [.ref a, v, .ref p] H Q Ex := ⟨a, p, v, l, b, ns, kp, rows, rfl, h1, h2, h3, h4, h5, h6, k⟩
theorem ok_Taps_worked {g : Prop} {P : Program} {w : World} {K : PySem.W.Frag} {mg : Str → Option Value} {base : Heap} (E : Ev K mg) : Z.Pr g P w K mg base 2 (He.ma K (He.ga K "Taps") "worked") d_Taps_worked p_Taps_worked (sp_Taps_worked K) := by
  obtain ⟨fd, FD⟩ := E.fn 15 (d := d_Taps_worked)
  refine ⟨fd, FD, Z.FunD.okG FD sc_Taps_worked (fun vz H Q Ex h => ?_) (fun cdv A outer s H vz Q Ex hr hgd h => ?_)⟩
  · obtain ⟨_, _, _, _, _, _, _, _, rfl, _⟩ := h
    rfl
  · have hu := hr.units
    obtain ⟨a, p, v, l, b, ns, kp, rows, rfl, h1, h2, h3, h4, h5, h6, k⟩ := h
    have F_tapped := ok_tapped (g := g) (P := P) (w := w) (base := base) E
    have cl_Taps := E.cls 29
    have na_Taps_own_numbers := E.noat 53
    have cl_Up := E.cls 28
    have na_Up_own_numbers := E.noat 54
    have cl_Down := E.cls 27
    have na_Down_own_numbers := E.noat 55
    have cl_Resample := E.cls 26
    have na_Resample_own_numbers := E.noat 56
    refine ⟨_, (Z.zs_cons (Z.z_set (i := 3) sc_Taps_worked.nd rfl (Or.inl rfl) (pe_op (Z.opAddK K rfl) (pe_tup (pa_cons (pe_ix (Z.ixUK K rfl) (pe_ix (Z.ixUK K rfl) (pv 2) pe_int (fun _ _ => rfl)) pe_int (fun _ _ => rfl)) pa_nil)) (pv 1)))
   (Z.zs_one (Z.z_ret (pe_tup (pa_cons (pe_slice (Z.slUK K rfl) (pv 3) po_none (po_some (pe_op op_sub (pe_callB (Z.clenK K rfl) (by rfl) (E.free 4) (by decide +kernel) (pa_cons (Z.pe_fldK K rfl (pv 0) rfl) pa_nil)) pe_int))) (pa_cons (pe_lst (pa_cons (Z.pe_f F_tapped (hr.mono (by decide)) hgd (by rfl) (E.glo 24) bd_tapped (passL) (pa_cons (Z.pe_fldK K rfl (pv 0) rfl) (pa_cons (pv 3) pa_nil))) pa_nil)) pa_nil)))))), ?_⟩
    refine Z.i_start (σ := [some (.ref a), some (v), some (.ref p), none]) rfl ?_
    try dsimp only [Z.cxK]
    obtain ⟨dx, s, h1, g1⟩ := h1
    obtain ⟨ts, rfl, tl, tn⟩ := h6
    obtain ⟨row, e0, l0, nums⟩ := h5.at (i := 0) (w := 1) rfl
    obtain ⟨x, rfl⟩ : ∃ x, row = [x] := by
      match row, l0 with
      | [x], _ => exact ⟨x, rfl⟩
    obtain ⟨vs, q0, g4, g2, g3⟩ := h4.row e0
    have er : r0 rows = x := by unfold r0; rw [e0]; rfl
    have w1 : ns.length ≤ 12 := h2.2.1
    obtain ⟨rk, rfl, hk⟩ := h3
    k_call_by "za" 0
    refine Z.i_ixL g4 g2 ?_
    k_call_by "za" 0
    rename_i t1 H1 n1
    refine Z.i_addT1 (ys := ts.map V.int) n1.at (n1.get hk) (by rw [List.length_map]; omega) fun t2 H2 s2 e2 => ?_
    have e2 : H2 t2 = some (.tup ((x :: ts).map V.int)) := e2
    k_call_by "za" 0
    rw [show ((ns.length : Int) - 1) = ((ns.length - 1 : Nat) : Int) by have := h2.1; omega]
    refine Z.i_slT (xs := (x :: ts).map V.int) e2 (by rw [List.length_map, List.length_cons]; omega) fun t3 H3 s3 e3 => ?_
    k_call_by "za" 0
    refine c_tapped (ns := ns) (ts := x :: ts) (by k_call_by "hf" 0) (by k_call_by "hf" 0) (by omega) h2.2.2 (fun n hn => by
      rcases List.mem_cons.mp hn with rfl | hn
      · exact nums n List.mem_cons_self
      · exact tn n hn) fun H4 s4 => ?_
    k_call_by "za" 0
    rename_i t5 H5 n5 t6 H6 n6
    refine k _ _ _ _ (by k_call_by "fh" 0) (by k_call_by "fr" 0) n6.at ?_ ⟨t3, rfl, ?_⟩
    · rw [n6.get n5.at]
      show _ = some (HO.lst ([tapped ns (r0 rows :: ts)].map V.int))
      rw [er]; rfl
    · have e : H6 t3 = some (.tup (((x :: ts).map V.int).take (ns.length - 1))) := by k_call_by "hf" 0
      rw [e, ← List.map_take]
      show _ = some (HO.tup (((r0 rows :: ts).take (ns.length - 1)).map V.int))
      rw [er]
def sp_Up_u__init (K : PySem.W.Frag) : Sp := fun vz H Q Ex => ∃ (a dx : Addr) (l b : Nat) (n : Nat) (h : Bool), vz = [.ref a, .int (n : Nat), .bl h, .int (l : Nat), .int (b : Nat)] ∧ (H a = some (.ins (He.ga K "Up") dx [])) ∧ (l ≤ 99) ∧ (b ≤ 9999) ∧ (1 ≤ n ∧ n ≤ 8) ∧ (∀ H', IsNd K H' a l b (.up n h) → Z.But a H H' → Q .non H')
theorem c_Up_u__init {K : PySem.W.Frag} {H : Hp} {Q : VK} {Ex : XK} {a dx : Addr} {l b : Nat} {n : Nat} {h : Bool} (h1 : H a = some (.ins (He.ga K "Up") dx [])) (h2 : l ≤ 99) (h3 : b ≤ 9999) (h4 : 1 ≤ n ∧ n ≤ 8) (k : ∀ H', IsNd K H' a l b (.up n h) → Z.But a H H' → Q .non H') : sp_Up_u__init K [.ref a, .int (n : Nat), .bl h, .int (l : Nat), .int (b : Nat)] H Q Ex := ⟨a, dx, l, b, n, h, rfl, h1, h2, h3, h4, k⟩
theorem ok_Up_u__init {g : Prop} {P : Program} {w : World} {K : PySem.W.Frag} {mg : Str → Option Value} {base : Heap} (E : Ev K mg) : Z.Pr g P w K mg base 4 (He.ma K (He.ga K "Up") "__init__") d_Up_u__init p_Up_u__init (sp_Up_u__init K) := by
  obtain ⟨fd, FD⟩ := E.fn 16 (d := d_Up_u__init)
  refine ⟨fd, FD, Z.FunD.okG FD sc_Up_u__init (fun vz H Q Ex h => ?_) (fun cdv A outer s H vz Q Ex hr hgd h => ?_)⟩
  · obtain ⟨_, _, _, _, _, _, rfl, _⟩ := h
    rfl
  · have hu := hr.units
    obtain ⟨a, dx, l, b, n, h, rfl, h1, h2, h3, h4, k⟩ := h
    have F_Node_u__init := ok_Node_u__init (g := g) (P := P) (w := w) (base := base) E
    have F_is_whole_from := ok_is_whole_from (g := g) (P := P) (w := w) (base := base) E
    have F_want := ok_want (g := g) (P := P) (w := w) (base := base) E
    have cl_Taps := E.cls 29
    have na_Taps_own_hold := E.noat 57
    have na_Taps_own_many := E.noat 58
    have cl_Up := E.cls 28
    have na_Up_own_hold := E.noat 59
    have na_Up_own_many := E.noat 60
    have cl_Down := E.cls 27
    have na_Down_own_hold := E.noat 61
    have na_Down_own_many := E.noat 62
    have cl_Resample := E.cls 26
    have na_Resample_own_hold := E.noat 63
    have na_Resample_own_many := E.noat 64
    refine ⟨_, (Z.zs_cons (Z.z_expr (Z.pe_f F_want (hr.mono (by decide)) hgd (by rfl) (E.glo 12) bd_want (passL) (pa_cons (Z.pe_f F_is_whole_from (hr.mono (by decide)) hgd (by rfl) (E.glo 13) bd_is_whole_from (passL) (pa_cons (pv 1) (pa_cons pe_int (pa_cons (Z.pe_gint rfl (E.int 25)) pa_nil)))) (pa_cons pe_str pa_nil))))
   (Z.zs_cons (Z.z_expr (Z.pe_f F_want (hr.mono (by decide)) hgd (by rfl) (E.glo 12) bd_want (passL) (pa_cons (pe_callB (Z.cisiK K rfl) (by rfl) (E.free 8) (by decide +kernel) (pa_cons (pv 2) (pa_cons (pe_bltn (v := .ty "bool") (u := .type "bool") (by rfl) (E.free 9) (by decide +kernel) rfl) pa_nil))) (pa_cons pe_str pa_nil))))
   (Z.zs_cons (Z.z_expr (Z.pe_cm F_Node_u__init (hr.mono (by decide)) hgd (by rfl) (E.glo 21) (Z.fxC_ok (E.own 0)) bd_Node_u__init passL (pa_cons (pv 0) (pa_cons (pv 3) (pa_cons (pv 4) pa_nil)))))
   (Z.zs_cons (Z.z_fld (pv 0) (pv 1) rfl)
   (Z.zs_one (Z.z_fld (pv 0) (pv 2) rfl)))))), ?_⟩
    refine Z.i_start (σ := [some (.ref a), some (.int (n : Nat)), some (.bl h), some (.int (l : Nat)), some (.int (b : Nat))]) rfl ?_
    try dsimp only [Z.cxK]
    have hl := h2
    have hb := h3
    k_call_by "za" 0
    refine c_is_whole_from1 (by omega) (by omega) ?_
    k_call_by "za" 0
    refine c_want ?_
    k_call_by "za" 0
    refine c_want ?_
    k_call_by "za" 0
    refine c_Node_u__init h1 (by simp [kinds]) hl hb fun H1 u1 => ?_
    k_call_by "za" 0
    rename_i H2 u2 H3 u3
    exact k H3 ⟨dx, u3.at⟩ (by k_call_by "fr" 0)
def sp_Up_gives (K : PySem.W.Frag) : Sp := fun vz H Q Ex => ∃ (a : Addr) (l b : Nat) (n : Nat) (h : Bool), vz = [.ref a] ∧ (IsNd K H a l b (.up n h)) ∧ (Q (.int (n : Nat)) H)
theorem c_Up_gives {K : PySem.W.Frag} {H : Hp} {Q : VK} {Ex : XK} {a : Addr} {l b : Nat} {n : Nat} {h : Bool} (h1 : IsNd K H a l b (.up n h)) (k : Q (.int (n : Nat)) H) : sp_Up_gives K [.ref a] H Q Ex := ⟨a, l, b, n, h, rfl, h1, k⟩
theorem ok_Up_gives {g : Prop} {P : Program} {w : World} {K : PySem.W.Frag} {mg : Str → Option Value} {base : Heap} (E : Ev K mg) : Z.Pr g P w K mg base 1 (He.ma K (He.ga K "Up") "gives") d_Up_gives p_Up_gives (sp_Up_gives K) := by
  obtain ⟨fd, FD⟩ := E.fn 17 (d := d_Up_gives)
  refine ⟨fd, FD, Z.FunD.okG FD sc_Up_gives (fun vz H Q Ex h => ?_) (fun cdv A outer s H vz Q Ex hr hgd h => ?_)⟩
  · obtain ⟨_, _, _, _, _, rfl, _⟩ := h
    rfl
  · have hu := hr.units
    obtain ⟨a, l, b, n, h, rfl, h1, k⟩ := h
    have cl_Taps := E.cls 29
    have na_Taps_own_many := E.noat 58
    have cl_Up := E.cls 28
    have na_Up_own_many := E.noat 60
    have cl_Down := E.cls 27
    have na_Down_own_many := E.noat 62
    have cl_Resample := E.cls 26
    have na_Resample_own_many := E.noat 64
    refine ⟨_, (Z.zs_one (Z.z_ret (Z.pe_fldK K rfl (pv 0) rfl))), ?_⟩
    refine Z.i_start (σ := [some (.ref a)]) rfl ?_
    try dsimp only [Z.cxK]
    obtain ⟨dx, h1⟩ := h1
    k_call_by "za" 0
    exact k
def sp_Up_worked (K : PySem.W.Frag) : Sp := fun vz H Q Ex => ∃ (a p : Addr) (v : V) (l b : Nat) (nn : Nat) (hh : Bool) (kp : Kp) (rows : List (List Int)), vz = [.ref a, v, .ref p] ∧ (IsNd K H a l b (.up nn hh)) ∧ (1 ≤ nn ∧ nn ≤ 8) ∧ (IsKp H v kp) ∧ (IsRows H p rows) ∧ (Fit (.up nn hh) rows) ∧ (KpOk (.up nn hh) kp) ∧ (∀ t w q H', H q = none → Same H H' → H' t = some (.tup [w, .ref q]) → H' q = some (.lst ((Nd.worked (.up nn hh) kp rows).2.map V.int)) → IsKp H' w (Nd.worked (.up nn hh) kp rows).1 → Q (.ref t) H')
theorem c_Up_worked {K : PySem.W.Frag} {H : Hp} {Q : VK} {Ex : XK} {a p : Addr} {v : V} {l b : Nat} {nn : Nat} {hh : Bool} {kp : Kp} {rows : List (List Int)} (h1 : IsNd K H a l b (.up nn hh)) (h2 : 1 ≤ nn ∧ nn ≤ 8) (h3 : IsKp H v kp) (h4 : IsRows H p rows) (h5 : Fit (.up nn hh) rows) (h6 : KpOk (.up nn hh) kp) (k : ∀ t w q H', H q = none → Same H H' → H' t = some (.tup [w, .ref q]) → H' q = some (.lst ((Nd.worked (.up nn hh) kp rows).2.map V.int)) → IsKp H' w (Nd.worked (.up nn hh) kp rows).1 → Q (.ref t) H') : sp_Up_worked K [.ref a, v, .ref p] H Q Ex := ⟨a, p, v, l, b, nn, hh, kp, rows, rfl, h1, h2, h3, h4, h5, h6, k⟩
theorem ok_Up_worked {g : Prop} {P : Program} {w : World} {K : PySem.W.Frag} {mg : Str → Option Value} {base : Heap} (E : Ev K mg) : Z.Pr g P w K mg base 1 (He.ma K (He.ga K "Up") "worked") d_Up_worked p_Up_worked (sp_Up_worked K) := by
  obtain ⟨fd, FD⟩ := E.fn 18 (d := d_Up_worked)
  refine ⟨fd, FD, Z.FunD.okG FD sc_Up_worked (fun vz H Q Ex h => ?_) (fun cdv A outer s H vz Q Ex hr hgd h => ?_)⟩
  · obtain ⟨_, _, _, _, _, _, _, _, _, rfl, _⟩ := h
    rfl
  · have hu := hr.units
    obtain ⟨a, p, v, l, b, nn, hh, kp, rows, rfl, h1, h2, h3, h4, h5, h6, k⟩ := h
    have cl_Taps := E.cls 29
    have na_Taps_own_hold := E.noat 57
    have na_Taps_own_many := E.noat 58
    have cl_Up := E.cls 28
    have na_Up_own_hold := E.noat 59
    have na_Up_own_many := E.noat 60
    have cl_Down := E.cls 27
    have na_Down_own_hold := E.noat 61
    have na_Down_own_many := E.noat 62
    have cl_Resample := E.cls 26
    have na_Resample_own_hold := E.noat 63
    have na_Resample_own_many := E.noat 64
    refine ⟨_, (Z.zs_cons (Z.z_if (pt_val (Z.pe_fldK K rfl (pv 0) rfl)) (Z.zs_one (Z.z_ret (pe_tup (pa_cons (pv 1) (pa_cons (pe_op (Z.opMulK K rfl) (pe_ix (Z.ixUK K rfl) (pv 2) pe_int (fun _ _ => rfl)) (Z.pe_fldK K rfl (pv 0) rfl)) pa_nil))))) Z.zs_nil)
   (Z.zs_one (Z.z_ret (pe_tup (pa_cons (pv 1) (pa_cons (pe_op (Z.opAddK K rfl) (pe_ix (Z.ixUK K rfl) (pv 2) pe_int (fun _ _ => rfl)) (pe_op (Z.opMulK K rfl) (pe_lst (pa_cons pe_int pa_nil)) (pe_op op_sub (Z.pe_fldK K rfl (pv 0) rfl) pe_int))) pa_nil)))))), ?_⟩
    refine Z.i_start (σ := [some (.ref a), some (v), some (.ref p)]) rfl ?_
    try dsimp only [Z.cxK]
    obtain ⟨dx, h1⟩ := h1
    obtain ⟨row, e0, l0, nums⟩ := h5.at (i := 0) (w := 1) rfl
    obtain ⟨x, rfl⟩ : ∃ x, row = [x] := by
      match row, l0 with
      | [x], _ => exact ⟨x, rfl⟩
    obtain ⟨vs, q0, g1, g2, g3⟩ := h4.row e0
    have er : r0 rows = x := by unfold r0; rw [e0]; rfl
    k_call_by "za" 0
    cases hh
    · refine Z.ifF rfl ?_
      k_call_by "za" 0
      refine Z.i_ixL g1 g2 ?_
      k_call_by "za" 0
      rename_i r1 H1 n1 r2 H2 n2 r3 H3 n3 r4 H4 n4
      refine k _ _ _ _ (by k_call_by "fh" 0) (by k_call_by "fr" 0) n4.at (by rw [n4.get n3.at]; show _ = some (HO.lst ((r0 rows :: List.replicate (nn - 1) 0).map V.int)); rw [er]; congr 3; simp) ?_
      exact h3.kept (.of (by k_call_by "fr" 0))
    · refine Z.ifT rfl ?_
      k_call_by "za" 0
      refine Z.i_ixL g1 g2 ?_
      k_call_by "za" 0
      refine Z.i_mulLI (a := x) (show H q0 = some (.lst [V.int x]) from g3) (by omega) ?_
      k_call_by "za" 0
      rename_i r1 H1 n1 r2 H2 n2
      refine k _ _ _ _ (by k_call_by "fh" 0) (by k_call_by "fr" 0) n2.at (by rw [n2.get n1.at]; show _ = some (HO.lst ((List.replicate nn (r0 rows)).map V.int)); rw [er]; congr 3) ?_
      exact h3.kept (.of (by k_call_by "fr" 0))
def sp_Down_u__init (K : PySem.W.Frag) : Sp := fun vz H Q Ex => ∃ (a dx : Addr) (l b : Nat) (n : Nat), vz = [.ref a, .int (n : Nat), .int (l : Nat), .int (b : Nat)] ∧ (H a = some (.ins (He.ga K "Down") dx [])) ∧ (l ≤ 99) ∧ (b ≤ 9999) ∧ (1 ≤ n ∧ n ≤ 8) ∧ (∀ H', IsNd K H' a l b (.down n) → Z.But a H H' → Q .non H')
theorem c_Down_u__init {K : PySem.W.Frag} {H : Hp} {Q : VK} {Ex : XK} {a dx : Addr} {l b : Nat} {n : Nat} (h1 : H a = some (.ins (He.ga K "Down") dx [])) (h2 : l ≤ 99) (h3 : b ≤ 9999) (h4 : 1 ≤ n ∧ n ≤ 8) (k : ∀ H', IsNd K H' a l b (.down n) → Z.But a H H' → Q .non H') : sp_Down_u__init K [.ref a, .int (n : Nat), .int (l : Nat), .int (b : Nat)] H Q Ex := ⟨a, dx, l, b, n, rfl, h1, h2, h3, h4, k⟩
theorem ok_Down_u__init {g : Prop} {P : Program} {w : World} {K : PySem.W.Frag} {mg : Str → Option Value} {base : Heap} (E : Ev K mg) : Z.Pr g P w K mg base 4 (He.ma K (He.ga K "Down") "__init__") d_Down_u__init p_Down_u__init (sp_Down_u__init K) := by
  obtain ⟨fd, FD⟩ := E.fn 19 (d := d_Down_u__init)
  refine ⟨fd, FD, Z.FunD.okG FD sc_Down_u__init (fun vz H Q Ex h => ?_) (fun cdv A outer s H vz Q Ex hr hgd h => ?_)⟩
  · obtain ⟨_, _, _, _, _, rfl, _⟩ := h
    rfl
  · have hu := hr.units
    obtain ⟨a, dx, l, b, n, rfl, h1, h2, h3, h4, k⟩ := h
    have F_Node_u__init := ok_Node_u__init (g := g) (P := P) (w := w) (base := base) E
    have F_is_whole_from := ok_is_whole_from (g := g) (P := P) (w := w) (base := base) E
    have F_want := ok_want (g := g) (P := P) (w := w) (base := base) E
    have cl_Taps := E.cls 29
    have na_Taps_own_many := E.noat 58
    have cl_Up := E.cls 28
    have na_Up_own_many := E.noat 60
    have cl_Down := E.cls 27
    have na_Down_own_many := E.noat 62
    have cl_Resample := E.cls 26
    have na_Resample_own_many := E.noat 64
    refine ⟨_, (Z.zs_cons (Z.z_expr (Z.pe_f F_want (hr.mono (by decide)) hgd (by rfl) (E.glo 12) bd_want (passL) (pa_cons (Z.pe_f F_is_whole_from (hr.mono (by decide)) hgd (by rfl) (E.glo 13) bd_is_whole_from (passL) (pa_cons (pv 1) (pa_cons pe_int (pa_cons (Z.pe_gint rfl (E.int 25)) pa_nil)))) (pa_cons pe_str pa_nil))))
   (Z.zs_cons (Z.z_expr (Z.pe_cm F_Node_u__init (hr.mono (by decide)) hgd (by rfl) (E.glo 21) (Z.fxC_ok (E.own 0)) bd_Node_u__init passL (pa_cons (pv 0) (pa_cons (pv 2) (pa_cons (pv 3) pa_nil)))))
   (Z.zs_one (Z.z_fld (pv 0) (pv 1) rfl)))), ?_⟩
    refine Z.i_start (σ := [some (.ref a), some (.int (n : Nat)), some (.int (l : Nat)), some (.int (b : Nat))]) rfl ?_
    try dsimp only [Z.cxK]
    have hl := h2
    have hb := h3
    k_call_by "za" 0
    refine c_is_whole_from1 (by omega) (by omega) ?_
    k_call_by "za" 0
    refine c_want ?_
    k_call_by "za" 0
    refine c_Node_u__init h1 (by simp [kinds]) hl hb fun H1 u1 => ?_
    k_call_by "za" 0
    rename_i H2 u2
    exact k H2 ⟨dx, u2.at⟩ (by k_call_by "fr" 0)
def sp_Down_takes (K : PySem.W.Frag) : Sp := fun vz H Q Ex => ∃ (a : Addr) (l b : Nat) (n : Nat), vz = [.ref a] ∧ (IsNd K H a l b (.down n)) ∧ (1 ≤ n ∧ n ≤ 8) ∧ (∀ r H', Same H H' → H' r = some (.tup ((Nd.tk (.down n)).map V.int)) → Q (.ref r) H')
theorem c_Down_takes {K : PySem.W.Frag} {H : Hp} {Q : VK} {Ex : XK} {a : Addr} {l b : Nat} {n : Nat} (h1 : IsNd K H a l b (.down n)) (h2 : 1 ≤ n ∧ n ≤ 8) (k : ∀ r H', Same H H' → H' r = some (.tup ((Nd.tk (.down n)).map V.int)) → Q (.ref r) H') : sp_Down_takes K [.ref a] H Q Ex := ⟨a, l, b, n, rfl, h1, h2, k⟩
theorem ok_Down_takes {g : Prop} {P : Program} {w : World} {K : PySem.W.Frag} {mg : Str → Option Value} {base : Heap} (E : Ev K mg) : Z.Pr g P w K mg base 1 (He.ma K (He.ga K "Down") "takes") d_Down_takes p_Down_takes (sp_Down_takes K) := by
  obtain ⟨fd, FD⟩ := E.fn 20 (d := d_Down_takes)
  refine ⟨fd, FD, Z.FunD.okG FD sc_Down_takes (fun vz H Q Ex h => ?_) (fun cdv A outer s H vz Q Ex hr hgd h => ?_)⟩
  · obtain ⟨_, _, _, _, rfl, _⟩ := h
    rfl
  · have hu := hr.units
    obtain ⟨a, l, b, n, rfl, h1, h2, k⟩ := h
    have cl_Taps := E.cls 29
    have na_Taps_own_many := E.noat 58
    have cl_Up := E.cls 28
    have na_Up_own_many := E.noat 60
    have cl_Down := E.cls 27
    have na_Down_own_many := E.noat 62
    have cl_Resample := E.cls 26
    have na_Resample_own_many := E.noat 64
    refine ⟨_, (Z.zs_one (Z.z_ret (pe_tup (pa_cons (Z.pe_fldK K rfl (pv 0) rfl) pa_nil)))), ?_⟩
    refine Z.i_start (σ := [some (.ref a)]) rfl ?_
    try dsimp only [Z.cxK]
    obtain ⟨dx, h1⟩ := h1
    k_call_by "za" 0
    rename_i r H1 n1
    exact k r H1 n1.same n1.at
def sp_Down_worked (K : PySem.W.Frag) : Sp := fun vz H Q Ex => ∃ (a p : Addr) (v : V) (l b : Nat) (nn : Nat) (kp : Kp) (rows : List (List Int)), vz = [.ref a, v, .ref p] ∧ (IsNd K H a l b (.down nn)) ∧ (1 ≤ nn ∧ nn ≤ 8) ∧ (IsKp H v kp) ∧ (IsRows H p rows) ∧ (Fit (.down nn) rows) ∧ (KpOk (.down nn) kp) ∧ (∀ t w q H', H q = none → Same H H' → H' t = some (.tup [w, .ref q]) → H' q = some (.lst ((Nd.worked (.down nn) kp rows).2.map V.int)) → IsKp H' w (Nd.worked (.down nn) kp rows).1 → Q (.ref t) H')
theorem c_Down_worked {K : PySem.W.Frag} {H : Hp} {Q : VK} {Ex : XK} {a p : Addr} {v : V} {l b : Nat} {nn : Nat} {kp : Kp} {rows : List (List Int)} (h1 : IsNd K H a l b (.down nn)) (h2 : 1 ≤ nn ∧ nn ≤ 8) (h3 : IsKp H v kp) (h4 : IsRows H p rows) (h5 : Fit (.down nn) rows) (h6 : KpOk (.down nn) kp) (k : ∀ t w q H', H q = none → Same H H' → H' t = some (.tup [w, .ref q]) → H' q = some (.lst ((Nd.worked (.down nn) kp rows).2.map V.int)) → IsKp H' w (Nd.worked (.down nn) kp rows).1 → Q (.ref t) H') : sp_Down_worked K [.ref a, v, .ref p] H Q Ex := ⟨a, p, v, l, b, nn, kp, rows, rfl, h1, h2, h3, h4, h5, h6, k⟩
theorem ok_Down_worked {g : Prop} {P : Program} {w : World} {K : PySem.W.Frag} {mg : Str → Option Value} {base : Heap} (E : Ev K mg) : Z.Pr g P w K mg base 1 (He.ma K (He.ga K "Down") "worked") d_Down_worked p_Down_worked (sp_Down_worked K) := by
  obtain ⟨fd, FD⟩ := E.fn 21 (d := d_Down_worked)
  refine ⟨fd, FD, Z.FunD.okG FD sc_Down_worked (fun vz H Q Ex h => ?_) (fun cdv A outer s H vz Q Ex hr hgd h => ?_)⟩
  · obtain ⟨_, _, _, _, _, _, _, _, rfl, _⟩ := h
    rfl
  · have hu := hr.units
    obtain ⟨a, p, v, l, b, nn, kp, rows, rfl, h1, h2, h3, h4, h5, h6, k⟩ := h
    refine ⟨_, (Z.zs_one (Z.z_ret (pe_tup (pa_cons (pv 1) (pa_cons (pe_slice (Z.slUK K rfl) (pe_ix (Z.ixUK K rfl) (pv 2) pe_int (fun _ _ => rfl)) po_none (po_some pe_int)) pa_nil))))), ?_⟩
    refine Z.i_start (σ := [some (.ref a), some (v), some (.ref p)]) rfl ?_
    try dsimp only [Z.cxK]
    obtain ⟨dx, h1⟩ := h1
    obtain ⟨row, e0, l0, nums⟩ := h5.at (i := 0) (w := nn) rfl
    obtain ⟨vs, q0, g1, g2, g3⟩ := h4.row e0
    obtain ⟨x, row', rfl⟩ : ∃ x row', row = x :: row' := by
      match row, l0 with
      | [], e => exact absurd (show 0 = nn from e) (by omega)
      | x :: row', _ => exact ⟨x, row', rfl⟩
    have er : r0 rows = x := by unfold r0; rw [e0]; rfl
    k_call_by "za" 0
    refine Z.i_ixL g1 g2 ?_
    k_call_by "za" 0
    rename_i r1 H1 n1 r2 H2 n2
    refine k _ _ _ _ (by k_call_by "fh" 0) (by k_call_by "fr" 0) n2.at (by
      rw [n2.get n1.at]
      show _ = some (HO.lst ([r0 rows].map V.int))
      rw [er]
      congr 2) ?_
    exact h3.kept (.of (by k_call_by "fr" 0))
def sp_Resample_u__init (K : PySem.W.Frag) : Sp := fun vz H Q Ex => ∃ (a dx : Addr) (l b : Nat) (ru rd : Nat) (rn : List Int) (q : Addr), vz = [.ref a, .int (ru : Nat), .int (rd : Nat), .ref q, .int (l : Nat), .int (b : Nat)] ∧ (H a = some (.ins (He.ga K "Resample") dx [])) ∧ (l ≤ 99) ∧ (b ≤ 9999) ∧ ((1 ≤ ru ∧ ru ≤ 8) ∧ (1 ≤ rd ∧ rd ≤ 8) ∧ 1 ≤ rn.length ∧ rn.length ≤ 12 ∧ ∀ n ∈ rn, Num n) ∧ (H q = some (.lst (rn.map V.int))) ∧ (∀ H', IsNd K H' a l b (.resample ru rd rn) → Z.But a H H' → Q .non H')
theorem c_Resample_u__init {K : PySem.W.Frag} {H : Hp} {Q : VK} {Ex : XK} {a dx : Addr} {l b : Nat} {ru rd : Nat} {rn : List Int} {q : Addr} (h1 : H a = some (.ins (He.ga K "Resample") dx [])) (h2 : l ≤ 99) (h3 : b ≤ 9999) (h4 : (1 ≤ ru ∧ ru ≤ 8) ∧ (1 ≤ rd ∧ rd ≤ 8) ∧ 1 ≤ rn.length ∧ rn.length ≤ 12 ∧ ∀ n ∈ rn, Num n) (h5 : H q = some (.lst (rn.map V.int))) (k : ∀ H', IsNd K H' a l b (.resample ru rd rn) → Z.But a H H' → Q .non H') : sp_Resample_u__init K [.ref a, .int (ru : Nat), .int (rd : Nat), .ref q, .int (l : Nat), .int (b : Nat)] H Q Ex := ⟨a, dx, l, b, ru, rd, rn, q, rfl, h1, h2, h3, h4, h5, k⟩
theorem ok_Resample_u__init {g : Prop} {P : Program} {w : World} {K : PySem.W.Frag} {mg : Str → Option Value} {base : Heap} (E : Ev K mg) : Z.Pr g P w K mg base 4 (He.ma K (He.ga K "Resample") "__init__") d_Resample_u__init p_Resample_u__init (sp_Resample_u__init K) := by
  obtain ⟨fd, FD⟩ := E.fn 22 (d := d_Resample_u__init)
  refine ⟨fd, FD, Z.FunD.okG FD sc_Resample_u__init (fun vz H Q Ex h => ?_) (fun cdv A outer s H vz Q Ex hr hgd h => ?_)⟩
  · obtain ⟨_, _, _, _, _, _, _, _, rfl, _⟩ := h
    rfl
  · have hu := hr.units
    obtain ⟨a, dx, l, b, ru, rd, rn, q, rfl, h1, h2, h3, h4, h5, k⟩ := h
    have F_Node_u__init := ok_Node_u__init (g := g) (P := P) (w := w) (base := base) E
    have F_are_wholes := ok_are_wholes (g := g) (P := P) (w := w) (base := base) E
    have F_is_whole_from := ok_is_whole_from (g := g) (P := P) (w := w) (base := base) E
    have F_want := ok_want (g := g) (P := P) (w := w) (base := base) E
    have cl_Taps := E.cls 29
    have na_Taps_own_down := E.noat 65
    have na_Taps_own_numbers := E.noat 53
    have na_Taps_own_up := E.noat 66
    have cl_Up := E.cls 28
    have na_Up_own_down := E.noat 67
    have na_Up_own_numbers := E.noat 54
    have na_Up_own_up := E.noat 68
    have cl_Down := E.cls 27
    have na_Down_own_down := E.noat 69
    have na_Down_own_numbers := E.noat 55
    have na_Down_own_up := E.noat 70
    have cl_Resample := E.cls 26
    have na_Resample_own_down := E.noat 71
    have na_Resample_own_numbers := E.noat 56
    have na_Resample_own_up := E.noat 72
    refine ⟨_, (Z.zs_cons (Z.z_expr (Z.pe_f F_want (hr.mono (by decide)) hgd (by rfl) (E.glo 12) bd_want (passL) (pa_cons (Z.pe_f F_is_whole_from (hr.mono (by decide)) hgd (by rfl) (E.glo 13) bd_is_whole_from (passL) (pa_cons (pv 1) (pa_cons pe_int (pa_cons (Z.pe_gint rfl (E.int 25)) pa_nil)))) (pa_cons pe_str pa_nil))))
   (Z.zs_cons (Z.z_expr (Z.pe_f F_want (hr.mono (by decide)) hgd (by rfl) (E.glo 12) bd_want (passL) (pa_cons (Z.pe_f F_is_whole_from (hr.mono (by decide)) hgd (by rfl) (E.glo 13) bd_is_whole_from (passL) (pa_cons (pv 2) (pa_cons pe_int (pa_cons (Z.pe_gint rfl (E.int 25)) pa_nil)))) (pa_cons pe_str pa_nil))))
   (Z.zs_cons (Z.z_expr (Z.pe_f F_want (hr.mono (by decide)) hgd (by rfl) (E.glo 12) bd_want (passL) (pa_cons (Z.pe_f F_are_wholes (hr.mono (by decide)) hgd (by rfl) (E.glo 22) bd_are_wholes (passL) (pa_cons (pv 3) (pa_cons (Z.pe_gint rfl (E.int 23)) pa_nil))) (pa_cons pe_str pa_nil))))
   (Z.zs_cons (Z.z_expr (Z.pe_cm F_Node_u__init (hr.mono (by decide)) hgd (by rfl) (E.glo 21) (Z.fxC_ok (E.own 0)) bd_Node_u__init passL (pa_cons (pv 0) (pa_cons (pv 4) (pa_cons (pv 5) pa_nil)))))
   (Z.zs_cons (Z.z_fld (pv 0) (pv 1) rfl)
   (Z.zs_cons (Z.z_fld (pv 0) (pv 2) rfl)
   (Z.zs_one (Z.z_fld (pv 0) (pe_callTy (Z.ctupleK K rfl) (by rfl) (E.free 20) (by decide +kernel) (pa_cons (pv 3) pa_nil)) rfl)))))))), ?_⟩
    refine Z.i_start (σ := [some (.ref a), some (.int (ru : Nat)), some (.int (rd : Nat)), some (.ref q), some (.int (l : Nat)), some (.int (b : Nat))]) rfl ?_
    try dsimp only [Z.cxK]
    have hl := h2
    have hb := h3
    k_call_by "za" 0
    refine c_is_whole_from1 (by omega) (by omega) ?_
    k_call_by "za" 0
    refine c_want ?_
    k_call_by "za" 0
    refine c_is_whole_from1 (by omega) (by omega) ?_
    k_call_by "za" 0
    refine c_want ?_
    k_call_by "za" 0
    refine c_are_wholes h5 h4.2.2.1 (by have := h4.2.2.2.1; omega) (by have := h4.2.2.2.1; omega) fun H0 s0 => ?_
    k_call_by "za" 0
    refine c_want ?_
    k_call_by "za" 0
    have qa : q ≠ a := (Z.ne_il h1 h5).symm
    refine c_Node_u__init (s0 _ _ h1) (by simp [kinds]) hl hb fun H1 u1 => ?_
    k_call_by "za" 0
    rename_i H2 u2 H3 u3 s H4 n4 H5 u5
    exact k H5 ⟨dx, s, u5.at, by k_call_by "hf" 0⟩ (by k_call_by "fr" 0)
def sp_Resample_gives (K : PySem.W.Frag) : Sp := fun vz H Q Ex => ∃ (a : Addr) (l b : Nat) (ru rd : Nat) (rn : List Int), vz = [.ref a] ∧ (IsNd K H a l b (.resample ru rd rn)) ∧ (Q (.int (ru : Nat)) H)
theorem c_Resample_gives {K : PySem.W.Frag} {H : Hp} {Q : VK} {Ex : XK} {a : Addr} {l b : Nat} {ru rd : Nat} {rn : List Int} (h1 : IsNd K H a l b (.resample ru rd rn)) (k : Q (.int (ru : Nat)) H) : sp_Resample_gives K [.ref a] H Q Ex := ⟨a, l, b, ru, rd, rn, rfl, h1, k⟩
theorem ok_Resample_gives {g : Prop} {P : Program} {w : World} {K : PySem.W.Frag} {mg : Str → Option Value} {base : Heap} (E : Ev K mg) : Z.Pr g P w K mg base 1 (He.ma K (He.ga K "Resample") "gives") d_Resample_gives p_Resample_gives (sp_Resample_gives K) := by
  obtain ⟨fd, FD⟩ := E.fn 23 (d := d_Resample_gives)
  refine ⟨fd, FD, Z.FunD.okG FD sc_Resample_gives (fun vz H Q Ex h => ?_) (fun cdv A outer s H vz Q Ex hr hgd h => ?_)⟩
  · obtain ⟨_, _, _, _, _, _, rfl, _⟩ := h
    rfl
  · have hu := hr.units
    obtain ⟨a, l, b, ru, rd, rn, rfl, h1, k⟩ := h
    have cl_Taps := E.cls 29
    have na_Taps_own_up := E.noat 66
    have cl_Up := E.cls 28
    have na_Up_own_up := E.noat 68
    have cl_Down := E.cls 27
    have na_Down_own_up := E.noat 70
    have cl_Resample := E.cls 26
    have na_Resample_own_up := E.noat 72
    refine ⟨_, (Z.zs_one (Z.z_ret (Z.pe_fldK K rfl (pv 0) rfl))), ?_⟩
    refine Z.i_start (σ := [some (.ref a)]) rfl ?_
    try dsimp only [Z.cxK]
    obtain ⟨dx, s, h1, g1⟩ := h1
    k_call_by "za" 0
    exact k
def sp_Resample_takes (K : PySem.W.Frag) : Sp := fun vz H Q Ex => ∃ (a : Addr) (l b : Nat) (ru rd : Nat) (rn : List Int), vz = [.ref a] ∧ (IsNd K H a l b (.resample ru rd rn)) ∧ ((1 ≤ ru ∧ ru ≤ 8) ∧ (1 ≤ rd ∧ rd ≤ 8) ∧ 1 ≤ rn.length ∧ rn.length ≤ 12 ∧ ∀ n ∈ rn, Num n) ∧ (∀ r H', Same H H' → H' r = some (.tup ((Nd.tk (.resample ru rd rn)).map V.int)) → Q (.ref r) H')
theorem c_Resample_takes {K : PySem.W.Frag} {H : Hp} {Q : VK} {Ex : XK} {a : Addr} {l b : Nat} {ru rd : Nat} {rn : List Int} (h1 : IsNd K H a l b (.resample ru rd rn)) (h2 : (1 ≤ ru ∧ ru ≤ 8) ∧ (1 ≤ rd ∧ rd ≤ 8) ∧ 1 ≤ rn.length ∧ rn.length ≤ 12 ∧ ∀ n ∈ rn, Num n) (k : ∀ r H', Same H H' → H' r = some (.tup ((Nd.tk (.resample ru rd rn)).map V.int)) → Q (.ref r) H') : sp_Resample_takes K [.ref a] H Q Ex := ⟨a, l, b, ru, rd, rn, rfl, h1, h2, k⟩
theorem ok_Resample_takes {g : Prop} {P : Program} {w : World} {K : PySem.W.Frag} {mg : Str → Option Value} {base : Heap} (E : Ev K mg) : Z.Pr g P w K mg base 1 (He.ma K (He.ga K "Resample") "takes") d_Resample_takes p_Resample_takes (sp_Resample_takes K) := by
  obtain ⟨fd, FD⟩ := E.fn 24 (d := d_Resample_takes)
  refine ⟨fd, FD, Z.FunD.okG FD sc_Resample_takes (fun vz H Q Ex h => ?_) (fun cdv A outer s H vz Q Ex hr hgd h => ?_)⟩
  · obtain ⟨_, _, _, _, _, _, rfl, _⟩ := h
    rfl
  · have hu := hr.units
    obtain ⟨a, l, b, ru, rd, rn, rfl, h1, h2, k⟩ := h
    have cl_Taps := E.cls 29
    have na_Taps_own_down := E.noat 65
    have cl_Up := E.cls 28
    have na_Up_own_down := E.noat 67
    have cl_Down := E.cls 27
    have na_Down_own_down := E.noat 69
    have cl_Resample := E.cls 26
    have na_Resample_own_down := E.noat 71
    refine ⟨_, (Z.zs_one (Z.z_ret (pe_tup (pa_cons (Z.pe_fldK K rfl (pv 0) rfl) pa_nil)))), ?_⟩
    refine Z.i_start (σ := [some (.ref a)]) rfl ?_
    try dsimp only [Z.cxK]
    obtain ⟨dx, s, h1, g1⟩ := h1
    k_call_by "za" 0
    rename_i r H1 n1
    exact k r H1 n1.same n1.at
def sp_Resample_at_first (K : PySem.W.Frag) : Sp := fun vz H Q Ex => ∃ (a : Addr) (l b : Nat) (ru rd : Nat) (rn : List Int), vz = [.ref a] ∧ (IsNd K H a l b (.resample ru rd rn)) ∧ ((1 ≤ ru ∧ ru ≤ 8) ∧ (1 ≤ rd ∧ rd ≤ 8) ∧ 1 ≤ rn.length ∧ rn.length ≤ 12 ∧ ∀ n ∈ rn, Num n) ∧ (∀ v H', Same H H' → IsKp H' v (.tup (List.replicate (rn.length - 1) 0)) → Q v H')
theorem c_Resample_at_first {K : PySem.W.Frag} {H : Hp} {Q : VK} {Ex : XK} {a : Addr} {l b : Nat} {ru rd : Nat} {rn : List Int} (h1 : IsNd K H a l b (.resample ru rd rn)) (h2 : (1 ≤ ru ∧ ru ≤ 8) ∧ (1 ≤ rd ∧ rd ≤ 8) ∧ 1 ≤ rn.length ∧ rn.length ≤ 12 ∧ ∀ n ∈ rn, Num n) (k : ∀ v H', Same H H' → IsKp H' v (.tup (List.replicate (rn.length - 1) 0)) → Q v H') : sp_Resample_at_first K [.ref a] H Q Ex := ⟨a, l, b, ru, rd, rn, rfl, h1, h2, k⟩
theorem ok_Resample_at_first {g : Prop} {P : Program} {w : World} {K : PySem.W.Frag} {mg : Str → Option Value} {base : Heap} (E : Ev K mg) : Z.Pr g P w K mg base 1 (He.ma K (He.ga K "Resample") "at_first") d_Resample_at_first p_Resample_at_first (sp_Resample_at_first K) := by
  obtain ⟨fd, FD⟩ := E.fn 25 (d := d_Resample_at_first)
  refine ⟨fd, FD, Z.FunD.okG FD sc_Resample_at_first (fun vz H Q Ex h => ?_) (fun cdv A outer s H vz Q Ex hr hgd h => ?_)⟩
  · obtain ⟨_, _, _, _, _, _, rfl, _⟩ := h
    rfl
  · have hu := hr.units
    obtain ⟨a, l, b, ru, rd, rn, rfl, h1, h2, k⟩ := h
    have cl_Taps := E.cls 29
    have na_Taps_own_numbers := E.noat 53
    have cl_Up := E.cls 28
    have na_Up_own_numbers := E.noat 54
    have cl_Down := E.cls 27
    have na_Down_own_numbers := E.noat 55
    have cl_Resample := E.cls 26
    have na_Resample_own_numbers := E.noat 56
    refine ⟨_, (Z.zs_one (Z.z_ret (pe_op (Z.opMulK K rfl) (pe_tup (pa_cons pe_int pa_nil)) (pe_op op_sub (pe_callB (Z.clenK K rfl) (by rfl) (E.free 4) (by decide +kernel) (pa_cons (Z.pe_fldK K rfl (pv 0) rfl) pa_nil)) pe_int)))), ?_⟩
    refine Z.i_start (σ := [some (.ref a)]) rfl ?_
    try dsimp only [Z.cxK]
    obtain ⟨dx, s, h1, g1⟩ := h1
    k_call_by "za" 0
    refine Z.i_mulTI (a := .int 0) (by k_call_by "hf" 0) (by have := h2.2.2.2.1; omega) fun r H' s' e => ?_
    refine k _ _ (by k_call_by "fr" 0) ⟨r, rfl, ?_⟩
    rw [e, show ((rn.length : Int) - 1).toNat = rn.length - 1 by omega]
    congr 2
    try simp
def sp_Resample_worked (K : PySem.W.Frag) : Sp := fun vz H Q Ex => ∃ (a p : Addr) (v : V) (l b : Nat) (ru rd : Nat) (rn : List Int) (kp : Kp) (rows : List (List Int)), vz = [.ref a, v, .ref p] ∧ (IsNd K H a l b (.resample ru rd rn)) ∧ ((1 ≤ ru ∧ ru ≤ 8) ∧ (1 ≤ rd ∧ rd ≤ 8) ∧ 1 ≤ rn.length ∧ rn.length ≤ 12 ∧ ∀ nn ∈ rn, Num nn) ∧ (IsKp H v kp) ∧ (IsRows H p rows) ∧ (Fit (.resample ru rd rn) rows) ∧ (KpOk (.resample ru rd rn) kp) ∧ (∀ t w q H', H q = none → Same H H' → H' t = some (.tup [w, .ref q]) → H' q = some (.lst ((Nd.worked (.resample ru rd rn) kp rows).2.map V.int)) → IsKp H' w (Nd.worked (.resample ru rd rn) kp rows).1 → Q (.ref t) H')
theorem c_Resample_worked {K : PySem.W.Frag} {H : Hp} {Q : VK} {Ex : XK} {a p : Addr} {v : V} {l b : Nat} {ru rd : Nat} {rn : List Int} {kp : Kp} {rows : List (List Int)} (h1 : IsNd K H a l b (.resample ru rd rn)) (h2 : (1 ≤ ru ∧ ru ≤ 8) ∧ (1 ≤ rd ∧ rd ≤ 8) ∧ 1 ≤ rn.length ∧ rn.length ≤ 12 ∧ ∀ nn ∈ rn, Num nn) (h3 : IsKp H v kp) (h4 : IsRows H p rows) (h5 : Fit (.resample ru rd rn) rows) (h6 : KpOk (.resample ru rd rn) kp) (k : ∀ t w q H', H q = none → Same H H' → H' t = some (.tup [w, .ref q]) → H' q = some (.lst ((Nd.worked (.resample ru rd rn) kp rows).2.map V.int)) → IsKp H' w (Nd.worked (.resample ru rd rn) kp rows).1 → Q (.ref t) H') : sp_Resample_worked K [.ref a, v, .ref p] H Q Ex := ⟨a, p, v, l, b, ru, rd, rn, kp, rows, rfl, h1, h2, h3, h4, h5, h6, k⟩
theorem ok_Resample_worked {g : Prop} {P : Program} {w : World} {K : PySem.W.Frag} {mg : Str → Option Value} {base : Heap} (E : Ev K mg) : Z.Pr g P w K mg base 2 (He.ma K (He.ga K "Resample") "worked") d_Resample_worked p_Resample_worked (sp_Resample_worked K) := by
  obtain ⟨fd, FD⟩ := E.fn 26 (d := d_Resample_worked)
  refine ⟨fd, FD, Z.FunD.okG FD sc_Resample_worked (fun vz H Q Ex h => ?_) (fun cdv A outer s H vz Q Ex hr hgd h => ?_)⟩
  · obtain ⟨_, _, _, _, _, _, _, _, _, _, rfl, _⟩ := h
    rfl
  · have hu := hr.units
    obtain ⟨a, p, v, l, b, ru, rd, rn, kp, rows, rfl, h1, h2, h3, h4, h5, h6, k⟩ := h
    have F_tapped := ok_tapped (g := g) (P := P) (w := w) (base := base) E
    have cl_Taps := E.cls 29
    have na_Taps_own_down := E.noat 65
    have na_Taps_own_numbers := E.noat 53
    have na_Taps_own_up := E.noat 66
    have cl_Up := E.cls 28
    have na_Up_own_down := E.noat 67
    have na_Up_own_numbers := E.noat 54
    have na_Up_own_up := E.noat 68
    have cl_Down := E.cls 27
    have na_Down_own_down := E.noat 69
    have na_Down_own_numbers := E.noat 55
    have na_Down_own_up := E.noat 70
    have cl_Resample := E.cls 26
    have na_Resample_own_down := E.noat 71
    have na_Resample_own_numbers := E.noat 56
    have na_Resample_own_up := E.noat 72
    refine ⟨_, (Z.zs_cons (Z.z_set (i := 3) sc_Resample_worked.nd rfl (Or.inl rfl) (pe_lst pa_nil))
   (Z.zs_cons (Z.z_for (passes_of rfl) rfl (Z.pi_seqK K rfl (pe_ix (Z.ixUK K rfl) (pv 2) pe_int (fun _ _ => rfl))) (pg_name (i := 4) sc_Resample_worked.nd rfl (Or.inl rfl))
   (Z.zs_one (Z.z_for (passes_of rfl) rfl (Z.pi_seqK K rfl (pe_op (Z.opAddK K rfl) (pe_lst (pa_cons (pv 4) pa_nil)) (pe_op (Z.opMulK K rfl) (pe_lst (pa_cons pe_int pa_nil)) (pe_op op_sub (Z.pe_fldK K rfl (pv 0) rfl) pe_int)))) (pg_name (i := 5) sc_Resample_worked.nd rfl (Or.inl rfl))
   (Z.zs_cons (Z.z_set (i := 6) sc_Resample_worked.nd rfl (Or.inl rfl) (pe_op (Z.opAddK K rfl) (pe_tup (pa_cons (pv 5) pa_nil)) (pv 1)))
   (Z.zs_cons (Z.z_expr (pe_bm PySem.F.plainAttrs_list PySem.F.slot_list_append PySem.F.type_list_append mt_append (pv 3) (pa_cons (Z.pe_f F_tapped (hr.mono (by decide)) hgd (by rfl) (E.glo 24) bd_tapped (passL) (pa_cons (Z.pe_fldK K rfl (pv 0) rfl) (pa_cons (pv 6) pa_nil))) pa_nil)))
   (Z.zs_one (Z.z_set (i := 1) sc_Resample_worked.nd rfl (Or.inl rfl) (pe_slice (Z.slUK K rfl) (pv 6) po_none (po_some (pe_op op_sub (pe_callB (Z.clenK K rfl) (by rfl) (E.free 4) (by decide +kernel) (pa_cons (Z.pe_fldK K rfl (pv 0) rfl) pa_nil)) pe_int))))))))))
   (Z.zs_one (Z.z_ret (pe_tup (pa_cons (pv 1) (pa_cons (Z.pe_slK K rfl (pv 3) (Z.pe_fldK K rfl (pv 0) rfl)) pa_nil))))))), ?_⟩
    refine Z.i_start (σ := [some (.ref a), some (v), some (.ref p), none, none, none, none]) rfl ?_
    try dsimp only [Z.cxK]
    obtain ⟨dx, s, h1, g1⟩ := h1
    obtain ⟨ts, rfl, tl, tn⟩ := h6
    obtain ⟨row, e0, l0, nums⟩ := h5.at (i := 0) (w := rd) rfl
    obtain ⟨vs, q0, g4, g2, g3⟩ := h4.row e0
    obtain ⟨rk, rfl, hk⟩ := h3
    obtain ⟨⟨u1, u8⟩, ⟨d1, d8⟩, n1', n12, hn⟩ := h2
    k_call_by "za" 0
    rename_i G H1 n1
    refine Z.i_ixL (n1.get g4) g2 ?_
    k_call_by "za" 0
    have ru0 : ∀ x : Int, ∀ y ∈ x :: List.replicate (ru - 1) 0, y = x ∨ y = 0 := fun x y hy => by
      rcases List.mem_cons.mp hy with e | e
      · exact .inl e
      · exact .inr (List.mem_replicate.mp e).2
    refine Z.loop_list (xs := row.map V.int) (fun i σ H' => (∃ kv x4 x5 x6, σ = [some (.ref a), some (.ref kv), some (.ref p), some (.ref G), x4, x5, x6] ∧ H' kv = some (.tup (((upped ru (row.take i)).foldl (rstep rn) (ts, [])).1.map V.int)) ∧ H' G = some (.lst (((upped ru (row.take i)).foldl (rstep rn) (ts, [])).2.map V.int))) ∧ RIn rn ((upped ru (row.take i)).foldl (rstep rn) (ts, [])) (i * ru) ∧ Z.But G H1 H') ?_ ?_ ?_ ?_
    · exact ⟨⟨rk, _, _, _, rfl, n1.get hk, n1.at⟩, ⟨tl, tn, by simp [upped]⟩, .refl⟩
    · rintro i σ H' hi ⟨⟨kv, x4, x5, x6, rfl, hkv, hG⟩, rin, b⟩
      have : q0 ≠ G := Z.ne_fr n1.fr g3
      k_call_by "hq" 0
    · rintro i x σ H' hx ⟨⟨kv, x4, x5, x6, rfl, hkv, hG⟩, rin, b⟩
      obtain ⟨z, hz, rfl⟩ := ints_at hx
      have il := (List.getElem?_eq_some_iff.mp hz).1
      have nz : Num z := nums z (List.mem_of_getElem? hz)
      have eup : upped ru (row.take (i + 1)) = upped ru (row.take i) ++ z :: List.replicate (ru - 1) 0 := by
        unfold upped
        rw [take_snoc hz, List.map_append, List.flatten_append]; simp
      rw [eup, List.foldl_append]
      generalize (upped ru (row.take i)).foldl (rstep rn) (ts, []) = st at *
      have ag : a ≠ G := Z.ne_fr n1.fr h1
      have sg : s ≠ G := Z.ne_fr n1.fr g1
      k_call_by "za" 0
      rename_i t1 H2 n2 t2 H3 n3 t3 H4 n4
      rw [show ((ru : Int) - 1).toNat = ru - 1 by omega] at n4
      refine Z.i_addLI (ns := [z]) (ms := List.replicate (ru - 1) 0) (by show H4 t1 = some (HO.lst [V.int z]); k_call_by "hf" 0) n4.at (by simp; omega) fun t4 H5 n5 => ?_
      k_call_by "za" 0
      have bG : Z.But G H1 H5 := by k_call_by "fr" 0
      have hkv5 : H5 kv = some (.tup (st.1.map V.int)) := by k_call_by "hf" 0
      have hG5 : H5 G = some (.lst (st.2.map V.int)) := by k_call_by "hf" 0
      have tg : t4 ≠ G := n5.ne' (n4.get (n3.get (n2.get hG)))
      have e5 := n5.at
      clear n2 n3 n4 n5 b hkv hG
      generalize hzs : [z] ++ List.replicate (ru - 1) 0 = zs at e5
      have zl : zs.length = ru := by rw [← hzs]; simp; omega
      have zn : ∀ y ∈ zs, Num y := fun y hy => by
        rw [← hzs] at hy
        rcases List.mem_cons.mp hy with e | e
        · rw [e]; exact nz
        · rw [(List.mem_replicate.mp e).2]; exact num_of (by constructor <;> decide)
      rw [show z :: List.replicate (ru - 1) 0 = zs from hzs]
      refine Z.loop_list (xs := zs.map V.int) (fun j σ H' => (∃ kv x5 x6, σ = [some (.ref a), some (.ref kv), some (.ref p), some (.ref G), some (.int z), x5, x6] ∧ H' kv = some (.tup (((zs.take j).foldl (rstep rn) st).1.map V.int)) ∧ H' G = some (.lst (((zs.take j).foldl (rstep rn) st).2.map V.int))) ∧ RIn rn ((zs.take j).foldl (rstep rn) st) (i * ru + j) ∧ Z.But G H5 H') ?_ ?_ ?_ ?_
      · exact ⟨⟨kv, _, _, rfl, hkv5, hG5⟩, rin, .refl⟩
      · rintro j σ H' hi ⟨⟨kv, x5, x6, rfl, hkv, hG⟩, rin, b⟩
        k_call_by "hq" 0
      · rintro j x σ H' hx ⟨⟨kv, x5, x6, rfl, hkv, hG⟩, rin', b⟩
        obtain ⟨y, hy, rfl⟩ := ints_at hx
        have ny := zn y (List.mem_of_getElem? hy)
        have jl := (List.getElem?_eq_some_iff.mp hy).1
        rw [take_snoc hy, List.foldl_append]
        generalize (zs.take j).foldl (rstep rn) st = st' at *
        have rs := rin'.step ny n1'
        have e1 := rin'.le
        have e2 := rin'.gi
        have jl2 : i * ru + j < 1000 := by
          have : i * ru ≤ 8 * 8 := Nat.mul_le_mul (by omega) u8
          omega
        k_call_by "za" 0
        rename_i t5 H6 n6
        refine Z.i_addT1 (ys := st'.1.map V.int) n6.at (n6.get hkv) (by rw [List.length_map]; omega) fun t6 H7 s7 e7 => ?_
        have e7 : H7 t6 = some (.tup ((y :: st'.1).map V.int)) := e7
        k_call_by "za" 0
        refine c_tapped (ns := rn) (ts := y :: st'.1) (by k_call_by "hf" 0) e7 (by omega) hn (fun n hn => by
          rcases List.mem_cons.mp hn with rfl | hn
          · exact ny
          · exact rin'.nu n hn) fun H8 s8 => ?_
        k_call_by "za" 0
        rename_i H9 u9
        have hG8 : H8 G = some (.lst (st'.2.map V.int)) := by k_call_by "hf" 0
        rw [show ((rn.length : Int) - 1) = ((rn.length - 1 : Nat) : Int) by omega]
        refine Z.i_slT (xs := (y :: st'.1).map V.int) (u9.get (Z.ne_tl (s8 _ _ e7) hG8) (s8 _ _ e7)) (by rw [List.length_map, List.length_cons]; omega) fun t7 H10 s10 e10 => ?_
        k_call_by "za" 0
        refine ⟨⟨t7, _, _, rfl, ?_, ?_⟩, rs, by k_call_by "fr" 0⟩
        · rw [e10, ← List.map_take]; rfl
        · rw [s10 _ _ u9.at]
          show some (HO.lst (st'.2.map V.int ++ [V.int (tapped rn (y :: st'.1))])) = some (HO.lst ((st'.2 ++ [tapped rn (y :: st'.1)]).map V.int))
          rw [List.map_append]; rfl
      · rintro σ H' ⟨⟨kv, x5, x6, rfl, hkv, hG⟩, rin', b⟩
        rw [List.length_map, List.take_length] at *
        rw [zl] at rin'
        k_call_by "za" 0
        refine ⟨⟨kv, _, _, _, rfl, hkv, hG⟩, ?_, bG.trans b⟩
        rw [Nat.add_mul, Nat.one_mul]
        exact rin'
    · rintro σ H' ⟨⟨kv, x4, x5, x6, rfl, hkv, hG⟩, rin, b⟩
      rw [List.length_map, List.take_length] at *
      generalize hst : (upped ru row).foldl (rstep rn) (ts, []) = st at *
      have ew : (Nd.resample ru rd rn).worked (.tup ts) rows = (.tup st.1, Z.stepped rd st.2) := by
        show (Kp.tup ((upped ru ((rows[0]?).getD [])).foldl (rstep rn) (ts, [])).1, _) = _
        rw [e0]
        show (Kp.tup ((upped ru row).foldl (rstep rn) (ts, [])).1, Z.stepped rd ((upped ru row).foldl (rstep rn) (ts, [])).2) = _
        rw [hst]
      rw [ew] at k
      k_call_by "za" 0
      have sHH : Same H H' := Z.Same.thenBut n1.same b n1.fr
      have e1 := rin.gi
      have e2 := rin.le
      refine Z.i_slKL hG d1 fun r8 H2 n2 => ?_
      k_call_by "za" 0
      rename_i r9 H3 n3
      have ef : Z.stepped rd (st.2.map V.int) = (Z.stepped rd st.2).map V.int := Z.stepped_map _ _ _
      refine k _ _ _ _ (by k_call_by "fh" 0) (by k_call_by "fr" 0) n3.at (by rw [n3.get n2.at, ef]) ⟨kv, rfl, ?_⟩
      k_call_by "hf" 0
abbrev Ms_takes (K : PySem.W.Frag) : List Z.MA := [⟨He.ga K "Taps", 1, fun _ vs _ => vs, sp_Node_takes K⟩, ⟨He.ga K "Up", 1, fun _ vs _ => vs, sp_Node_takes K⟩, ⟨He.ga K "Down", 1, fun _ vs _ => vs, sp_Down_takes K⟩, ⟨He.ga K "Resample", 1, fun _ vs _ => vs, sp_Resample_takes K⟩]
abbrev Ms_gives (K : PySem.W.Frag) : List Z.MA := [⟨He.ga K "Taps", 1, fun _ vs _ => vs, sp_Node_gives K⟩, ⟨He.ga K "Up", 1, fun _ vs _ => vs, sp_Up_gives K⟩, ⟨He.ga K "Down", 1, fun _ vs _ => vs, sp_Node_gives K⟩, ⟨He.ga K "Resample", 1, fun _ vs _ => vs, sp_Resample_gives K⟩]
abbrev Ms_at_first (K : PySem.W.Frag) : List Z.MA := [⟨He.ga K "Taps", 1, fun _ vs _ => vs, sp_Taps_at_first K⟩, ⟨He.ga K "Up", 1, fun _ vs _ => vs, sp_Node_at_first K⟩, ⟨He.ga K "Down", 1, fun _ vs _ => vs, sp_Node_at_first K⟩, ⟨He.ga K "Resample", 1, fun _ vs _ => vs, sp_Resample_at_first K⟩]
abbrev Ms_worked (K : PySem.W.Frag) : List Z.MA := [⟨He.ga K "Taps", 3, fun _ vs _ => vs, sp_Taps_worked K⟩, ⟨He.ga K "Up", 3, fun _ vs _ => vs, sp_Up_worked K⟩, ⟨He.ga K "Down", 3, fun _ vs _ => vs, sp_Down_worked K⟩, ⟨He.ga K "Resample", 3, fun _ vs _ => vs, sp_Resample_worked K⟩]
theorem m_takes {K : PySem.W.Frag} {E : XK} {σ : L2.St} {H : Hp} {Q : VK} {a : Addr} {l b : Nat} : ∀ {nd : Nd}, IsNd K H a l b nd → nd.wf → (∀ r H', Same H H' → H' r = some (.tup (nd.tk.map V.int)) → Q (.ref r) H') → Z.zM1 K "takes" 0 E (Ms_takes K) tNil tNil (.ref a) σ H Q
  | .taps _, ⟨dx, s, h, g⟩, w, k => by refine Z.i_Mi 0 h rfl rfl ⟨rfl, rfl, ?_⟩; dsimp only; exact c_Node_takes fun r H' n => k r H' n.same n.at
  | .up _ _, ⟨dx, h⟩, w, k => by refine Z.i_Mi 1 h rfl rfl ⟨rfl, rfl, ?_⟩; dsimp only; exact c_Node_takes fun r H' n => k r H' n.same n.at
  | .down _, ⟨dx, h⟩, w, k => by refine Z.i_Mi 2 h rfl rfl ⟨rfl, rfl, ?_⟩; dsimp only; exact c_Down_takes ⟨dx, h⟩ w k
  | .resample _ _ _, ⟨dx, s, h, g⟩, w, k => by refine Z.i_Mi 3 h rfl rfl ⟨rfl, rfl, ?_⟩; dsimp only; exact c_Resample_takes ⟨dx, s, h, g⟩ w k

theorem m_gives {K : PySem.W.Frag} {E : XK} {σ : L2.St} {H : Hp} {Q : VK} {a : Addr} {l b : Nat} : ∀ {nd : Nd}, IsNd K H a l b nd → Q (.int (nd.gives : Nat)) H → Z.zM1 K "gives" 0 E (Ms_gives K) tNil tNil (.ref a) σ H Q
  | .taps _, ⟨dx, s, h, g⟩, k => by refine Z.i_Mi 0 h rfl rfl ⟨rfl, rfl, ?_⟩; dsimp only; exact c_Node_gives k
  | .up _ _, ⟨dx, h⟩, k => by refine Z.i_Mi 1 h rfl rfl ⟨rfl, rfl, ?_⟩; dsimp only; exact c_Up_gives ⟨dx, h⟩ k
  | .down _, ⟨dx, h⟩, k => by refine Z.i_Mi 2 h rfl rfl ⟨rfl, rfl, ?_⟩; dsimp only; exact c_Node_gives k
  | .resample _ _ _, ⟨dx, s, h, g⟩, k => by refine Z.i_Mi 3 h rfl rfl ⟨rfl, rfl, ?_⟩; dsimp only; exact c_Resample_gives ⟨dx, s, h, g⟩ k

theorem m_at_first {K : PySem.W.Frag} {E : XK} {σ : L2.St} {H : Hp} {Q : VK} {a : Addr} {l b : Nat} : ∀ {nd : Nd}, IsNd K H a l b nd → nd.wf → (∀ v H', Same H H' → IsKp H' v nd.first → Q v H') → Z.zM1 K "at_first" 0 E (Ms_at_first K) tNil tNil (.ref a) σ H Q
  | .taps _, ⟨dx, s, h, g⟩, w, k => by refine Z.i_Mi 0 h rfl rfl ⟨rfl, rfl, ?_⟩; dsimp only; exact c_Taps_at_first ⟨dx, s, h, g⟩ w k
  | .up _ _, ⟨dx, h⟩, w, k => by refine Z.i_Mi 1 h rfl rfl ⟨rfl, rfl, ?_⟩; dsimp only; exact c_Node_at_first fun r H' n => k _ H' n.same ⟨r, rfl, n.at⟩
  | .down _, ⟨dx, h⟩, w, k => by refine Z.i_Mi 2 h rfl rfl ⟨rfl, rfl, ?_⟩; dsimp only; exact c_Node_at_first fun r H' n => k _ H' n.same ⟨r, rfl, n.at⟩
  | .resample _ _ _, ⟨dx, s, h, g⟩, w, k => by refine Z.i_Mi 3 h rfl rfl ⟨rfl, rfl, ?_⟩; dsimp only; exact c_Resample_at_first ⟨dx, s, h, g⟩ w k

theorem m_worked {K : PySem.W.Frag} {E : XK} {σ : L2.St} {H : Hp} {Q : VK} {a : Addr} {l b : Nat} {p : Addr} {v : V} {kp : Kp} {rows : List (List Int)} {i j : Nat} (e1 : σ[i]? = some (some v)) (e2 : σ[j]? = some (some (.ref p))) : ∀ {nd : Nd}, IsNd K H a l b nd → nd.wf → IsKp H v kp → IsRows H p rows → Fit nd rows → KpOk nd kp → (∀ t w q H', H q = none → Same H H' → H' t = some (.tup [w, .ref q]) → H' q = some (.lst ((nd.worked kp rows).2.map V.int)) → IsKp H' w (nd.worked kp rows).1 → Q (.ref t) H') → Z.zM1 K "worked" 0 E (Ms_worked K) (tCons (tVar i) (tCons (tVar j) tNil)) tNil (.ref a) σ H Q
  | .taps _, ⟨dx, s, h, g⟩, w, h3, h4, h5, h6, k => by refine Z.i_Mi 0 h rfl rfl (Z.i_cons (Z.i_var e1 (Z.i_cons (Z.i_var e2 (Z.i_nil (Z.i_nil ⟨rfl, rfl, ?_⟩)))))); dsimp only; exact c_Taps_worked ⟨dx, s, h, g⟩ w h3 h4 h5 h6 k
  | .up _ _, ⟨dx, h⟩, w, h3, h4, h5, h6, k => by refine Z.i_Mi 1 h rfl rfl (Z.i_cons (Z.i_var e1 (Z.i_cons (Z.i_var e2 (Z.i_nil (Z.i_nil ⟨rfl, rfl, ?_⟩)))))); dsimp only; exact c_Up_worked ⟨dx, h⟩ w h3 h4 h5 h6 k
  | .down _, ⟨dx, h⟩, w, h3, h4, h5, h6, k => by refine Z.i_Mi 2 h rfl rfl (Z.i_cons (Z.i_var e1 (Z.i_cons (Z.i_var e2 (Z.i_nil (Z.i_nil ⟨rfl, rfl, ?_⟩)))))); dsimp only; exact c_Down_worked ⟨dx, h⟩ w h3 h4 h5 h6 k
  | .resample _ _ _, ⟨dx, s, h, g⟩, w, h3, h4, h5, h6, k => by refine Z.i_Mi 3 h rfl rfl (Z.i_cons (Z.i_var e1 (Z.i_cons (Z.i_var e2 (Z.i_nil (Z.i_nil ⟨rfl, rfl, ?_⟩)))))); dsimp only; exact c_Resample_worked ⟨dx, s, h, g⟩ w h3 h4 h5 h6 k

def kindsOf (K : PySem.W.Frag) : Nd → Addr
  | .taps _ => He.ga K "Taps"
  | .up _ _ => He.ga K "Up"
  | .down _ => He.ga K "Down"
  | .resample _ _ _ => He.ga K "Resample"
theorem IsNd.own {K : PySem.W.Frag} {H : Hp} {a : Addr} {l b : Nat} {nd : Nd} (hf : ∀ C ∈ kinds K, Cls K C ∧ NoAttr K C "own_late" ∧ NoAttr K C "own_begin") (h : IsNd K H a l b nd) : ∃ C dx fs, H a = some (.ins C dx fs) ∧ Cls K C ∧ NoAttr K C "own_late" ∧ NoAttr K C "own_begin" ∧ fs.lookup ("own_late" : Str) = some (.int (l : Nat)) ∧ fs.lookup ("own_begin" : Str) = some (.int (b : Nat)) := by
  cases nd with
  | taps ns => obtain ⟨dx, s, h, g⟩ := h; obtain ⟨c1, c2, c3⟩ := hf (He.ga K "Taps") (by simp [kinds]); exact ⟨_, _, _, h, c1, c2, c3, rfl, rfl⟩
  | up n h => obtain ⟨dx, h⟩ := h; obtain ⟨c1, c2, c3⟩ := hf (He.ga K "Up") (by simp [kinds]); exact ⟨_, _, _, h, c1, c2, c3, rfl, rfl⟩
  | down n => obtain ⟨dx, h⟩ := h; obtain ⟨c1, c2, c3⟩ := hf (He.ga K "Down") (by simp [kinds]); exact ⟨_, _, _, h, c1, c2, c3, rfl, rfl⟩
  | resample ru rd rn => obtain ⟨dx, s, h, g⟩ := h; obtain ⟨c1, c2, c3⟩ := hf (He.ga K "Resample") (by simp [kinds]); exact ⟨_, _, _, h, c1, c2, c3, rfl, rfl⟩
def sp_Node_fresh (K : PySem.W.Frag) : Sp := fun vz H Q Ex => ∃ (a : Addr) (l b : Nat) (nd : Nd), vz = [.ref a] ∧ (IsNd K H a l b nd) ∧ (nd.wf) ∧ (∀ v H', Same H H' → IsMem H' v b nd.first → Q v H')
theorem c_Node_fresh {K : PySem.W.Frag} {H : Hp} {Q : VK} {Ex : XK} {a : Addr} {l b : Nat} {nd : Nd} (h1 : IsNd K H a l b nd) (h2 : nd.wf) (k : ∀ v H', Same H H' → IsMem H' v b nd.first → Q v H') : sp_Node_fresh K [.ref a] H Q Ex := ⟨a, l, b, nd, rfl, h1, h2, k⟩
theorem ok_Node_fresh {g : Prop} {P : Program} {w : World} {K : PySem.W.Frag} {mg : Str → Option Value} {base : Heap} (E : Ev K mg) : Z.Pr g P w K mg base 2 (He.ma K (He.ga K "Node") "fresh") d_Node_fresh p_Node_fresh (sp_Node_fresh K) := by
  obtain ⟨fd, FD⟩ := E.fn 27 (d := d_Node_fresh)
  refine ⟨fd, FD, Z.FunD.okG FD sc_Node_fresh (fun vz H Q Ex h => ?_) (fun cdv A outer s H vz Q Ex hr hgd h => ?_)⟩
  · obtain ⟨_, _, _, _, rfl, _⟩ := h
    rfl
  · have hu := hr.units
    obtain ⟨a, l, b, nd, rfl, h1, h2, k⟩ := h
    have F_Node_at_first := ok_Node_at_first (g := g) (P := P) (w := w) (base := base) E
    have F_Resample_at_first := ok_Resample_at_first (g := g) (P := P) (w := w) (base := base) E
    have F_Taps_at_first := ok_Taps_at_first (g := g) (P := P) (w := w) (base := base) E
    have cl_Taps := E.cls 29
    have na_Taps_own_begin := E.noat 49
    have cl_Up := E.cls 28
    have na_Up_own_begin := E.noat 50
    have cl_Down := E.cls 27
    have na_Down_own_begin := E.noat 51
    have cl_Resample := E.cls 26
    have na_Resample_own_begin := E.noat 52
    refine ⟨_, (Z.zs_one (Z.z_ret (pe_tup (pa_cons (Z.pe_fldK K rfl (pv 0) rfl) (pa_cons (Z.pe_M0K K rfl (Z.ms_cons (Z.mt_of (E.cls 29) (Z.fxM_ok (E.own 4)) F_Taps_at_first bd_Taps_at_first (hr.mono (by decide)) hgd) (Z.ms_cons (Z.mt_of (E.cls 28) (Z.fxM_ok (E.own 3)) F_Node_at_first bd_Node_at_first (hr.mono (by decide)) hgd) (Z.ms_cons (Z.mt_of (E.cls 27) (Z.fxM_ok (E.own 2)) F_Node_at_first bd_Node_at_first (hr.mono (by decide)) hgd) (Z.ms_cons (Z.mt_of (E.cls 26) (Z.fxM_ok (E.own 1)) F_Resample_at_first bd_Resample_at_first (hr.mono (by decide)) hgd) Z.ms_nil)))) (passL) (pv 0)) pa_nil))))), ?_⟩
    refine Z.i_start (σ := [some (.ref a)]) rfl ?_
    try dsimp only [Z.cxK]
    obtain ⟨Cc, dx, fs, hi, cc, nn1, nn2, e1, e2⟩ := h1.own (fun C hC => by
        simp only [kinds, List.mem_cons, List.not_mem_nil, or_false] at hC
        rcases hC with rfl | rfl | rfl | rfl
        · exact ⟨cl_Taps, E.noat 0, na_Taps_own_begin⟩
        · exact ⟨cl_Up, E.noat 1, na_Up_own_begin⟩
        · exact ⟨cl_Down, E.noat 2, na_Down_own_begin⟩
        · exact ⟨cl_Resample, E.noat 3, na_Resample_own_begin⟩)
    k_call_by "za" 0
    refine Z.i_fld1 hi cc nn2 e2 ?_
    k_call_by "za" 0
    refine m_at_first h1 h2 fun v H1 s1 k1 => ?_
    k_call_by "za" 0
    rename_i r H2 n2
    exact k _ H2 (by k_call_by "fr" 0) ⟨r, v, rfl, n2.at, k1.kept (.of n2.same)⟩
def sp_Node_fire (K : PySem.W.Frag) : Sp := fun vz H Q Ex => ∃ (a p : Addr) (v : V) (l b m : Nat) (nd : Nd) (kp : Kp) (rows : List (List Int)), vz = [.ref a, v, .ref p] ∧ (IsNd K H a l b nd) ∧ (nd.wf) ∧ (IsMem H v m kp) ∧ (IsRows H p rows) ∧ (Fit nd rows) ∧ (KpOk nd kp) ∧ (nd.gives ≤ 1000) ∧ (∀ t mv q H', H q = none → Same H H' → H' t = some (.tup [mv, .ref q]) → H' q = some (.lst ((nd.fire m kp rows).2.2.map V.int)) → IsMem H' mv (nd.fire m kp rows).1 (nd.fire m kp rows).2.1 → Q (.ref t) H')
theorem c_Node_fire {K : PySem.W.Frag} {H : Hp} {Q : VK} {Ex : XK} {a p : Addr} {v : V} {l b m : Nat} {nd : Nd} {kp : Kp} {rows : List (List Int)} (h1 : IsNd K H a l b nd) (h2 : nd.wf) (h3 : IsMem H v m kp) (h4 : IsRows H p rows) (h5 : Fit nd rows) (h6 : KpOk nd kp) (h7 : nd.gives ≤ 1000) (k : ∀ t mv q H', H q = none → Same H H' → H' t = some (.tup [mv, .ref q]) → H' q = some (.lst ((nd.fire m kp rows).2.2.map V.int)) → IsMem H' mv (nd.fire m kp rows).1 (nd.fire m kp rows).2.1 → Q (.ref t) H') : sp_Node_fire K [.ref a, v, .ref p] H Q Ex := ⟨a, p, v, l, b, m, nd, kp, rows, rfl, h1, h2, h3, h4, h5, h6, h7, k⟩
theorem ok_Node_fire {g : Prop} {P : Program} {w : World} {K : PySem.W.Frag} {mg : Str → Option Value} {base : Heap} (E : Ev K mg) : Z.Pr g P w K mg base 3 (He.ma K (He.ga K "Node") "fire") d_Node_fire p_Node_fire (sp_Node_fire K) := by
  obtain ⟨fd, FD⟩ := E.fn 28 (d := d_Node_fire)
  refine ⟨fd, FD, Z.FunD.okG FD sc_Node_fire (fun vz H Q Ex h => ?_) (fun cdv A outer s H vz Q Ex hr hgd h => ?_)⟩
  · obtain ⟨_, _, _, _, _, _, _, _, _, rfl, _⟩ := h
    rfl
  · have hu := hr.units
    obtain ⟨a, p, v, l, b, m, nd, kp, rows, rfl, h1, h2, h3, h4, h5, h6, h7, k⟩ := h
    have F_Down_worked := ok_Down_worked (g := g) (P := P) (w := w) (base := base) E
    have F_Node_gives := ok_Node_gives (g := g) (P := P) (w := w) (base := base) E
    have F_Resample_gives := ok_Resample_gives (g := g) (P := P) (w := w) (base := base) E
    have F_Resample_worked := ok_Resample_worked (g := g) (P := P) (w := w) (base := base) E
    have F_Taps_worked := ok_Taps_worked (g := g) (P := P) (w := w) (base := base) E
    have F_Up_gives := ok_Up_gives (g := g) (P := P) (w := w) (base := base) E
    have F_Up_worked := ok_Up_worked (g := g) (P := P) (w := w) (base := base) E
    refine ⟨_, (Z.zs_cons (Z.z_asg (pv 1) (pg_tup (n := 2) (by rfl) (pgs_cons (pg_name (i := 3) sc_Node_fire.nd rfl (Or.inl rfl)) (pgs_cons (pg_name (i := 4) sc_Node_fire.nd rfl (Or.inl rfl)) pgs_nil))))
   (Z.zs_cons (Z.z_if (pt_cmpR op_gt (pv 3) pe_int (nomark _)) (Z.zs_one (Z.z_ret (pe_tup (pa_cons (pe_tup (pa_cons (pe_op op_sub (pv 3) pe_int) (pa_cons (pv 4) pa_nil))) (pa_cons (pe_op (Z.opMulK K rfl) (pe_lst (pa_cons pe_int pa_nil)) (Z.pe_M0K K rfl (Z.ms_cons (Z.mt_of (E.cls 29) (Z.fxM_ok (E.own 12)) F_Node_gives bd_Node_gives (hr.mono (by decide)) hgd) (Z.ms_cons (Z.mt_of (E.cls 28) (Z.fxM_ok (E.own 11)) F_Up_gives bd_Up_gives (hr.mono (by decide)) hgd) (Z.ms_cons (Z.mt_of (E.cls 27) (Z.fxM_ok (E.own 10)) F_Node_gives bd_Node_gives (hr.mono (by decide)) hgd) (Z.ms_cons (Z.mt_of (E.cls 26) (Z.fxM_ok (E.own 9)) F_Resample_gives bd_Resample_gives (hr.mono (by decide)) hgd) Z.ms_nil)))) (passL) (pv 0))) pa_nil))))) Z.zs_nil)
   (Z.zs_cons (Z.z_asg (Z.pe_MK K rfl (Z.ms_cons (Z.mt_of (E.cls 29) (Z.fxM_ok (E.own 8)) F_Taps_worked bd_Taps_worked (hr.mono (by decide)) hgd) (Z.ms_cons (Z.mt_of (E.cls 28) (Z.fxM_ok (E.own 7)) F_Up_worked bd_Up_worked (hr.mono (by decide)) hgd) (Z.ms_cons (Z.mt_of (E.cls 27) (Z.fxM_ok (E.own 6)) F_Down_worked bd_Down_worked (hr.mono (by decide)) hgd) (Z.ms_cons (Z.mt_of (E.cls 26) (Z.fxM_ok (E.own 5)) F_Resample_worked bd_Resample_worked (hr.mono (by decide)) hgd) Z.ms_nil)))) (passL) (pv 0) (pa_cons (pv 4) (pa_cons (pv 2) pa_nil))) (pg_tup (n := 2) (by rfl) (pgs_cons (pg_name (i := 5) sc_Node_fire.nd rfl (Or.inl rfl)) (pgs_cons (pg_name (i := 6) sc_Node_fire.nd rfl (Or.inl rfl)) pgs_nil))))
   (Z.zs_one (Z.z_ret (pe_tup (pa_cons (pe_tup (pa_cons pe_int (pa_cons (pv 5) pa_nil))) (pa_cons (pv 6) pa_nil)))))))), ?_⟩
    refine Z.i_start (σ := [some (.ref a), some (v), some (.ref p), none, none, none, none]) rfl ?_
    try dsimp only [Z.cxK]
    obtain ⟨r0', w0, rfl, hm, hk⟩ := h3
    k_call_by "za" 0
    refine Z.ite2' (fun hz => ?_) (fun hz => ?_)
    · k_call_by "za" 0
      rename_i t1 H1 n1 t2 H2 n2
      refine m_gives (h1.kept (.of (by k_call_by "fr" 0))) ?_
      k_call_by "za" 0
      rename_i q H3 n3 t3 H4 n4
      have e : nd.fire m kp rows = (m - 1, kp, List.replicate nd.gives 0) := by unfold Nd.fire; rw [if_neg (by omega)]
      rw [e] at k
      refine k _ _ _ _ (by k_call_by "fh" 0) (by k_call_by "fr" 0) n4.at (by rw [n4.get n3.at]; rfl) ⟨t1, w0, rfl, ?_, hk.kept (.of (by k_call_by "fr" 0))⟩
      rw [n4.get (n3.get (n2.get n1.at))]
      congr 4
      omega
    · k_call_by "za" 0
      refine m_worked rfl rfl h1 h2 hk h4 h5 h6 fun t w q H1 fq s1 et eq ek => ?_
      k_call_by "za" 0
      rename_i t1 H2 n2 t2 H3 n3
      have e : nd.fire m kp rows = (0, (nd.worked kp rows).1, (nd.worked kp rows).2) := by unfold Nd.fire; rw [if_pos (by omega)]
      rw [e] at k
      exact k _ _ _ _ fq (by k_call_by "fr" 0) n3.at (by k_call_by "hf" 0) ⟨t1, w, rfl, (by show H3 t1 = some (HO.tup [V.int 0, w]); exact n3.get n2.at), ek.kept (.of (by k_call_by "fr" 0))⟩
abbrev Ms_fresh (K : PySem.W.Frag) : List Z.MA := [⟨He.ga K "Taps", 1, fun _ vs _ => vs, sp_Node_fresh K⟩, ⟨He.ga K "Up", 1, fun _ vs _ => vs, sp_Node_fresh K⟩, ⟨He.ga K "Down", 1, fun _ vs _ => vs, sp_Node_fresh K⟩, ⟨He.ga K "Resample", 1, fun _ vs _ => vs, sp_Node_fresh K⟩]
abbrev Ms_fire (K : PySem.W.Frag) : List Z.MA := [⟨He.ga K "Taps", 3, fun _ vs _ => vs, sp_Node_fire K⟩, ⟨He.ga K "Up", 3, fun _ vs _ => vs, sp_Node_fire K⟩, ⟨He.ga K "Down", 3, fun _ vs _ => vs, sp_Node_fire K⟩, ⟨He.ga K "Resample", 3, fun _ vs _ => vs, sp_Node_fire K⟩]
theorem m_fresh {K : PySem.W.Frag} {E : XK} {σ : L2.St} {H : Hp} {Q : VK} {a : Addr} {l b : Nat} : ∀ {nd : Nd}, IsNd K H a l b nd → nd.wf → (∀ v H', Same H H' → IsMem H' v b nd.first → Q v H') → Z.zM1 K "fresh" 0 E (Ms_fresh K) tNil tNil (.ref a) σ H Q
  | .taps _, ⟨dx, s, h, g⟩, w, k => by refine Z.i_Mi 0 h rfl rfl ⟨rfl, rfl, ?_⟩; dsimp only; exact c_Node_fresh (nd := .taps _) ⟨dx, s, h, g⟩ w k
  | .up _ _, ⟨dx, h⟩, w, k => by refine Z.i_Mi 1 h rfl rfl ⟨rfl, rfl, ?_⟩; dsimp only; exact c_Node_fresh (nd := .up _ _) ⟨dx, h⟩ w k
  | .down _, ⟨dx, h⟩, w, k => by refine Z.i_Mi 2 h rfl rfl ⟨rfl, rfl, ?_⟩; dsimp only; exact c_Node_fresh (nd := .down _) ⟨dx, h⟩ w k
  | .resample _ _ _, ⟨dx, s, h, g⟩, w, k => by refine Z.i_Mi 3 h rfl rfl ⟨rfl, rfl, ?_⟩; dsimp only; exact c_Node_fresh (nd := .resample _ _ _) ⟨dx, s, h, g⟩ w k

theorem m_fire0 {K : PySem.W.Frag} {E : XK} {σ : L2.St} {H : Hp} {Q : VK} {a : Addr} {l b : Nat} {t : TA} : ∀ {nd : Nd}, IsNd K H a l b nd → (t σ H fun vs H2 => tNil σ H2 fun zs H3 => (V.ref a :: vs).length = 3 ∧ zs.length = 0 ∧ sp_Node_fire K (V.ref a :: vs) H3 Q E) → Z.zM1 K "fire" 0 E (Ms_fire K) t tNil (.ref a) σ H Q
  | .taps _, ⟨dx, s, h, g⟩, q => by refine Z.i_Mi 0 h rfl rfl ?_; dsimp only; exact q
  | .up _ _, ⟨dx, h⟩, q => by refine Z.i_Mi 1 h rfl rfl ?_; dsimp only; exact q
  | .down _, ⟨dx, h⟩, q => by refine Z.i_Mi 2 h rfl rfl ?_; dsimp only; exact q
  | .resample _ _ _, ⟨dx, s, h, g⟩, q => by refine Z.i_Mi 3 h rfl rfl ?_; dsimp only; exact q


/-! ### what the law reckons -/
theorem cg2 {α β γ : Type} (f : α → β → γ) {a b : α} {c d : β} (h : a = b) (g : c = d) : f a c = f b d := by rw [h, g]
theorem fm_congr {α β : Type} {f g : α → Option β} : ∀ {l : List α}, (∀ x ∈ l, f x = g x) → l.filterMap f = l.filterMap g
  | [], _ => rfl
  | x :: l, h => by rw [List.filterMap_cons, List.filterMap_cons, h x List.mem_cons_self, fm_congr fun y hy => h y (List.mem_cons_of_mem _ hy)]
theorem zip_take {ns l : List Int} : ns.zip (l.take ns.length) = ns.zip l := by
  induction ns generalizing l with
  | nil => rfl
  | cons n ns ih =>
    cases l with
    | nil => rfl
    | cons a l => rw [List.length_cons, List.take_succ_cons, List.zip_cons_cons, ih, List.zip_cons_cons]
theorem tapped_zeros (ns l : List Int) (m : Nat) : tapped ns (l ++ List.replicate m 0) = tapped ns l := by
  unfold tapped
  induction ns generalizing l with
  | nil => rfl
  | cons n ns ih =>
    cases l with
    | nil =>
      cases m with
      | zero => rfl
      | succ m =>
        have e := ih []
        rw [List.nil_append] at e
        rw [List.nil_append, List.replicate_succ, List.zip_cons_cons, List.map_cons, List.sum_cons]
        have e2 : ((ns.zip (List.replicate m 0)).map fun p : Int × Int => p.1 * p.2).sum = 0 := by
          clear ih e
          induction ns generalizing m with
          | nil => rfl
          | cons a ns ih2 =>
            cases m with
            | zero => rfl
            | succ m => rw [List.replicate_succ, List.zip_cons_cons, List.map_cons, List.sum_cons, ih2 m]; simp
        rw [e2]; simp
    | cons a l => rw [List.cons_append, List.zip_cons_cons, List.map_cons, List.sum_cons, ih l, List.zip_cons_cons, List.map_cons, List.sum_cons]
theorem tapped_snoc (ns l : List Int) (n : Int) {i : Nat} (h : ns.length = i) : tapped (ns ++ [n]) l = tapped ns l + match l[i]? with
  | some s => n * s
  | none => 0 := by
  subst h
  unfold tapped
  induction ns generalizing l with
  | nil =>
    cases l with
    | nil => rfl
    | cons a l => simp
  | cons m ns ih =>
    cases l with
    | nil => simp
    | cons a l =>
      rw [List.cons_append, List.zip_cons_cons, List.map_cons, List.sum_cons, ih l, List.zip_cons_cons, List.map_cons, List.sum_cons, List.length_cons, List.getElem?_cons_succ, Int.add_assoc]
/-- the last samples, newest first -/
def keepOf (ns U : List Int) : List Int := (U.reverse ++ List.replicate (ns.length - 1) 0).take (ns.length - 1)
/-- what taps give at place i of the row -/
def tapAt (ns U : List Int) (i : Nat) : Int := tapped ns ((U.take (i + 1)).reverse)
theorem rstep_keep {ns U out : List Int} {z : Int} (h : 1 ≤ ns.length) : rstep ns (keepOf ns U, out) z = (keepOf ns (U ++ [z]), out ++ [tapped ns ((U ++ [z]).reverse)]) := by
  obtain ⟨m, hm⟩ : ∃ m, ns.length = m + 1 := ⟨ns.length - 1, by omega⟩
  have e : z :: (U.reverse ++ List.replicate (ns.length - 1) 0).take (ns.length - 1) = ((U ++ [z]).reverse ++ List.replicate (ns.length - 1) 0).take ns.length := by
    rw [hm, Nat.add_sub_cancel, List.reverse_append, List.reverse_singleton, List.singleton_append, List.cons_append, List.take_succ_cons]
  unfold rstep keepOf
  show ((z :: _).take _, out ++ [tapped ns (z :: _)]) = _
  rw [e]
  congr 1
  · rw [List.take_take, Nat.min_eq_left (by omega)]
  · congr 2
    unfold tapped
    rw [zip_take]
    exact tapped_zeros _ _ _
theorem scan {ns : List Int} (h : 1 ≤ ns.length) (zs : List Int) : ∀ (U out : List Int), zs.foldl (rstep ns) (keepOf ns U, out) = (keepOf ns (U ++ zs), out ++ (List.range zs.length).map fun j => tapAt ns (U ++ zs) (U.length + j)) := by
  induction zs with
  | nil => intro U out; simp
  | cons z zs ih =>
    intro U out
    rw [List.foldl_cons, rstep_keep h, ih, List.append_assoc, List.append_assoc, List.length_cons, List.range_succ_eq_map, List.map_cons, List.map_map]
    refine cg2 Prod.mk rfl (congrArg (out ++ ·) ?_)
    rw [List.singleton_append, List.singleton_append]
    refine cg2 List.cons ?_ (List.map_congr_left fun j _ => ?_)
    · unfold tapAt
      have : (U ++ z :: zs).take (U.length + 0 + 1) = U ++ [z] := by
        rw [Nat.add_zero, List.take_append, List.take_of_length_le (by omega)]; simp
      rw [this]
    · show tapAt ns _ ((U ++ [z]).length + j) = tapAt ns _ (U.length + (j + 1))
      rw [List.length_append, List.length_singleton, show U.length + 1 + j = U.length + (j + 1) by omega]
theorem upped_append (up : Nat) (xs ys : List Int) : upped up (xs ++ ys) = upped up xs ++ upped up ys := by
  unfold upped
  rw [List.map_append, List.flatten_append]
theorem upped_length {up : Nat} (h : 1 ≤ up) (xs : List Int) : (upped up xs).length = xs.length * up := by
  induction xs with
  | nil => simp [upped]
  | cons x xs ih =>
    have e : upped up (x :: xs) = (x :: List.replicate (up - 1) 0) ++ upped up xs := by simp [upped]
    rw [e, List.length_append, ih, List.length_cons, List.length_replicate, List.length_cons, Nat.add_mul]; omega
/-- the sample at a place of the row -/
def smp (S : List Int) (up : Nat) (x : Int) : Int := if x < 0 ∨ x % (up : Nat) > 0 then 0 else S.getD (x / (up : Nat)).toNat 0
theorem upped_at {up : Nat} (h : 1 ≤ up) (xs : List Int) : ∀ {i : Nat}, i < xs.length * up → (upped up xs)[i]? = some (smp xs up (i : Nat)) := by
  induction xs with
  | nil => intro i hi; simp at hi
  | cons x xs ih =>
    intro i hi
    have e : upped up (x :: xs) = (x :: List.replicate (up - 1) 0) ++ upped up xs := by simp [upped]
    have l : (x :: List.replicate (up - 1) 0).length = up := by simp; omega
    rw [List.length_cons, Nat.add_mul, Nat.one_mul] at hi
    rw [e]
    by_cases c : i < up
    · rw [List.getElem?_append_left (by omega)]
      unfold smp
      have m : ((i : Nat) : Int) % (up : Nat) = (i : Nat) := Int.emod_eq_of_lt (by omega) (by omega)
      rw [m]
      cases i with
      | zero =>
        rw [if_neg (by omega)]; simp
      | succ i =>
        rw [if_pos (by omega), List.getElem?_cons_succ, List.getElem?_replicate, if_pos (by omega)]
    · rw [List.getElem?_append_right (by omega), l, ih (by omega)]
      unfold smp
      have m : (((i - up : Nat) : Nat) : Int) % (up : Nat) = (i : Nat) % (up : Nat) := by
        rw [show ((i - up : Nat) : Int) = (i : Int) - (up : Nat) by omega, Int.sub_emod_right]
      have d : ((i : Int) / (up : Nat)).toNat = ((((i - up : Nat) : Nat) : Int) / (up : Nat)).toNat + 1 := by
        rw [show (i : Int) = ((i - up : Nat) : Int) + (up : Nat) * 1 by omega, Int.add_mul_ediv_left _ _ (by omega)]
        have := Int.ediv_nonneg (a := ((i - up : Nat) : Int)) (b := (up : Nat)) (by omega) (by omega)
        omega
      rw [m, d, List.getD_cons_succ]
      by_cases q : ((i : Nat) : Int) % (up : Nat) > 0
      · rw [if_pos (Or.inr q), if_pos (Or.inr q)]
      · rw [if_neg (by omega), if_neg (by omega)]
/-- the newest sample first -/
theorem rev_at {U : List Int} {m k : Nat} (hm : m < U.length) : ((U.take (m + 1)).reverse)[k]? = if k ≤ m then U[m - k]? else none := by
  have l : (U.take (m + 1)).length = m + 1 := by rw [List.length_take]; omega
  by_cases h : k ≤ m
  · rw [if_pos h, List.getElem?_reverse (by omega), l, show m + 1 - 1 - k = m - k by omega, List.getElem?_take, if_pos (by omega)]
  · rw [if_neg h]; exact List.getElem?_eq_none (by rw [List.length_reverse]; omega)
theorem smp_neg {S : List Int} {up : Nat} {x : Int} (h : x < 0) : smp S up x = 0 := if_pos (Or.inl h)
/-- one number more of the taps -/
theorem tap_step {ns S : List Int} {up i m : Nat} {n : Int} (hu : 1 ≤ up) (hn : ns[i]? = some n) (hm : m < S.length * up) :
    tapped (ns.take (i + 1)) (((upped up S).take (m + 1)).reverse) = tapped (ns.take i) (((upped up S).take (m + 1)).reverse) + n * smp S up ((m : Nat) - (i : Nat)) := by
  have il := (List.getElem?_eq_some_iff.mp hn).1
  rw [take_snoc hn, tapped_snoc _ _ _ (i := i) (by rw [List.length_take]; omega), rev_at (by rw [upped_length hu]; omega)]
  by_cases h : i ≤ m
  · rw [if_pos h, upped_at hu S (by omega)]
    show _ + n * _ = _
    rw [show ((m - i : Nat) : Int) = (m : Nat) - (i : Nat) by omega]
  · rw [if_neg h, smp_neg (by omega)]; simp
theorem smp_num {S : List Int} {up : Nat} {x : Int} (h : ∀ n ∈ S, Num n) : Num (smp S up x) := by
  unfold smp
  split
  · exact num_of (by constructor <;> decide)
  · rw [List.getD_eq_getElem?_getD]
    cases e : S[(x / (up : Nat)).toNat]? with
    | none => exact num_of (by constructor <;> decide)
    | some y => exact h y (List.mem_of_getElem? e)
/-- what is due at a firing -/
def dueOf (up down : Nat) (ns S : List Int) (f : Nat) : List Int := (List.range up).map fun j => tapAt ns (upped up S) ((f * up + j) * down)
theorem stepped_eq {d n : Nat} (hd : 1 ≤ d) {zs : List Int} (h : zs.length = n * d) : Z.stepped d zs = (List.range n).map fun j => zs.getD (j * d) 0 := by
  have q : (zs.length + d - 1) / d = n := by
    rw [h, show n * d + d - 1 = d - 1 + d * n by rw [Nat.mul_comm]; omega, Nat.add_mul_div_left _ _ (by omega), Nat.div_eq_of_lt (by omega)]; omega
  unfold Z.stepped Z.gP
  rw [q, List.filterMap_map]
  have : ∀ j ∈ List.range n, ((fun i => zs[i]?) ∘ fun i => d * i) j = some (zs.getD (j * d) 0) := fun j hj => by
    have hj := List.mem_range.mp hj
    have l : j * d < zs.length := by
      rw [h]
      exact Nat.mul_lt_mul_of_pos_right hj (by omega)
    show zs[d * j]? = _
    rw [Nat.mul_comm d j, List.getD_eq_getElem?_getD, List.getElem?_eq_getElem l]; rfl
  rw [← List.filterMap_eq_map]
  exact fm_congr this
theorem due_eq {up down f : Nat} {ns S row : List Int} (hn : 1 ≤ ns.length) (hu : 1 ≤ up) (hd : 1 ≤ down) (hS : S.length = f * down) (hr : row.length = down) :
    (upped up row).foldl (rstep ns) (keepOf ns (upped up S), []) = (keepOf ns (upped up (S ++ row)), ((upped up row).foldl (rstep ns) (keepOf ns (upped up S), [])).2) ∧
    Z.stepped down ((upped up row).foldl (rstep ns) (keepOf ns (upped up S), [])).2 = dueOf up down ns (S ++ row) f := by
  rw [scan hn, ← upped_append]
  refine ⟨rfl, ?_⟩
  show Z.stepped down ([] ++ _) = _
  rw [List.nil_append, stepped_eq (n := up) hd (by rw [List.length_map, List.length_range, upped_length hu, hr, Nat.mul_comm])]
  unfold dueOf
  refine List.map_congr_left fun j hj => ?_
  have hj := List.mem_range.mp hj
  have l : j * down < (upped up row).length := by
    rw [upped_length hu, hr, Nat.mul_comm down up]
    exact Nat.mul_lt_mul_of_pos_right hj (by omega)
  rw [List.getD_eq_getElem?_getD, List.getElem?_map, List.getElem?_range l]
  show tapAt _ _ _ = tapAt _ _ _
  rw [upped_length hu, hS, Nat.add_mul, Nat.mul_assoc, Nat.mul_comm down up, ← Nat.mul_assoc]

def sp_l_numbers (K : PySem.W.Frag) : Sp := fun vz H Q Ex => ∃ (a : Addr) (m : Nat), vz = [.ref a, .int (m : Nat)] ∧ (Pot H a) ∧ (1 ≤ m) ∧ (m ≤ 1000) ∧ (∀ (p : Addr) (ns : List Int) (H' : Hp), H p = none → H' p = some (.lst (ns.map V.int)) → (∀ n ∈ ns, Num n) → 1 ≤ ns.length → ns.length ≤ m → Pot H' a → Z.But a H H' → Q (.ref p) H')
theorem c_l_numbers {K : PySem.W.Frag} {H : Hp} {Q : VK} {Ex : XK} {a : Addr} {m : Nat} (h1 : Pot H a) (h2 : 1 ≤ m) (h3 : m ≤ 1000) (k : ∀ (p : Addr) (ns : List Int) (H' : Hp), H p = none → H' p = some (.lst (ns.map V.int)) → (∀ n ∈ ns, Num n) → 1 ≤ ns.length → ns.length ≤ m → Pot H' a → Z.But a H H' → Q (.ref p) H') : sp_l_numbers K [.ref a, .int (m : Nat)] H Q Ex := ⟨a, m, rfl, h1, h2, h3, k⟩
theorem ok_l_numbers {g : Prop} {P : Program} {w : World} {K : PySem.W.Frag} {mg : Str → Option Value} {base : Heap} (E : Ev K mg) : Z.Pr g P w K mg base 3 (He.ga K "_law_numbers") d_l_numbers p_l_numbers (sp_l_numbers K) := by
  obtain ⟨fd, FD⟩ := E.fn 29 (d := d_l_numbers)
  refine ⟨fd, FD, Z.FunD.okG FD sc_l_numbers (fun vz H Q Ex h => ?_) (fun cdv A outer s H vz Q Ex hr hgd h => ?_)⟩
  · obtain ⟨_, _, rfl, _⟩ := h
    rfl
  · have hu := hr.units
    obtain ⟨a, m, rfl, h1, h2, h3, k⟩ := h
    have F_l_draw := ok_l_draw (g := g) (P := P) (w := w) (base := base) E
    have F_l_number := ok_l_number (g := g) (P := P) (w := w) (base := base) E
    refine ⟨_, (Z.zs_one (Z.z_ret (pe_lc (own := [("_law_k", 2)]) (g := gName 2) rfl sc_l_numbers.nd (pi_range1 (by rfl) (E.free 7) (pa_cons (pe_op (Z.opAddK K rfl) pe_int (Z.pe_f F_l_draw (hr.mono (by decide)) hgd (by rfl) (E.glo 6) bd_l_draw (passL) (pa_cons (pv 0) (pa_cons (pv 1) pa_nil)))) pa_nil)) (blkOk_by (own := [("_law_k", 2)]) (N := n_l_numbers) (sc := (defScope s_l_numbers)) (by decide +kernel)) (fun _ _ _ _ _ => (pg_name (i := 2) sc_l_numbers.nd rfl (Or.inl rfl))) (fun _ _ _ _ _ => pts_nil) (fun _ _ _ _ _ => (Z.pe_f F_l_number (hr.mono (by decide)) hgd (by rfl) (E.glo 30) bd_l_number (passL) (pa_cons (pv 0) pa_nil)))))), ?_⟩
    refine Z.i_start (σ := [some (.ref a), some (.int (m : Nat)), none]) rfl ?_
    try dsimp only [Z.cxK]
    k_call_by "za" 0
    refine c_l_draw h1 (by omega) (Nat.lt_of_le_of_lt (m := 1000) (by omega) (by decide)) fun r H1 r0 r1 p1 b1 => ?_
    k_call_by "za" 0
    refine Z.i_rng1L (1 + r).toNat (by omega) (by omega) ?_
    refine Z.comp_range0 (fun i acc Hc => ∃ ns : List Int, acc = ns.map V.int ∧ (∀ n ∈ ns, Num n) ∧ ns.length = i ∧ Pot Hc a ∧ Z.But a H1 Hc) ?_ ?_ ?_
    · intro Dc Hc nc
      exact ⟨[], rfl, (fun n z => by cases z), rfl, p1.mono nc.same, .ofSame nc.same⟩
    · rintro Dc ic acc Hc fDc hic hDc ⟨nsc, rfl, hnc, hlc, pc, bc⟩
      have nec := p1.ne fDc
      k_call_by "za" 0
      refine c_l_number pc fun qc Hd q0c pd bd => ?_
      have hDd := bd.get nec hDc
      refine Z.i_end hDd (by rw [List.length_map, sizeLine_eq]; omega) fun He ue => ⟨nsc ++ [qc], by rw [List.map_append]; rfl, ?_, by rw [List.length_append, hlc]; rfl, pd.up ue nec.symm, Z.fb_upn ue (bc.trans bd) fDc⟩
      intro n hn
      rcases List.mem_append.mp hn with z | z
      · exact hnc n z
      · rw [List.mem_singleton.mp z]; exact q0c
    rintro rD _ H8 frD hrD ⟨row, rfl, rnum, rlen, p8, b8⟩
    exact k rD _ _ (b1.free frD (p1.ne frD)) hrD rnum (by omega) (by omega) p8 (b1.trans b8)
def sp_l_sample (K : PySem.W.Frag) : Sp := fun vz H Q Ex => ∃ (p : Addr) (S : List Int) (up : Nat) (x : Int), vz = [.ref p, .int (up : Nat), .int x] ∧ (H p = some (.lst (S.map V.int))) ∧ (1 ≤ up) ∧ (up ≤ 8) ∧ (x < ((S.length * up : Nat) : Int)) ∧ (Q (.int (smp S up x)) H)
theorem c_l_sample {K : PySem.W.Frag} {H : Hp} {Q : VK} {Ex : XK} {p : Addr} {S : List Int} {up : Nat} {x : Int} (h1 : H p = some (.lst (S.map V.int))) (h2 : 1 ≤ up) (h3 : up ≤ 8) (h4 : x < ((S.length * up : Nat) : Int)) (k : Q (.int (smp S up x)) H) : sp_l_sample K [.ref p, .int (up : Nat), .int x] H Q Ex := ⟨p, S, up, x, rfl, h1, h2, h3, h4, k⟩
theorem ok_l_sample {g : Prop} {P : Program} {w : World} {K : PySem.W.Frag} {mg : Str → Option Value} {base : Heap} (E : Ev K mg) : Z.Pr g P w K mg base 1 (He.ga K "_law_sample") d_l_sample p_l_sample (sp_l_sample K) := by
  obtain ⟨fd, FD⟩ := E.fn 30 (d := d_l_sample)
  refine ⟨fd, FD, Z.FunD.okG FD sc_l_sample (fun vz H Q Ex h => ?_) (fun cdv A outer s H vz Q Ex hr hgd h => ?_)⟩
  · obtain ⟨_, _, _, _, rfl, _⟩ := h
    rfl
  · have hu := hr.units
    obtain ⟨p, S, up, x, rfl, h1, h2, h3, h4, k⟩ := h
    refine ⟨_, (Z.zs_cons (Z.z_if (PW.pt (pw_or (pt_cmpR op_lt (pv 2) pe_int (nomark _)) (pw_or1 (pt_cmpR op_gt (pe_op op_mod (pv 2) (pv 1)) pe_int (nomark _))))) (Z.zs_one (Z.z_ret pe_int)) Z.zs_nil)
   (Z.zs_one (Z.z_ret (pe_ix (Z.ixUK K rfl) (pv 0) (pe_op op_fdivW (pv 2) (pv 1)) (fun _ _ => rfl))))), ?_⟩
    refine Z.i_start (σ := [some (.ref p), some (.int (up : Nat)), some (.int x)]) rfl ?_
    try dsimp only [Z.cxK]
    k_call_by "za" 0
    refine Z.ite2' (fun hz => ?_) (fun hz => ?_)
    · k_call_by "za" 0
      rw [show smp S up x = 0 from if_pos (Or.inl hz)] at k
      exact k
    · k_call_by "za" 0
      refine Z.ite2' (fun hy => ?_) (fun hy => ?_)
      · k_call_by "za" 0
        rw [show smp S up x = 0 from if_pos (Or.inr hy)] at k
        exact k
      · k_call_by "za" 0
        rw [show smp S up x = S.getD (x / (up : Nat)).toNat 0 from if_neg (by omega)] at k
        refine Z.i_I (divW (by omega) (Nat.lt_of_le_of_lt (m := 1000) (by omega) (by decide))) ?_
        k_call_by "za" 0
        have e0 : 0 ≤ x / (up : Nat) := Int.ediv_nonneg (by omega) (by omega)
        have e1 : x / (up : Nat) < (S.length : Nat) := Int.ediv_lt_of_lt_mul (by omega) (by rw [← Int.natCast_mul]; exact h4)
        obtain ⟨i, hi⟩ : ∃ i : Nat, x / (up : Nat) = (i : Nat) := ⟨(x / (up : Nat)).toNat, by omega⟩
        rw [hi] at k ⊢
        rw [hi] at e1
        rw [Int.toNat_natCast, List.getD_eq_getElem?_getD, List.getElem?_eq_getElem (by omega)] at k
        refine Z.i_ixL h1 (atI_nat (by rw [List.getElem?_map, List.getElem?_eq_getElem (by omega)]; rfl)) ?_
        exact k
def sp_l_given (K : PySem.W.Frag) : Sp := fun vz H Q Ex => ∃ (p q : Addr) (S ns : List Int) (up down f : Nat), vz = [.ref p, .int (up : Nat), .int (down : Nat), .ref q, .int (f : Nat)] ∧ (H p = some (.lst (S.map V.int))) ∧ (H q = some (.lst (ns.map V.int))) ∧ (1 ≤ up) ∧ (up ≤ 8) ∧ (1 ≤ down) ∧ (down ≤ 8) ∧ (S.length = f * down + down) ∧ (f ≤ 1000) ∧ (ns.length ≤ 1000) ∧ (∀ n ∈ ns, Num n) ∧ (∀ n ∈ S, Num n) ∧ (∀ r H', H r = none → Same H H' → H' r = some (.lst ((dueOf up down ns S f).map V.int)) → Q (.ref r) H')
theorem c_l_given {K : PySem.W.Frag} {H : Hp} {Q : VK} {Ex : XK} {p q : Addr} {S ns : List Int} {up down f : Nat} (h1 : H p = some (.lst (S.map V.int))) (h2 : H q = some (.lst (ns.map V.int))) (h3 : 1 ≤ up) (h4 : up ≤ 8) (h5 : 1 ≤ down) (h6 : down ≤ 8) (h7 : S.length = f * down + down) (h8 : f ≤ 1000) (h9 : ns.length ≤ 1000) (h10 : ∀ n ∈ ns, Num n) (h11 : ∀ n ∈ S, Num n) (k : ∀ r H', H r = none → Same H H' → H' r = some (.lst ((dueOf up down ns S f).map V.int)) → Q (.ref r) H') : sp_l_given K [.ref p, .int (up : Nat), .int (down : Nat), .ref q, .int (f : Nat)] H Q Ex := ⟨p, q, S, ns, up, down, f, rfl, h1, h2, h3, h4, h5, h6, h7, h8, h9, h10, h11, k⟩
theorem ok_l_given {g : Prop} {P : Program} {w : World} {K : PySem.W.Frag} {mg : Str → Option Value} {base : Heap} (E : Ev K mg) : Z.Pr g P w K mg base 2 (He.ga K "_law_given") d_l_given p_l_given (sp_l_given K) := by
  obtain ⟨fd, FD⟩ := E.fn 31 (d := d_l_given)
  refine ⟨fd, FD, Z.FunD.okG FD sc_l_given (fun vz H Q Ex h => ?_) (fun cdv A outer s H vz Q Ex hr hgd h => ?_)⟩
  · obtain ⟨_, _, _, _, _, _, _, rfl, _⟩ := h
    rfl
  · have hu := hr.units
    obtain ⟨p, q, S, ns, up, down, f, rfl, h1, h2, h3, h4, h5, h6, h7, h8, h9, h10, h11, k⟩ := h
    have F_l_sample := ok_l_sample (g := g) (P := P) (w := w) (base := base) E
    refine ⟨_, (Z.zs_cons (Z.z_set (i := 5) sc_l_given.nd rfl (Or.inl rfl) (pe_lst pa_nil))
   (Z.zs_cons (Z.z_for (passes_of rfl) rfl (pi_range2 (by rfl) (E.free 7) (pa_cons (pe_op (Z.opMulK K rfl) (pv 4) (pv 1)) (pa_cons (pe_op (Z.opAddK K rfl) (pe_op (Z.opMulK K rfl) (pv 4) (pv 1)) (pv 1)) pa_nil))) (pg_name (i := 6) sc_l_given.nd rfl (Or.inr rfl))
   (Z.zs_cons (Z.z_setLc (i := 7) (own := [("_law_k", 8)]) (g := gName 8) rfl sc_l_given.nd rfl rfl (sw_true rfl rfl rfl (by decide +kernel)) (pi_range1 (by rfl) (E.free 7) (pa_cons (pe_callB (Z.clenK K rfl) (by rfl) (E.free 4) (by decide +kernel) (pa_cons (pv 3) pa_nil)) pa_nil)) (blkOk_by (own := [("_law_k", 8)]) (N := n_l_given) (sc := (defScope s_l_given)) (by decide +kernel)) (fun _ _ _ _ _ => (pg_name (i := 8) sc_l_given.nd rfl (Or.inl rfl))) (fun _ _ _ _ _ => pts_nil) (fun _ _ _ _ _ => (pe_op (Z.opMulK K rfl) (pe_ix (Z.ixUK K rfl) (pv 3) (pv 8) (fun _ _ => rfl)) (Z.pe_f F_l_sample (hr.mono (by decide)) hgd (by rfl) (E.glo 31) bd_l_sample (passL) (pa_cons (pv 0) (pa_cons (pv 1) (pa_cons (pe_op op_sub (pe_op (Z.opMulK K rfl) (pv 6) (pv 2)) (pv 8)) pa_nil)))))))
   (Z.zs_one (Z.z_expr (pe_bm PySem.F.plainAttrs_list PySem.F.slot_list_append PySem.F.type_list_append mt_append (pv 5) (pa_cons (pe_callB (Z.csumK K rfl rfl) (by rfl) (E.free 18) (by decide +kernel) (pa_cons (pv 7) pa_nil)) pa_nil))))))
   (Z.zs_one (Z.z_ret (pv 5))))), ?_⟩
    refine Z.i_start (σ := [some (.ref p), some (.int (up : Nat)), some (.int (down : Nat)), some (.ref q), some (.int (f : Nat)), none, none, none, none]) rfl ?_
    try dsimp only [Z.cxK]
    k_call_by "za" 0
    rename_i G H1 n1
    have fu : f * up ≤ 1000 * 8 := Nat.mul_le_mul h8 h4
    refine Z.i_rng2I (by rw [← Int.natCast_mul]; omega) ?_
    rw [show ((f : Int) * (up : Int) + (up : Int) - (f : Int) * (up : Int)).toNat = up by omega]
    refine Z.loop_range (fun j σ H' => (∃ x6 x7 x8, σ = [some (.ref p), some (.int (up : Nat)), some (.int (down : Nat)), some (.ref q), some (.int (f : Nat)), some (.ref G), x6, x7, x8]) ∧ H' G = some (.lst (((List.range j).map fun j => tapAt ns (upped up S) ((f * up + j) * down)).map V.int)) ∧ Z.But G H1 H') ?_ ?_ ?_
    · exact ⟨⟨_, _, _, rfl⟩, n1.at, .refl⟩
    · rintro j σ H' hj ⟨⟨x6, x7, x8, rfl⟩, hG, b⟩
      have pG : p ≠ G := n1.ne h1
      have qG : q ≠ G := n1.ne h2
      have mS : (f * up + j) * down < S.length * up := by
        have e : S.length * up = (f * up + up) * down := by
          rw [h7, Nat.add_mul, Nat.add_mul, Nat.mul_assoc, Nat.mul_comm down up, ← Nat.mul_assoc]
        rw [e]
        exact Nat.mul_lt_mul_of_pos_right (by omega) (by omega)
      have mb : (f * up + j) * down ≤ 8008 * 8 := Nat.mul_le_mul (by omega) h6
      obtain ⟨m, em⟩ : ∃ m, m = (f * up + j) * down := ⟨_, rfl⟩
      rw [← em] at mS mb
      have emI : ((f : Int) * (up : Int) + (j : Int)) * (down : Int) = (m : Nat) := by rw [em]; simp
      k_call_by "za" 0
      refine Z.comp_range0 (fun i acc Hc => (∃ ms : List Int, acc = ms.map V.int ∧ ms.sum = tapped (ns.take i) (((upped up S).take (m + 1)).reverse) ∧ ms.length = i) ∧ Same H' Hc) ?_ ?_ ?_
      · intro D Hc n
        exact ⟨⟨[], rfl, by simp [tapped], rfl⟩, n.same⟩
      · rintro D i acc Hc fD hi hD ⟨⟨ms, rfl, es, el⟩, s⟩
        obtain ⟨z, hz⟩ : ∃ z, ns[i]? = some z := ⟨ns[i]'hi, by simp⟩
        have hp' : Hc p = some (.lst (S.map V.int)) := s _ _ (b.get pG (n1.get h1))
        have hq' : Hc q = some (.lst (ns.map V.int)) := s _ _ (b.get qG (n1.get h2))
        k_call_by "za" 0
        refine Z.i_ixL (v := .int z) hq' (atI_nat (by rw [List.getElem?_map, hz]; rfl)) ?_
        k_call_by "za" 0
        rw [emI]
        refine c_l_sample hp' h3 h4 (by omega) ?_
        refine Z.i_mulI (num_mul (h10 z (List.mem_of_getElem? hz)) (smp_num h11)) ?_
        refine Z.i_end hD (by rw [List.length_map, sizeLine_eq]; omega) fun H6 u => ⟨⟨ms ++ [z * smp S up ((m : Nat) - (i : Nat))], by rw [List.map_append]; rfl, ?_, by rw [List.length_append, el]; rfl⟩, by k_call_by "fr" 0⟩
        rw [List.sum_append, es, tap_step h3 hz mS]; simp
      rintro D acc H2 fD hD ⟨⟨ms, rfl, es, el⟩, s⟩
      k_call_by "za" 0
      have hG2 := s _ _ hG
      refine Z.i_append hG2 (by simp only [List.length_map, List.length_range, sizeLine_eq]; omega) fun H3 u3 => ?_
      refine ⟨⟨_, _, _, by rw [← Int.natCast_mul]; rfl⟩, ?_, by k_call_by "fr" 0⟩
      rw [u3.at, List.range_succ, List.map_append, List.map_append, es, List.take_length, em]; rfl
    · rintro σ H' ⟨⟨x6, x7, x8, rfl⟩, hG, b⟩
      k_call_by "za" 0
      exact k _ _ (by k_call_by "fh" 0) (by k_call_by "fr" 0) hG

/-- fired in pieces -/
def frs (nd : Nd) (wd : Nat) (xs : List Int) (kp : Kp) : Nat → Kp × List Int
  | 0 => (kp, [])
  | i + 1 => ((nd.worked (frs nd wd xs kp i).1 [(xs.drop (i * wd)).take wd]).1, (frs nd wd xs kp i).2 ++ (nd.worked (frs nd wd xs kp i).1 [(xs.drop (i * wd)).take wd]).2)

def sp_l_fired (K : PySem.W.Frag) : Sp := fun vz H Q Ex => ∃ (nd p : Addr) (d : Nd) (kp : Kp) (xs : List Int) (wd n : Nat) (m0 : V), vz = [.ref nd, m0, .ref p] ∧ (IsNd K H nd 0 0 d) ∧ (d.wf) ∧ (d.takes = [wd]) ∧ (1 ≤ wd) ∧ (wd ≤ 1000) ∧ (d.gives ≤ 8) ∧ (IsMem H m0 0 kp) ∧ (H p = some (.lst (xs.map V.int))) ∧ (xs.length = n * wd) ∧ (n ≤ 1000) ∧ (∀ x ∈ xs, d.num x) ∧ (∀ i, i < n → KpOk d (frs d wd xs kp i).1 ∧ (frs d wd xs kp (i + 1)).2.length ≤ 1000) ∧ (∀ t m1 r H', H r = none → Same H H' → H' t = some (.tup [m1, .ref r]) → IsMem H' m1 0 (frs d wd xs kp n).1 → H' r = some (.lst ((frs d wd xs kp n).2.map V.int)) → Q (.ref t) H')
theorem c_l_fired {K : PySem.W.Frag} {H : Hp} {Q : VK} {Ex : XK} {nd p : Addr} {d : Nd} {kp : Kp} {xs : List Int} {wd n : Nat} {m0 : V} (h1 : IsNd K H nd 0 0 d) (h2 : d.wf) (h3 : d.takes = [wd]) (h4 : 1 ≤ wd) (h5 : wd ≤ 1000) (h6 : d.gives ≤ 8) (h7 : IsMem H m0 0 kp) (h8 : H p = some (.lst (xs.map V.int))) (h9 : xs.length = n * wd) (h10 : n ≤ 1000) (h11 : ∀ x ∈ xs, d.num x) (h12 : ∀ i, i < n → KpOk d (frs d wd xs kp i).1 ∧ (frs d wd xs kp (i + 1)).2.length ≤ 1000) (k : ∀ t m1 r H', H r = none → Same H H' → H' t = some (.tup [m1, .ref r]) → IsMem H' m1 0 (frs d wd xs kp n).1 → H' r = some (.lst ((frs d wd xs kp n).2.map V.int)) → Q (.ref t) H') : sp_l_fired K [.ref nd, m0, .ref p] H Q Ex := ⟨nd, p, d, kp, xs, wd, n, m0, rfl, h1, h2, h3, h4, h5, h6, h7, h8, h9, h10, h11, h12, k⟩
theorem ok_l_fired {g : Prop} {P : Program} {w : World} {K : PySem.W.Frag} {mg : Str → Option Value} {base : Heap} (E : Ev K mg) : Z.Pr g P w K mg base 4 (He.ga K "_law_fired") d_l_fired p_l_fired (sp_l_fired K) := by
  obtain ⟨fd, FD⟩ := E.fn 32 (d := d_l_fired)
  refine ⟨fd, FD, Z.FunD.okG FD sc_l_fired (fun vz H Q Ex h => ?_) (fun cdv A outer s H vz Q Ex hr hgd h => ?_)⟩
  · obtain ⟨_, _, _, _, _, _, _, _, rfl, _⟩ := h
    rfl
  · have hu := hr.units
    obtain ⟨nd, p, d, kp, xs, wd, n, m0, rfl, h1, h2, h3, h4, h5, h6, h7, h8, h9, h10, h11, h12, k⟩ := h
    have F_Down_takes := ok_Down_takes (g := g) (P := P) (w := w) (base := base) E
    have F_Node_fire := ok_Node_fire (g := g) (P := P) (w := w) (base := base) E
    have F_Node_takes := ok_Node_takes (g := g) (P := P) (w := w) (base := base) E
    have F_Resample_takes := ok_Resample_takes (g := g) (P := P) (w := w) (base := base) E
    refine ⟨_, (Z.zs_cons (Z.z_set (i := 3) sc_l_fired.nd rfl (Or.inl rfl) (pe_lst pa_nil))
   (Z.zs_cons (Z.z_for (passes_of rfl) rfl (pi_range3 (by rfl) (E.free 7) (pa_cons pe_int (pa_cons (pe_callB (Z.clenK K rfl) (by rfl) (E.free 4) (by decide +kernel) (pa_cons (pv 2) pa_nil)) (pa_cons (pe_ix (Z.ixUK K rfl) (Z.pe_M0K K rfl (Z.ms_cons (Z.mt_of (E.cls 29) (Z.fxM_ok (E.own 16)) F_Node_takes bd_Node_takes (hr.mono (by decide)) hgd) (Z.ms_cons (Z.mt_of (E.cls 28) (Z.fxM_ok (E.own 15)) F_Node_takes bd_Node_takes (hr.mono (by decide)) hgd) (Z.ms_cons (Z.mt_of (E.cls 27) (Z.fxM_ok (E.own 14)) F_Down_takes bd_Down_takes (hr.mono (by decide)) hgd) (Z.ms_cons (Z.mt_of (E.cls 26) (Z.fxM_ok (E.own 13)) F_Resample_takes bd_Resample_takes (hr.mono (by decide)) hgd) Z.ms_nil)))) (passL) (pv 0)) pe_int (fun _ _ => rfl)) pa_nil)))) (pg_name (i := 4) sc_l_fired.nd rfl (Or.inl rfl))
   (Z.zs_cons (Z.z_asg (Z.pe_MK K rfl (Z.ms_cons (Z.mt_of (E.cls 29) (Z.fxM_ok (E.own 20)) F_Node_fire bd_Node_fire (hr.mono (by decide)) hgd) (Z.ms_cons (Z.mt_of (E.cls 28) (Z.fxM_ok (E.own 19)) F_Node_fire bd_Node_fire (hr.mono (by decide)) hgd) (Z.ms_cons (Z.mt_of (E.cls 27) (Z.fxM_ok (E.own 18)) F_Node_fire bd_Node_fire (hr.mono (by decide)) hgd) (Z.ms_cons (Z.mt_of (E.cls 26) (Z.fxM_ok (E.own 17)) F_Node_fire bd_Node_fire (hr.mono (by decide)) hgd) Z.ms_nil)))) (passL) (pv 0) (pa_cons (pv 1) (pa_cons (pe_lst (pa_cons (pe_slice (Z.slUK K rfl) (pv 2) (po_some (pv 4)) (po_some (pe_op (Z.opAddK K rfl) (pv 4) (pe_ix (Z.ixUK K rfl) (Z.pe_M0K K rfl (Z.ms_cons (Z.mt_of (E.cls 29) (Z.fxM_ok (E.own 16)) F_Node_takes bd_Node_takes (hr.mono (by decide)) hgd) (Z.ms_cons (Z.mt_of (E.cls 28) (Z.fxM_ok (E.own 15)) F_Node_takes bd_Node_takes (hr.mono (by decide)) hgd) (Z.ms_cons (Z.mt_of (E.cls 27) (Z.fxM_ok (E.own 14)) F_Down_takes bd_Down_takes (hr.mono (by decide)) hgd) (Z.ms_cons (Z.mt_of (E.cls 26) (Z.fxM_ok (E.own 13)) F_Resample_takes bd_Resample_takes (hr.mono (by decide)) hgd) Z.ms_nil)))) (passL) (pv 0)) pe_int (fun _ _ => rfl))))) pa_nil)) pa_nil))) (pg_tup (n := 2) (by rfl) (pgs_cons (pg_name (i := 1) sc_l_fired.nd rfl (Or.inl rfl)) (pgs_cons (pg_name (i := 5) sc_l_fired.nd rfl (Or.inl rfl)) pgs_nil))))
   (Z.zs_one (Z.z_expr (pe_bm PySem.F.plainAttrs_list PySem.F.slot_list_extend PySem.F.type_list_extend mt_extend (pv 3) (pa_cons (pv 5) pa_nil))))))
   (Z.zs_one (Z.z_ret (pe_tup (pa_cons (pv 1) (pa_cons (pv 3) pa_nil))))))), ?_⟩
    refine Z.i_start (σ := [some (.ref nd), some (m0), some (.ref p), none, none, none]) rfl ?_
    try dsimp only [Z.cxK]
    k_call_by "za" 0
    rename_i G H1 n1
    refine m_takes (h1.kept (.of n1.same)) h2 fun r2 H2 s2 e2 => ?_
    k_call_by "za" 0
    refine Z.i_ixT e2 (v := .int (wd : Nat)) (by unfold Nd.tk; rw [h3]; rfl) ?_
    k_call_by "za" 0
    rw [h9]
    refine Z.i_rng3L h4 (by have := Nat.mul_le_mul h10 h5; omega) (by omega) ?_
    refine Z.loop_step (fun i σ H' => (∃ mv x4 x5, σ = [some (.ref nd), some mv, some (.ref p), some (.ref G), x4, x5] ∧ IsMem H' mv 0 (frs d wd xs kp i).1) ∧ H' G = some (.lst ((frs d wd xs kp i).2.map V.int)) ∧ Z.But G H1 H') ?_ ?_ ?_
    · exact ⟨⟨m0, _, _, rfl, h7.kept (.of (n1.same.trans s2))⟩, s2 _ _ n1.at, .ofSame s2⟩
    · rintro i σ H' hi ⟨⟨mv, x4, x5, rfl, hm⟩, hG, b⟩
      have pG : p ≠ G := n1.ne h8
      have h8' : H' p = some (.lst (xs.map V.int)) := b.get pG (n1.get h8)
      have sb : Same H H' := by k_call_by "fr" 0
      have iw : i * wd + wd ≤ xs.length := by
        rw [h9]
        have := Nat.mul_le_mul_right wd (show i + 1 ≤ n by omega)
        rw [Nat.add_mul, Nat.one_mul] at this
        omega
      k_call_by "za" 0
      refine m_fire0 (h1.kept (.of sb)) ?_
      k_call_by "za" 0
      rw [Int.zero_add, ← Int.natCast_mul]
      refine m_takes (h1.kept (.of sb)) h2 fun r3 H3 s3 e3 => ?_
      k_call_by "za" 0
      refine Z.i_ixT e3 (v := .int (wd : Nat)) (by unfold Nd.tk; rw [h3]; rfl) ?_
      k_call_by "za" 0
      rename_i r4 H4 n4 r5 H5 n5
      rw [Z.cut_lm (by rw [List.length_map]; exact iw), ← List.map_drop, ← List.map_take] at n4
      have rl : ((xs.drop (i * wd)).take wd).length = wd := by rw [List.length_take, List.length_drop]; omega
      have sH : Same H H5 := by k_call_by "fr" 0
      have s'5 : Same H' H5 := by k_call_by "fr" 0
      have kp1 := h12 i hi
      refine c_Node_fire (rows := [(xs.drop (i * wd)).take wd]) (h1.kept (.of sH)) h2 (hm.kept (.of s'5)) ⟨_, n5.at, .cons ⟨r4, rfl, n5.get n4.at⟩ .nil⟩ ⟨by rw [h3]; show [_] = _; rw [rl], fun row hr x hx => ?_⟩ kp1.1 (by omega) fun t6 mv6 q6 H6 f6 s6 e6 g6 m6 => ?_
      · rw [List.mem_singleton.mp hr] at hx
        exact h11 x (List.mem_of_mem_drop (List.mem_of_mem_take hx))
      have ef : d.fire 0 (frs d wd xs kp i).1 [(xs.drop (i * wd)).take wd] = (0, (d.worked (frs d wd xs kp i).1 [(xs.drop (i * wd)).take wd]).1, (d.worked (frs d wd xs kp i).1 [(xs.drop (i * wd)).take wd]).2) := by unfold Nd.fire; rw [if_pos rfl]
      rw [ef] at g6 m6
      have kp2 := kp1.2
      have es : (frs d wd xs kp (i + 1)).2 = (frs d wd xs kp i).2 ++ (d.worked (frs d wd xs kp i).1 [(xs.drop (i * wd)).take wd]).2 := rfl
      rw [es, List.length_append] at kp2
      have h16 : Same H' H6 := s'5.trans s6
      k_call_by "za" 0
      refine Z.i_extend (h16 _ _ hG) g6 (by rw [List.length_map, List.length_map, sizeLine_eq]; exact Nat.le_trans kp2 (by decide)) fun H7 u7 => ?_
      refine ⟨⟨mv6, _, _, rfl, m6.kept (.up u7 (h16 _ _ hG))⟩, ?_, by k_call_by "fr" 0⟩
      rw [u7.at, es, List.map_append]
    · rintro σ H' ⟨⟨mv, x4, x5, rfl, hm⟩, hG, b⟩
      k_call_by "za" 0
      rename_i t9 H9 n9
      exact k _ _ _ _ (by k_call_by "fh" 0) (by k_call_by "fr" 0) n9.at (hm.kept (.of n9.same)) (n9.get hG)

theorem frs_taps (ns zs ts : List Int) : ∀ {i : Nat}, i ≤ zs.length → frs (.taps ns) 1 zs (.tup ts) i = (.tup ((zs.take i).foldl (rstep ns) (ts, [])).1, ((zs.take i).foldl (rstep ns) (ts, [])).2)
  | 0, _ => rfl
  | i + 1, hi => by
    obtain ⟨z, hz⟩ : ∃ z, zs[i]? = some z := ⟨zs[i]'hi, by simp⟩
    have e := frs_taps ns zs ts (i := i) (by omega)
    have c : (zs.drop (i * 1)).take 1 = [z] := by
      rw [Nat.mul_one, ← List.getElem_cons_drop hi]
      rw [List.getElem?_eq_getElem hi] at hz
      rw [Option.some.inj hz]; rfl
    show (((Nd.taps ns).worked (frs _ _ _ _ i).1 [_]).1, (frs _ _ _ _ i).2 ++ ((Nd.taps ns).worked (frs _ _ _ _ i).1 [_]).2) = _
    rw [c, e, take_snoc hz, List.foldl_append]
    rfl
theorem frs_up (n : Nat) (zs : List Int) : ∀ {i : Nat}, i ≤ zs.length → frs (.up n false) 1 zs .unit i = (.unit, upped n (zs.take i))
  | 0, _ => by simp [frs, upped]
  | i + 1, hi => by
    obtain ⟨z, hz⟩ : ∃ z, zs[i]? = some z := ⟨zs[i]'hi, by simp⟩
    have e := frs_up n zs (i := i) (by omega)
    have c : (zs.drop (i * 1)).take 1 = [z] := by
      rw [Nat.mul_one, ← List.getElem_cons_drop hi]
      rw [List.getElem?_eq_getElem hi] at hz
      rw [Option.some.inj hz]; rfl
    show (((Nd.up n false).worked (frs _ _ _ _ i).1 [_]).1, (frs _ _ _ _ i).2 ++ ((Nd.up n false).worked (frs _ _ _ _ i).1 [_]).2) = _
    rw [c, e, take_snoc hz, upped_append]
    unfold upped
    simp [Nd.worked, r0]
theorem frs_down {d n : Nat} (hd : 1 ≤ d) {zs : List Int} (h : zs.length = n * d) : ∀ {i : Nat}, i ≤ n → frs (.down d) d zs .unit i = (.unit, (List.range i).map fun j => zs.getD (j * d) 0)
  | 0, _ => rfl
  | i + 1, hi => by
    have e := frs_down hd h (i := i) (by omega)
    have l : i * d < zs.length := by
      rw [h]
      exact Nat.mul_lt_mul_of_pos_right hi (by omega)
    have c : r0 [(zs.drop (i * d)).take d] = zs.getD (i * d) 0 := by
      obtain ⟨m, rfl⟩ : ∃ m, d = m + 1 := ⟨d - 1, by omega⟩
      show ((zs.drop _).take (m + 1)).headD 0 = _
      rw [← List.getElem_cons_drop l, List.take_succ_cons, List.getD_eq_getElem?_getD, List.getElem?_eq_getElem l]; rfl
    show (((Nd.down d).worked (frs _ _ _ _ i).1 [_]).1, (frs _ _ _ _ i).2 ++ ((Nd.down d).worked (frs _ _ _ _ i).1 [_]).2) = _
    rw [e, List.range_succ, List.map_append]
    show (_, _ ++ [r0 _]) = _
    rw [c]; rfl


theorem keep_len (ns U : List Int) : (keepOf ns U).length = ns.length - 1 := by
  unfold keepOf
  rw [List.length_take, List.length_append, List.length_replicate]; omega
theorem keep_num {ns U : List Int} (h : ∀ n ∈ U, Num n) : ∀ n ∈ keepOf ns U, Num n := fun n hn => by
  have := List.mem_of_mem_take hn
  rcases List.mem_append.mp this with z | z
  · exact h n (List.mem_reverse.mp z)
  · rw [(List.mem_replicate.mp z).2]; exact num_of (by constructor <;> decide)
theorem upped_num {up : Nat} {xs : List Int} (h : ∀ n ∈ xs, Num n) : ∀ n ∈ upped up xs, Num n := fun n hn => by
  unfold upped at hn
  obtain ⟨l, hl, hn⟩ := List.mem_flatten.mp hn
  obtain ⟨x, hx, rfl⟩ := List.mem_map.mp hl
  rcases List.mem_cons.mp hn with z | z
  · rw [z]; exact h x hx
  · rw [(List.mem_replicate.mp z).2]; exact num_of (by constructor <;> decide)
theorem outs_len {ns U zs : List Int} (h : 1 ≤ ns.length) : (zs.foldl (rstep ns) (keepOf ns U, [])).2.length = zs.length := by
  rw [scan h]; simp
theorem fold_keep {ns U zs : List Int} (h : 1 ≤ ns.length) : (zs.foldl (rstep ns) (keepOf ns U, [])).1 = keepOf ns (U ++ zs) := by rw [scan h]
theorem num_app {a b : List Int} (h : ∀ n ∈ a, Num n) (g : ∀ n ∈ b, Num n) : ∀ n ∈ a ++ b, Num n := fun n hn => (List.mem_append.mp hn).elim (h n) (g n)
theorem num_take {a : List Int} (h : ∀ n ∈ a, Num n) (i : Nat) : ∀ n ∈ a.take i, Num n := fun n hn => h n (List.mem_of_mem_take hn)
theorem up_all {up : Nat} {xs : List Int} (hu : 1 ≤ up) (h8 : up ≤ 8) (hl : xs.length ≤ 8) : ∀ i, i < xs.length → KpOk (.up up false) (frs (.up up false) 1 xs .unit i).1 ∧ (frs (.up up false) 1 xs .unit (i + 1)).2.length ≤ 1000 := fun i hi => by
  rw [frs_up _ _ (by omega), frs_up _ _ (by omega)]
  refine ⟨trivial, ?_⟩
  show (upped up _).length ≤ _
  rw [upped_length hu, List.length_take]
  exact Nat.le_trans (Nat.mul_le_mul (show _ ≤ 8 by omega) h8) (by decide)
theorem taps_all {ns U zs : List Int} (h1 : 1 ≤ ns.length) (hU : ∀ n ∈ U, Num n) (hz : ∀ n ∈ zs, Num n) (hl : zs.length ≤ 64) : ∀ i, i < zs.length → KpOk (.taps ns) (frs (.taps ns) 1 zs (.tup (keepOf ns U)) i).1 ∧ (frs (.taps ns) 1 zs (.tup (keepOf ns U)) (i + 1)).2.length ≤ 1000 := fun i hi => by
  rw [frs_taps _ _ _ (by omega), frs_taps _ _ _ (by omega)]
  refine ⟨⟨_, rfl, by rw [fold_keep h1, keep_len], by rw [fold_keep h1]; exact keep_num (num_app hU (num_take hz i))⟩, ?_⟩
  show (List.foldl (rstep ns) (keepOf ns U, []) (zs.take (i + 1))).2.length ≤ _
  rw [outs_len h1, List.length_take]; omega
theorem down_all {d n : Nat} (hd : 1 ≤ d) (hn : n ≤ 8) {zs : List Int} (h : zs.length = n * d) : ∀ i, i < n → KpOk (.down d) (frs (.down d) d zs .unit i).1 ∧ (frs (.down d) d zs .unit (i + 1)).2.length ≤ 1000 := fun i hi => by
  rw [frs_down hd h (by omega), frs_down hd h (by omega)]
  refine ⟨trivial, ?_⟩
  show (List.map _ _).length ≤ _
  rw [List.length_map, List.length_range]; omega
/-- a row on its way through the three -/
def stage (up down : Nat) (ns U xs : List Int) : Nat → List Int
  | 0 => xs
  | 1 => upped up xs
  | 2 => ((upped up xs).foldl (rstep ns) (keepOf ns U, [])).2
  | _ => Z.stepped down ((upped up xs).foldl (rstep ns) (keepOf ns U, [])).2

def sp_l_by_three (K : PySem.W.Frag) : Sp := fun vz H Q Ex => ∃ (t c p n0 n1 n2 : Addr) (v0 v1 v2 : V) (up down : Nat) (ns U xs : List Int), vz = [.ref t, .ref c, .ref p] ∧ (H t = some (.lst [.ref n0, .ref n1, .ref n2])) ∧ (H c = some (.lst [v0, v1, v2])) ∧ (H p = some (.lst (xs.map V.int))) ∧ (IsNd K H n0 0 0 (.up up false)) ∧ (IsNd K H n1 0 0 (.taps ns)) ∧ (IsNd K H n2 0 0 (.down down)) ∧ (IsMem H v0 0 .unit) ∧ (IsMem H v1 0 (.tup (keepOf ns U))) ∧ (IsMem H v2 0 .unit) ∧ (1 ≤ up ∧ up ≤ 8) ∧ (1 ≤ down ∧ down ≤ 8) ∧ (1 ≤ ns.length ∧ ns.length ≤ 12 ∧ ∀ n ∈ ns, Num n) ∧ (xs.length = down) ∧ (∀ n ∈ xs, Num n) ∧ (∀ n ∈ U, Num n) ∧ (t ≠ c) ∧ (p ≠ c) ∧ (∀ r u0 u1 u2 H', Z.But c H H' → H' c = some (.lst [u0, u1, u2]) → IsMem H' u0 0 .unit → IsMem H' u1 0 (.tup (keepOf ns (U ++ upped up xs))) → IsMem H' u2 0 .unit → H r = none → H' r = some (.lst ((Z.stepped down ((upped up xs).foldl (rstep ns) (keepOf ns U, [])).2).map V.int)) → Q (.ref r) H')
theorem c_l_by_three {K : PySem.W.Frag} {H : Hp} {Q : VK} {Ex : XK} {t c p n0 n1 n2 : Addr} {v0 v1 v2 : V} {up down : Nat} {ns U xs : List Int} (h1 : H t = some (.lst [.ref n0, .ref n1, .ref n2])) (h2 : H c = some (.lst [v0, v1, v2])) (h3 : H p = some (.lst (xs.map V.int))) (h4 : IsNd K H n0 0 0 (.up up false)) (h5 : IsNd K H n1 0 0 (.taps ns)) (h6 : IsNd K H n2 0 0 (.down down)) (h7 : IsMem H v0 0 .unit) (h8 : IsMem H v1 0 (.tup (keepOf ns U))) (h9 : IsMem H v2 0 .unit) (h10 : 1 ≤ up ∧ up ≤ 8) (h11 : 1 ≤ down ∧ down ≤ 8) (h12 : 1 ≤ ns.length ∧ ns.length ≤ 12 ∧ ∀ n ∈ ns, Num n) (h13 : xs.length = down) (h14 : ∀ n ∈ xs, Num n) (h15 : ∀ n ∈ U, Num n) (h16 : t ≠ c) (h17 : p ≠ c) (k : ∀ r u0 u1 u2 H', Z.But c H H' → H' c = some (.lst [u0, u1, u2]) → IsMem H' u0 0 .unit → IsMem H' u1 0 (.tup (keepOf ns (U ++ upped up xs))) → IsMem H' u2 0 .unit → H r = none → H' r = some (.lst ((Z.stepped down ((upped up xs).foldl (rstep ns) (keepOf ns U, [])).2).map V.int)) → Q (.ref r) H') : sp_l_by_three K [.ref t, .ref c, .ref p] H Q Ex := ⟨t, c, p, n0, n1, n2, v0, v1, v2, up, down, ns, U, xs, rfl, h1, h2, h3, h4, h5, h6, h7, h8, h9, h10, h11, h12, h13, h14, h15, h16, h17, k⟩
theorem ok_l_by_three {g : Prop} {P : Program} {w : World} {K : PySem.W.Frag} {mg : Str → Option Value} {base : Heap} (E : Ev K mg) : Z.Pr g P w K mg base 5 (He.ga K "_law_by_three") d_l_by_three p_l_by_three (sp_l_by_three K) := by
  obtain ⟨fd, FD⟩ := E.fn 33 (d := d_l_by_three)
  refine ⟨fd, FD, Z.FunD.okG FD sc_l_by_three (fun vz H Q Ex h => ?_) (fun cdv A outer s H vz Q Ex hr hgd h => ?_)⟩
  · obtain ⟨_, _, _, _, _, _, _, _, _, _, _, _, _, _, rfl, _⟩ := h
    rfl
  · have hu := hr.units
    obtain ⟨t, c, p, n0, n1, n2, v0, v1, v2, up, down, ns, U, xs, rfl, h1, h2, h3, h4, h5, h6, h7, h8, h9, h10, h11, h12, h13, h14, h15, h16, h17, k⟩ := h
    have F_l_fired := ok_l_fired (g := g) (P := P) (w := w) (base := base) E
    refine ⟨_, (Z.zs_cons (Z.z_set (i := 3) sc_l_by_three.nd rfl (Or.inl rfl) (pv 2))
   (Z.zs_cons (Z.z_for (passes_of rfl) rfl (pi_range1 (by rfl) (E.free 7) (pa_cons pe_int pa_nil)) (pg_name (i := 4) sc_l_by_three.nd rfl (Or.inl rfl))
   (Z.zs_one (Z.z_asg (Z.pe_f F_l_fired (hr.mono (by decide)) hgd (by rfl) (E.glo 32) bd_l_fired (passL) (pa_cons (pe_ix (Z.ixUK K rfl) (pv 0) (pv 4) (fun _ _ => rfl)) (pa_cons (pe_ix (Z.ixUK K rfl) (pv 1) (pv 4) (fun _ _ => rfl)) (pa_cons (pv 3) pa_nil)))) (pg_tup (n := 2) (by rfl) (pgs_cons (pg_sub (pv 1) (pv 4) set_list) (pgs_cons (pg_name (i := 3) sc_l_by_three.nd rfl (Or.inl rfl)) pgs_nil))))))
   (Z.zs_one (Z.z_ret (pv 3))))), ?_⟩
    refine Z.i_start (σ := [some (.ref t), some (.ref c), some (.ref p), none, none]) rfl ?_
    try dsimp only [Z.cxK]
    have kpb : ∀ {H' : Hp}, Z.But c H H' → Kept H H' := fun b => .but b h2
    k_call_by "za" 0
    refine Z.i_rng1L 3 rfl (by decide) ?_
    refine Z.loop_range0 (fun i σ H' => ∃ (f : Addr) (x4 : Option V) (w0 w1 w2 : V), σ = [some (.ref t), some (.ref c), some (.ref p), some (.ref f), x4] ∧ Z.But c H H' ∧ f ≠ c ∧ (0 < i → H f = none) ∧ H' f = some (.lst ((stage up down ns U xs i).map V.int)) ∧ H' c = some (.lst [w0, w1, w2]) ∧ IsMem H' w0 0 .unit ∧ IsMem H' w1 0 (.tup (if 1 < i then keepOf ns (U ++ upped up xs) else keepOf ns U)) ∧ IsMem H' w2 0 .unit) ?_ ?_ ?_
    · exact ⟨p, _, v0, v1, v2, rfl, .refl, h17, (by omega), h3, h2, h7, h8, h9⟩
    · rintro i σ H' hi ⟨f, x4, w0, w1, w2, rfl, b, fc, ff, hf, hc, m0, m1, m2⟩
      have kH := kpb b
      have t1 := b.get h16 h1
      have ul : (upped up xs).length = xs.length * up := upped_length h10.1 xs
      have ulb : xs.length * up ≤ 8 * 8 := Nat.mul_le_mul (by omega) h10.2
      have ol : ((upped up xs).foldl (rstep ns) (keepOf ns U, [])).2.length = up * down := by rw [outs_len h12.1, ul, h13, Nat.mul_comm]
      obtain rfl | rfl | rfl : i = 0 ∨ i = 1 ∨ i = 2 := by omega
      · k_call_by "za" 0
        refine c_l_fired (d := (.up up false)) (wd := 1) (n := xs.length) (kp := .unit) (xs := xs) (h4.kept kH) h10 rfl (by decide) (by omega) (by show up ≤ 8; omega) m0 hf (by omega) (by omega) h14 (up_all h10.1 h10.2 (by omega)) fun u q r H2 f2 s2 e2 em er => ?_
        k_call_by "za" 0
        have hc2 := s2 _ _ hc
        have rc : r ≠ c := Z.ne_fr' f2 hc
        rename_i H3 u3
        have k3 : Kept H' H3 := (Kept.of s2).trans (.up u3 hc2)
        rw [frs_up _ _ (Nat.le_refl _), List.take_length] at em er
        exact ⟨r, _, q, w1, w2, rfl, by k_call_by "fr" 0, rc, fun _ => b.free f2 rc, by rw [u3.get rc er]; rfl, u3.at, em.kept (.up u3 hc2), m1.kept k3, m2.kept k3⟩
      · k_call_by "za" 0
        refine c_l_fired (d := (.taps ns)) (wd := 1) (n := (upped up xs).length) (kp := (.tup (keepOf ns U))) (xs := (upped up xs)) (h5.kept kH) h12 rfl (by decide) (by omega) (by show 1 ≤ 8; omega) m1 hf (by omega) (by rw [ul]; exact Nat.le_trans ulb (by decide)) (upped_num h14) (taps_all h12.1 h15 (upped_num h14) (by rw [ul]; exact ulb)) fun u q r H2 f2 s2 e2 em er => ?_
        k_call_by "za" 0
        have hc2 := s2 _ _ hc
        have rc : r ≠ c := Z.ne_fr' f2 hc
        rename_i H3 u3
        have k3 : Kept H' H3 := (Kept.of s2).trans (.up u3 hc2)
        rw [frs_taps _ _ _ (Nat.le_refl _), List.take_length] at em er
        exact ⟨r, _, w0, q, w2, rfl, by k_call_by "fr" 0, rc, fun _ => b.free f2 rc, by rw [u3.get rc er]; rfl, u3.at, m0.kept k3, (by rw [fold_keep h12.1] at em; exact em.kept (.up u3 hc2)), m2.kept k3⟩
      · k_call_by "za" 0
        refine c_l_fired (d := (.down down)) (wd := down) (n := up) (kp := .unit) (xs := ((upped up xs).foldl (rstep ns) (keepOf ns U, [])).2) (h6.kept kH) h11 rfl h11.1 (by omega) (by show 1 ≤ 8; omega) m2 hf ol (by omega) (fun _ _ => trivial) (down_all h11.1 h10.2 ol) fun u q r H2 f2 s2 e2 em er => ?_
        k_call_by "za" 0
        have hc2 := s2 _ _ hc
        have rc : r ≠ c := Z.ne_fr' f2 hc
        rename_i H3 u3
        have k3 : Kept H' H3 := (Kept.of s2).trans (.up u3 hc2)
        rw [frs_down h11.1 ol (Nat.le_refl _), ← stepped_eq h11.1 ol] at em er
        exact ⟨r, _, w0, w1, q, rfl, by k_call_by "fr" 0, rc, fun _ => b.free f2 rc, by rw [u3.get rc er]; rfl, u3.at, m0.kept k3, m1.kept k3, em.kept (.up u3 hc2)⟩
    · rintro σ H' ⟨f, x4, w0, w1, w2, rfl, b, fc, ff, hf, hc, m0, m1, m2⟩
      k_call_by "za" 0
      exact k f w0 w1 w2 H' b hc m0 m1 m2 (ff (by decide)) hf

theorem Al_pot {Lx : List Addr} {H H' : Hp} {a : Addr} (x : Z.Al Lx H) (b : Z.But a H H') (p : Pot H' a) : Z.Al Lx H' := by
  obtain ⟨i, j, h, _⟩ := p
  exact x.but b h
theorem Kept.butL {Lx : List Addr} {H H' : Hp} (b : Z.ButL Lx H H') (h : ∀ c ∈ Lx, ∃ xs, H c = some (.lst xs)) : Kept H H' :=
  ⟨fun r xs e => b _ _ (fun m => by obtain ⟨ys, z⟩ := h r m; rw [e] at z; cases z) e, fun r C dx fs e => b _ _ (fun m => by obtain ⟨ys, z⟩ := h r m; rw [e] at z; cases z) e⟩
theorem fn_at {v : Nat → V} {r : Nat} (h : r < 2) : atI [v 0, v 1] (r : Int) = some (v r) := by
  obtain rfl | rfl : r = 0 ∨ r = 1 := by omega
  · rfl
  · rfl
theorem fn_set {v : Nat → V} {z : V} {r : Nat} (h : r < 2) : [v 0, v 1].set r z = [(fun i => if i = r then z else v i) 0, (fun i => if i = r then z else v i) 1] := by
  obtain rfl | rfl : r = 0 ∨ r = 1 := by omega
  · rfl
  · rfl
def two {α : Type} (x y : α) (i : Nat) : α := if i = 0 then x else y
theorem two_ref {x y : Addr} {r : Nat} (h : r < 2) : atI [V.ref x, V.ref y] (r : Int) = some (.ref (two x y r)) := by
  obtain rfl | rfl : r = 0 ∨ r = 1 := by omega
  · rfl
  · rfl
theorem two_mem {x y : Addr} {r : Nat} (h : r < 2) (a b : Addr) : two x y r ∈ [a, b, x, y] := by
  obtain rfl | rfl : r = 0 ∨ r = 1 := by omega
  · simp [two]
  · simp [two]
theorem two_ne {x y z : Addr} {r : Nat} (h : r < 2) (h1 : x ≠ z) (h2 : y ≠ z) : two x y r ≠ z := by
  obtain rfl | rfl : r = 0 ∨ r = 1 := by omega
  · exact h1
  · exact h2
theorem two_at {x y : V} {r : Nat} (h : r < 2) : atI [x, y] (r : Int) = some (two x y r) := by
  obtain rfl | rfl : r = 0 ∨ r = 1 := by omega
  · rfl
  · rfl
theorem two_set {x y z : V} {r : Nat} (h : r < 2) : [x, y].set r z = [if 0 = r then z else x, if 1 = r then z else y] := by
  obtain rfl | rfl : r = 0 ∨ r = 1 := by omega
  · rfl
  · rfl
/-- one of the two ways as it stands behind j rounds -/
structure WayOk (ns : List Int) (up down j : Nat) (H : Hp) (s c : Addr) (v : V) (S : List Int) (f : Nat) (u : Nat → V) : Prop where
  st : H s = some (.lst (S.map V.int))
  mm : IsMem H v 0 (.tup (keepOf ns (upped up S)))
  ch : H c = some (.lst [u 0, u 1, u 2])
  m0 : IsMem H (u 0) 0 .unit
  m1 : IsMem H (u 1) 0 (.tup (keepOf ns (upped up S)))
  m2 : IsMem H (u 2) 0 .unit
  ln : S.length = f * down
  le : f ≤ j
  nu : ∀ n ∈ S, Num n
theorem WayOk.mono {ns : List Int} {up down j j' : Nat} {H H' : Hp} {s c : Addr} {v : V} {S : List Int} {f : Nat} {u : Nat → V} (h : WayOk ns up down j H s c v S f u) (hs : ∀ o, H s = some o → H' s = some o) (hc : ∀ o, H c = some o → H' c = some o) (k : Kept H H') (l : j ≤ j') : WayOk ns up down j' H' s c v S f u :=
  ⟨hs _ h.st, h.mm.kept k, hc _ h.ch, h.m0.kept k, h.m1.kept k, h.m2.kept k, h.ln, Nat.le_trans h.le l, h.nu⟩
def tri (x y z : V) : Nat → V
  | 0 => x
  | 1 => y
  | _ => z
theorem nt_at {f : Nat → Nat} {r : Nat} (h : r < 2) : atI [V.int (f 0 : Nat), V.int (f 1 : Nat)] (r : Int) = some (V.int (f r : Nat)) := by
  obtain rfl | rfl : r = 0 ∨ r = 1 := by omega
  · rfl
  · rfl
theorem nt_set {f : Nat → Nat} {z r : Nat} (h : r < 2) : [V.int (f 0 : Nat), V.int (f 1 : Nat)].set r (V.int (z : Nat)) = [V.int ((fun i => if i = r then z else f i) 0 : Nat), V.int ((fun i => if i = r then z else f i) 1 : Nat)] := by
  obtain rfl | rfl : r = 0 ∨ r = 1 := by omega
  · rfl
  · rfl
theorem two_in {x y : Addr} {r : Nat} (h : r < 2) {l : List Addr} (hx : x ∈ l) (hy : y ∈ l) : two x y r ∈ l := by
  obtain rfl | rfl : r = 0 ∨ r = 1 := by omega
  · exact hx
  · exact hy
theorem two_ne2 {x y : Addr} {i r : Nat} (hi : i < 2) (hr : r < 2) (n : i ≠ r) (h : y ≠ x) : two x y i ≠ two x y r := by
  obtain ⟨rfl, rfl⟩ | ⟨rfl, rfl⟩ : (i = 0 ∧ r = 1) ∨ (i = 1 ∧ r = 0) := by omega
  · exact h.symm
  · exact h
theorem nats {a : Int} (h : Num a) {b : Int} (g : Num b) : (a * b).natAbs ≤ 2 ^ 200 * 2 ^ 200 := by
  rw [Int.natAbs_mul]
  exact Nat.mul_le_mul (Nat.le_of_lt h) (Nat.le_of_lt g)
theorem tapped_le : ∀ {ns ts : List Int}, (∀ n ∈ ns, Num n) → (∀ n ∈ ts, Num n) → (tapped ns ts).natAbs ≤ ns.length * (2 ^ 200 * 2 ^ 200)
  | [], ts, _, _ => by simp [tapped]
  | n :: ns, [], _, _ => by simp [tapped]
  | n :: ns, t :: ts, h, g => by
    have ih := tapped_le (fun n hn => h n (List.mem_cons_of_mem _ hn)) (fun n hn => g n (List.mem_cons_of_mem _ hn)) (ns := ns) (ts := ts)
    have e : tapped (n :: ns) (t :: ts) = n * t + tapped ns ts := rfl
    rw [e, List.length_cons, Nat.add_mul, Nat.one_mul, Nat.add_comm]
    exact Nat.le_trans (Int.natAbs_add_le _ _) (Nat.add_le_add (nats (h n List.mem_cons_self) (g t List.mem_cons_self)) ih)
theorem due_big {up down f : Nat} {ns S : List Int} (g : ∀ n ∈ ns, Num n) (l : ns.length ≤ 12) (hS : ∀ n ∈ S, Num n) : ∀ n ∈ dueOf up down ns S f, n.natAbs < Z.big := fun n hn => by
  obtain ⟨j, _, rfl⟩ := List.mem_map.mp hn
  unfold tapAt
  refine Nat.lt_of_le_of_lt (tapped_le g fun n hn => upped_num hS n (List.mem_of_mem_take (List.mem_reverse.mp hn))) (Nat.lt_of_le_of_lt (Nat.mul_le_mul_right _ l) ?_)
  unfold Z.big
  rw [← Nat.pow_add]
  exact Nat.lt_of_lt_of_le (Nat.mul_lt_mul_of_pos_right (by decide : 12 < 2 ^ 4) (Nat.pow_pos (by decide))) (by rw [← Nat.pow_add]; exact Nat.pow_le_pow_right (by decide) (by decide))

def sp_l_right (K : PySem.W.Frag) : Sp := fun vz H Q Ex => ∃ (a p : Addr) (up down : Nat) (ns : List Int), vz = [.ref a, .int (up : Nat), .int (down : Nat), .ref p] ∧ (Pot H a) ∧ (1 ≤ up ∧ up ≤ 8) ∧ (1 ≤ down ∧ down ≤ 8) ∧ (H p = some (.lst (ns.map V.int))) ∧ (1 ≤ ns.length ∧ ns.length ≤ 12 ∧ ∀ n ∈ ns, Num n) ∧ (p ≠ a) ∧ (∀ H', Pot H' a → Z.But a H H' → Q (.bl true) H')
theorem c_l_right {K : PySem.W.Frag} {H : Hp} {Q : VK} {Ex : XK} {a p : Addr} {up down : Nat} {ns : List Int} (h1 : Pot H a) (h2 : 1 ≤ up ∧ up ≤ 8) (h3 : 1 ≤ down ∧ down ≤ 8) (h4 : H p = some (.lst (ns.map V.int))) (h5 : 1 ≤ ns.length ∧ ns.length ≤ 12 ∧ ∀ n ∈ ns, Num n) (h6 : p ≠ a) (k : ∀ H', Pot H' a → Z.But a H H' → Q (.bl true) H') : sp_l_right K [.ref a, .int (up : Nat), .int (down : Nat), .ref p] H Q Ex := ⟨a, p, up, down, ns, rfl, h1, h2, h3, h4, h5, h6, k⟩
theorem ok_l_right  {P : Program} {w : World} {K : PySem.W.Frag} {mg : Str → Option Value} {base : Heap} (E : Ev K mg) : Z.Pr True P w K mg base 6 (He.ga K "_law_right") d_l_right p_l_right (sp_l_right K) := by
  obtain ⟨fd, FD⟩ := E.fn 34 (d := d_l_right)
  refine ⟨fd, FD, Z.FunD.okG FD sc_l_right (fun vz H Q Ex h => ?_) (fun cdv A outer s H vz Q Ex hr hgd h => ?_)⟩
  · obtain ⟨_, _, _, _, _, rfl, _⟩ := h
    rfl
  · have hu := hr.units
    obtain ⟨a, p, up, down, ns, rfl, h1, h2, h3, h4, h5, h6, k⟩ := h
    have F_Down_takes := ok_Down_takes (g := True) (P := P) (w := w) (base := base) E
    have F_Down_u__init := ok_Down_u__init (g := True) (P := P) (w := w) (base := base) E
    have F_Node_fire := ok_Node_fire (g := True) (P := P) (w := w) (base := base) E
    have F_Node_fresh := ok_Node_fresh (g := True) (P := P) (w := w) (base := base) E
    have F_Node_gives := ok_Node_gives (g := True) (P := P) (w := w) (base := base) E
    have F_Node_takes := ok_Node_takes (g := True) (P := P) (w := w) (base := base) E
    have F_Resample_gives := ok_Resample_gives (g := True) (P := P) (w := w) (base := base) E
    have F_Resample_takes := ok_Resample_takes (g := True) (P := P) (w := w) (base := base) E
    have F_Resample_u__init := ok_Resample_u__init (g := True) (P := P) (w := w) (base := base) E
    have F_Taps_u__init := ok_Taps_u__init (g := True) (P := P) (w := w) (base := base) E
    have F_Up_gives := ok_Up_gives (g := True) (P := P) (w := w) (base := base) E
    have F_Up_u__init := ok_Up_u__init (g := True) (P := P) (w := w) (base := base) E
    have F_l_by_three := ok_l_by_three (g := True) (P := P) (w := w) (base := base) E
    have F_l_draw := ok_l_draw (g := True) (P := P) (w := w) (base := base) E
    have F_l_given := ok_l_given (g := True) (P := P) (w := w) (base := base) E
    have F_l_number := ok_l_number (g := True) (P := P) (w := w) (base := base) E
    refine ⟨_, (Z.zs_cons (Z.z_set (i := 4) sc_l_right.nd rfl (Or.inl rfl) (pe_callTy (Z.clistK K rfl) (by rfl) (E.free 17) (by decide +kernel) (pa_cons (pv 3) pa_nil)))
   (Z.zs_cons (Z.z_set (i := 5) sc_l_right.nd rfl (Or.inl rfl) (Z.pe_new (E.mkr 42) F_Resample_u__init (hr.mono (by decide)) hgd (by rfl) (E.glo 43) (passL) kb_Resample_u__init_4 (pa_cons (pv 1) (pa_cons (pv 2) (pa_cons (pv 4) pa_nil)))))
   (Z.zs_cons (Z.z_expr (pe_bm0 PySem.F.plainAttrs_list PySem.F.slot_list_clear PySem.F.type_list_clear mt_clear (pv 4)))
   (Z.zs_cons (Z.z_set (i := 6) sc_l_right.nd rfl (Or.inl rfl) (pe_lst (pa_cons (Z.pe_new (E.mkr 40) F_Up_u__init (hr.mono (by decide)) hgd (by rfl) (E.glo 41) (passL) kb_Up_u__init_2 (pa_cons (pv 1) pa_nil)) (pa_cons (Z.pe_new (E.mkr 38) F_Taps_u__init (hr.mono (by decide)) hgd (by rfl) (E.glo 39) (passL) kb_Taps_u__init_2 (pa_cons (pe_callTy (Z.clistK K rfl) (by rfl) (E.free 17) (by decide +kernel) (pa_cons (pv 3) pa_nil)) pa_nil)) (pa_cons (Z.pe_new (E.mkr 36) F_Down_u__init (hr.mono (by decide)) hgd (by rfl) (E.glo 37) (passL) kb_Down_u__init_2 (pa_cons (pv 2) pa_nil)) pa_nil)))))
   (Z.zs_cons (Z.z_if (PW.pt (pw_or (pt_cmpR (Z.opNeK K rfl hu) (Z.pe_M0K K rfl (Z.ms_cons (Z.mt_of (E.cls 29) (Z.fxM_ok (E.own 16)) F_Node_takes bd_Node_takes (hr.mono (by decide)) hgd) (Z.ms_cons (Z.mt_of (E.cls 28) (Z.fxM_ok (E.own 15)) F_Node_takes bd_Node_takes (hr.mono (by decide)) hgd) (Z.ms_cons (Z.mt_of (E.cls 27) (Z.fxM_ok (E.own 14)) F_Down_takes bd_Down_takes (hr.mono (by decide)) hgd) (Z.ms_cons (Z.mt_of (E.cls 26) (Z.fxM_ok (E.own 13)) F_Resample_takes bd_Resample_takes (hr.mono (by decide)) hgd) Z.ms_nil)))) (passL) (pv 5)) (pe_tup (pa_cons (pv 2) pa_nil)) (nomark _)) (pw_or1 (pt_cmpR (Z.opNeK K rfl hu) (Z.pe_M0K K rfl (Z.ms_cons (Z.mt_of (E.cls 29) (Z.fxM_ok (E.own 12)) F_Node_gives bd_Node_gives (hr.mono (by decide)) hgd) (Z.ms_cons (Z.mt_of (E.cls 28) (Z.fxM_ok (E.own 11)) F_Up_gives bd_Up_gives (hr.mono (by decide)) hgd) (Z.ms_cons (Z.mt_of (E.cls 27) (Z.fxM_ok (E.own 10)) F_Node_gives bd_Node_gives (hr.mono (by decide)) hgd) (Z.ms_cons (Z.mt_of (E.cls 26) (Z.fxM_ok (E.own 9)) F_Resample_gives bd_Resample_gives (hr.mono (by decide)) hgd) Z.ms_nil)))) (passL) (pv 5)) (pv 1) (nomark _))))) (Z.zs_one (Z.z_ret pe_bl)) Z.zs_nil)
   (Z.zs_cons (Z.z_set (i := 7) sc_l_right.nd rfl (Or.inl rfl) (pe_lst (pa_cons (pe_lst pa_nil) (pa_cons (pe_lst pa_nil) pa_nil))))
   (Z.zs_cons (Z.z_set (i := 8) sc_l_right.nd rfl (Or.inl rfl) (pe_lst (pa_cons (Z.pe_M0K K rfl (Z.ms_cons (Z.mt_of (E.cls 29) (Z.fxM_ok (E.own 24)) F_Node_fresh bd_Node_fresh (hr.mono (by decide)) hgd) (Z.ms_cons (Z.mt_of (E.cls 28) (Z.fxM_ok (E.own 23)) F_Node_fresh bd_Node_fresh (hr.mono (by decide)) hgd) (Z.ms_cons (Z.mt_of (E.cls 27) (Z.fxM_ok (E.own 22)) F_Node_fresh bd_Node_fresh (hr.mono (by decide)) hgd) (Z.ms_cons (Z.mt_of (E.cls 26) (Z.fxM_ok (E.own 21)) F_Node_fresh bd_Node_fresh (hr.mono (by decide)) hgd) Z.ms_nil)))) (passL) (pv 5)) (pa_cons (Z.pe_M0K K rfl (Z.ms_cons (Z.mt_of (E.cls 29) (Z.fxM_ok (E.own 24)) F_Node_fresh bd_Node_fresh (hr.mono (by decide)) hgd) (Z.ms_cons (Z.mt_of (E.cls 28) (Z.fxM_ok (E.own 23)) F_Node_fresh bd_Node_fresh (hr.mono (by decide)) hgd) (Z.ms_cons (Z.mt_of (E.cls 27) (Z.fxM_ok (E.own 22)) F_Node_fresh bd_Node_fresh (hr.mono (by decide)) hgd) (Z.ms_cons (Z.mt_of (E.cls 26) (Z.fxM_ok (E.own 21)) F_Node_fresh bd_Node_fresh (hr.mono (by decide)) hgd) Z.ms_nil)))) (passL) (pv 5)) pa_nil))))
   (Z.zs_cons (Z.z_set (i := 9) sc_l_right.nd rfl (Or.inl rfl) (pe_lst (pa_cons (pe_lc (own := [("_law_one", 16)]) (g := gName 16) rfl sc_l_right.nd (Z.pi_seqK K rfl (pv 6)) (blkOk_by (own := [("_law_one", 16)]) (N := n_l_right) (sc := (defScope s_l_right)) (by decide +kernel)) (fun _ _ _ _ _ => (pg_name (i := 16) sc_l_right.nd rfl (Or.inl rfl))) (fun _ _ _ _ _ => pts_nil) (fun _ _ _ _ _ => (Z.pe_M0K K rfl (Z.ms_cons (Z.mt_of (E.cls 29) (Z.fxM_ok (E.own 24)) F_Node_fresh bd_Node_fresh (hr.mono (by decide)) hgd) (Z.ms_cons (Z.mt_of (E.cls 28) (Z.fxM_ok (E.own 23)) F_Node_fresh bd_Node_fresh (hr.mono (by decide)) hgd) (Z.ms_cons (Z.mt_of (E.cls 27) (Z.fxM_ok (E.own 22)) F_Node_fresh bd_Node_fresh (hr.mono (by decide)) hgd) (Z.ms_cons (Z.mt_of (E.cls 26) (Z.fxM_ok (E.own 21)) F_Node_fresh bd_Node_fresh (hr.mono (by decide)) hgd) Z.ms_nil)))) (passL) (pv 16)))) (pa_cons (pe_lc (own := [("_law_one", 16)]) (g := gName 16) rfl sc_l_right.nd (Z.pi_seqK K rfl (pv 6)) (blkOk_by (own := [("_law_one", 16)]) (N := n_l_right) (sc := (defScope s_l_right)) (by decide +kernel)) (fun _ _ _ _ _ => (pg_name (i := 16) sc_l_right.nd rfl (Or.inl rfl))) (fun _ _ _ _ _ => pts_nil) (fun _ _ _ _ _ => (Z.pe_M0K K rfl (Z.ms_cons (Z.mt_of (E.cls 29) (Z.fxM_ok (E.own 24)) F_Node_fresh bd_Node_fresh (hr.mono (by decide)) hgd) (Z.ms_cons (Z.mt_of (E.cls 28) (Z.fxM_ok (E.own 23)) F_Node_fresh bd_Node_fresh (hr.mono (by decide)) hgd) (Z.ms_cons (Z.mt_of (E.cls 27) (Z.fxM_ok (E.own 22)) F_Node_fresh bd_Node_fresh (hr.mono (by decide)) hgd) (Z.ms_cons (Z.mt_of (E.cls 26) (Z.fxM_ok (E.own 21)) F_Node_fresh bd_Node_fresh (hr.mono (by decide)) hgd) Z.ms_nil)))) (passL) (pv 16)))) pa_nil))))
   (Z.zs_cons (Z.z_set (i := 10) sc_l_right.nd rfl (Or.inl rfl) (pe_lst (pa_cons pe_int (pa_cons pe_int pa_nil))))
   (Z.zs_cons (Z.z_for (passes_of rfl) rfl (pi_range1 (by rfl) (E.free 7) (pa_cons (pe_op (Z.opAddK K rfl) pe_int (Z.pe_f F_l_draw (hr.mono (by decide)) hgd (by rfl) (E.glo 6) bd_l_draw (passL) (pa_cons (pv 0) (pa_cons pe_int pa_nil)))) pa_nil)) (pg_name (i := 11) sc_l_right.nd rfl (Or.inl rfl))
   (Z.zs_cons (Z.z_set (i := 12) sc_l_right.nd rfl (Or.inl rfl) (Z.pe_f F_l_draw (hr.mono (by decide)) hgd (by rfl) (E.glo 6) bd_l_draw (passL) (pa_cons (pv 0) (pa_cons pe_int pa_nil))))
   (Z.zs_cons (Z.z_setLc (i := 13) (own := [("_law_place", 17)]) (g := gName 17) rfl sc_l_right.nd rfl rfl (sw_true rfl rfl rfl (by decide +kernel)) (pi_range1 (by rfl) (E.free 7) (pa_cons (pv 2) pa_nil)) (blkOk_by (own := [("_law_place", 17)]) (N := n_l_right) (sc := (defScope s_l_right)) (by decide +kernel)) (fun _ _ _ _ _ => (pg_name (i := 17) sc_l_right.nd rfl (Or.inl rfl))) (fun _ _ _ _ _ => pts_nil) (fun _ _ _ _ _ => (Z.pe_f F_l_number (hr.mono (by decide)) hgd (by rfl) (E.glo 30) bd_l_number (passL) (pa_cons (pv 0) pa_nil))))
   (Z.zs_cons (Z.z_expr (pe_bm PySem.F.plainAttrs_list PySem.F.slot_list_extend PySem.F.type_list_extend mt_extend (pe_ix (Z.ixUK K rfl) (pv 7) (pv 12) (fun _ _ => rfl)) (pa_cons (pv 13) pa_nil)))
   (Z.zs_cons (Z.z_asg (Z.pe_MK K rfl (Z.ms_cons (Z.mt_of (E.cls 29) (Z.fxM_ok (E.own 20)) F_Node_fire bd_Node_fire (hr.mono (by decide)) hgd) (Z.ms_cons (Z.mt_of (E.cls 28) (Z.fxM_ok (E.own 19)) F_Node_fire bd_Node_fire (hr.mono (by decide)) hgd) (Z.ms_cons (Z.mt_of (E.cls 27) (Z.fxM_ok (E.own 18)) F_Node_fire bd_Node_fire (hr.mono (by decide)) hgd) (Z.ms_cons (Z.mt_of (E.cls 26) (Z.fxM_ok (E.own 17)) F_Node_fire bd_Node_fire (hr.mono (by decide)) hgd) Z.ms_nil)))) (passL) (pv 5) (pa_cons (pe_ix (Z.ixUK K rfl) (pv 8) (pv 12) (fun _ _ => rfl)) (pa_cons (pe_lst (pa_cons (pe_callTy (Z.clistK K rfl) (by rfl) (E.free 17) (by decide +kernel) (pa_cons (pv 13) pa_nil)) pa_nil)) pa_nil))) (pg_tup (n := 2) (by rfl) (pgs_cons (pg_sub (pv 8) (pv 12) set_list) (pgs_cons (pg_name (i := 14) sc_l_right.nd rfl (Or.inl rfl)) pgs_nil))))
   (Z.zs_cons (Z.z_set (i := 15) sc_l_right.nd rfl (Or.inl rfl) (Z.pe_f F_l_given (hr.mono (by decide)) hgd (by rfl) (E.glo 35) bd_l_given (passL) (pa_cons (pe_ix (Z.ixUK K rfl) (pv 7) (pv 12) (fun _ _ => rfl)) (pa_cons (pv 1) (pa_cons (pv 2) (pa_cons (pv 3) (pa_cons (pe_ix (Z.ixUK K rfl) (pv 10) (pv 12) (fun _ _ => rfl)) pa_nil)))))))
   (Z.zs_cons (Z.z_if (PW.pt (pw_or (pt_cmpR (Z.opNeK K rfl hu) (pe_callB (Z.creprK K rfl hr hgd trivial) (by rfl) (E.free 34) (by decide +kernel) (pa_cons (pv 14) pa_nil)) (pe_callB (Z.creprK K rfl hr hgd trivial) (by rfl) (E.free 34) (by decide +kernel) (pa_cons (pv 15) pa_nil)) (nomark _)) (pw_or1 (pt_cmpR (Z.opNeK K rfl hu) (Z.pe_f F_l_by_three (hr.mono (by decide)) hgd (by rfl) (E.glo 33) bd_l_by_three (passL) (pa_cons (pv 6) (pa_cons (pe_ix (Z.ixUK K rfl) (pv 9) (pv 12) (fun _ _ => rfl)) (pa_cons (pv 13) pa_nil)))) (pv 15) (nomark _))))) (Z.zs_one (Z.z_ret pe_bl)) Z.zs_nil)
   (Z.zs_one (Z.z_asg (pe_op (Z.opAddK K rfl) (pe_ix (Z.ixUK K rfl) (pv 10) (pv 12) (fun _ _ => rfl)) pe_int) (pg_sub (pv 10) (pv 12) set_list))))))))))
   (Z.zs_one (Z.z_ret pe_bl)))))))))))), ?_⟩
    refine Z.i_start (σ := [some (.ref a), some (.int (up : Nat)), some (.int (down : Nat)), some (.ref p), none, none, none, none, none, none, none, none, none, none, none, none, none, none]) rfl ?_
    try dsimp only [Z.cxK]
    k_call_by "za" 0
    rename_i q H2 n2 nd dx H3 m3
    refine c_Resample_u__init (l := 0) (b := 0) (ru := up) (rd := down) (rn := ns) (q := q) m3.at (by decide) (by decide) ⟨h2, h3, h5⟩ (m3.get n2.at) fun H4 i4 b4 => ⟨rfl, ?_⟩
    have qa : q ≠ nd := m3.nei n2.at
    have q4 : H4 q = some (.lst (ns.map V.int)) := b4.get qa (m3.get n2.at)
    k_call_by "za" 0
    rename_i H5 u5 x0 dx0 H6 m6
    have s5 : Same H H5 := Z.Same.up (by k_call_by "fr" 0 : Same H H4) u5 n2.fr
    have i5 := i4.kept (.up u5 q4)
    have p5 : Pot H5 a := h1.mono s5
    have h45 := s5 _ _ h4
    clear i4 b4 m3 n2
    refine c_Up_u__init (l := 0) (b := 0) m6.at (by decide) (by decide) h2 fun H7 i7 b7 => ⟨rfl, ?_⟩
    have s7 : Same H5 H7 := by k_call_by "fr" 0
    clear b7 m6
    k_call_by "za" 0
    rename_i q2 H8 n8 x1 dx1 H9 m9
    refine c_Taps_u__init (l := 0) (b := 0) (ns := ns) (q := q2) m9.at (by decide) (by decide) h5 (m9.get n8.at) fun H10 i10 b10 => ⟨rfl, ?_⟩
    have s10 : Same H7 H10 := by k_call_by "fr" 0
    clear b10 m9 n8
    k_call_by "za" 0
    rename_i x2 dx2 H11 m11
    refine c_Down_u__init (l := 0) (b := 0) m11.at (by decide) (by decide) h3 fun H12 i12 b12 => ⟨rfl, ?_⟩
    have s12 : Same H10 H12 := by k_call_by "fr" 0
    clear b12 m11
    k_call_by "za" 0
    rename_i T H13 n13
    have s1013 : Same H10 H13 := by k_call_by "fr" 0
    have s713 : Same H7 H13 := s10.trans s1013
    have s513 : Same H5 H13 := s7.trans s713
    have sH13 : Same H H13 := s5.trans s513
    have iR := i5.kept (.of s513)
    have iU := i7.kept (.of s713)
    have iT := i10.kept (.of s1013)
    have iD := i12.kept (.of n13.same)
    have T13 := n13.at
    have p13 := p5.mono s513
    have P13 := s513 _ _ h45
    clear i5 i7 i10 i12 s5 s7 s10 s12 n13 p5 h45 s1013 s713 s513 u5
    refine m_takes iR ⟨h2, h3, h5⟩ fun r14 H14 s14 e14 => ?_
    k_call_by "za" 0
    rename_i t15 H15 n15
    refine Z.i_neTI (ns := (Nd.resample up down ns).tk) (ms := [(down : Int)]) (n15.get e14) n15.at ?_
    k_call_by "za" 0
    refine Z.itnF rfl ?_
    k_call_by "za" 0
    have s15 : Same H13 H15 := by k_call_by "fr" 0
    clear s14 n15 e14
    refine m_gives (iR.kept (.of s15)) ?_
    k_call_by "za" 0
    refine Z.itnF rfl ?_
    k_call_by "za" 0
    rename_i S0 H16 n16 S1 H17 n17 SS H18 n18
    have s18 : Same H13 H18 := by k_call_by "fr" 0
    refine m_fresh (iR.kept (.of s18)) ⟨h2, h3, h5⟩ fun v0 H19 s19 m19 => ?_
    k_call_by "za" 0
    have s1319 : Same H13 H19 := s18.trans s19
    refine m_fresh (iR.kept (.of s1319)) ⟨h2, h3, h5⟩ fun v1 H20 s20 m20 => ?_
    k_call_by "za" 0
    rename_i M H21 n21
    have s21 : Same H13 H21 := by k_call_by "fr" 0
    refine Z.comp_list (xs := [.ref x0, .ref x1, .ref x2]) (fun i acc Hc => Z.All2 (fun w kp => IsMem Hc w 0 kp) acc (([Nd.up up false, Nd.taps ns, Nd.down down].take i).map Nd.first) ∧ Same H21 Hc) ?_ ?_ ?_ ?_
    · intro D Hc n
      exact ⟨.nil, n.same⟩
    · rintro i acc Hc hi ⟨_, s⟩
      k_call_by "hq" 0
    · rintro D i acc x Hc fD hx hD ⟨al, s⟩
      have sc : Same H13 Hc := s21.trans s
      have al' : acc.length ≤ 3 := by rw [al.len, List.length_map, List.length_take]; exact Nat.min_le_right _ _
      obtain rfl | rfl | rfl : i = 0 ∨ i = 1 ∨ i = 2 := by have := (List.getElem?_eq_some_iff.mp hx).1; simp at this; omega
      · cases hx
        k_call_by "za" 0
        refine m_fresh (iU.kept (.of sc)) h2 fun w Hd sd md => ?_
        refine Z.i_end (sd _ _ hD) (by rw [sizeLine_eq]; omega) fun He ue => ⟨?_, by k_call_by "fr" 0⟩
        exact (al.mono fun _ _ h => h.kept (.trans (.of sd) (.up ue (sd _ _ hD)))).snoc (md.kept (.up ue (sd _ _ hD)))
      · cases hx
        k_call_by "za" 0
        refine m_fresh (iT.kept (.of sc)) h5 fun w Hd sd md => ?_
        refine Z.i_end (sd _ _ hD) (by rw [sizeLine_eq]; omega) fun He ue => ⟨?_, by k_call_by "fr" 0⟩
        exact (al.mono fun _ _ h => h.kept (.trans (.of sd) (.up ue (sd _ _ hD)))).snoc (md.kept (.up ue (sd _ _ hD)))
      · cases hx
        k_call_by "za" 0
        refine m_fresh (iD.kept (.of sc)) h3 fun w Hd sd md => ?_
        refine Z.i_end (sd _ _ hD) (by rw [sizeLine_eq]; omega) fun He ue => ⟨?_, by k_call_by "fr" 0⟩
        exact (al.mono fun _ _ h => h.kept (.trans (.of sd) (.up ue (sd _ _ hD)))).snoc (md.kept (.up ue (sd _ _ hD)))
    rintro C0 acc0 H22 fC0 hC0 ⟨al0, s22⟩
    k_call_by "za" 0
    have s22' : Same H13 H22 := s21.trans s22
    refine Z.comp_list (xs := [.ref x0, .ref x1, .ref x2]) (fun i acc Hc => Z.All2 (fun w kp => IsMem Hc w 0 kp) acc (([Nd.up up false, Nd.taps ns, Nd.down down].take i).map Nd.first) ∧ Same H22 Hc) ?_ ?_ ?_ ?_
    · intro D Hc n
      exact ⟨.nil, n.same⟩
    · rintro i acc Hc hi ⟨_, s⟩
      k_call_by "hq" 0
    · rintro D i acc x Hc fD hx hD ⟨al, s⟩
      have sc : Same H13 Hc := s22'.trans s
      have al' : acc.length ≤ 3 := by rw [al.len, List.length_map, List.length_take]; exact Nat.min_le_right _ _
      obtain rfl | rfl | rfl : i = 0 ∨ i = 1 ∨ i = 2 := by have := (List.getElem?_eq_some_iff.mp hx).1; simp at this; omega
      · cases hx
        k_call_by "za" 0
        refine m_fresh (iU.kept (.of sc)) h2 fun w Hd sd md => ?_
        refine Z.i_end (sd _ _ hD) (by rw [sizeLine_eq]; omega) fun He ue => ⟨?_, by k_call_by "fr" 0⟩
        exact (al.mono fun _ _ h => h.kept (.trans (.of sd) (.up ue (sd _ _ hD)))).snoc (md.kept (.up ue (sd _ _ hD)))
      · cases hx
        k_call_by "za" 0
        refine m_fresh (iT.kept (.of sc)) h5 fun w Hd sd md => ?_
        refine Z.i_end (sd _ _ hD) (by rw [sizeLine_eq]; omega) fun He ue => ⟨?_, by k_call_by "fr" 0⟩
        exact (al.mono fun _ _ h => h.kept (.trans (.of sd) (.up ue (sd _ _ hD)))).snoc (md.kept (.up ue (sd _ _ hD)))
      · cases hx
        k_call_by "za" 0
        refine m_fresh (iD.kept (.of sc)) h3 fun w Hd sd md => ?_
        refine Z.i_end (sd _ _ hD) (by rw [sizeLine_eq]; omega) fun He ue => ⟨?_, by k_call_by "fr" 0⟩
        exact (al.mono fun _ _ h => h.kept (.trans (.of sd) (.up ue (sd _ _ hD)))).snoc (md.kept (.up ue (sd _ _ hD)))
    rintro C1 acc1 H23 fC1 hC1 ⟨al1, s23⟩
    have s23' : Same H13 H23 := s22'.trans s23
    k_call_by "za" 0
    rename_i CC H24 n24 F H25 n25
    have s25 : Same H13 H25 := by k_call_by "fr" 0
    have al15 : Z.Al [T, p, a] H15 := by
      obtain ⟨x, y, e, _⟩ := p13
      exact .cons (s15 _ _ T13) (.cons (s15 _ _ P13) (.cons (s15 _ _ e) .nil))
    have NS0 := al15.nin n16.fr
    simp only [List.mem_cons, List.not_mem_nil, or_false, not_or] at NS0
    obtain ⟨S0_T, S0_p, S0_a⟩ := NS0
    have al16 := Z.Al.cons n16.at (al15.same n16.same)
    have NS1 := al16.nin n17.fr
    simp only [List.mem_cons, List.not_mem_nil, or_false, not_or] at NS1
    obtain ⟨S1_S0, S1_T, S1_p, S1_a⟩ := NS1
    have al17 := Z.Al.cons n17.at (al16.same n17.same)
    have NSS := al17.nin n18.fr
    simp only [List.mem_cons, List.not_mem_nil, or_false, not_or] at NSS
    obtain ⟨SS_S1, SS_S0, SS_T, SS_p, SS_a⟩ := NSS
    have al18 := Z.Al.cons n18.at (al17.same n18.same)
    have al20 := al18.same (s19.trans s20)
    have NM := al20.nin n21.fr
    simp only [List.mem_cons, List.not_mem_nil, or_false, not_or] at NM
    obtain ⟨M_SS, M_S1, M_S0, M_T, M_p, M_a⟩ := NM
    have al21 := Z.Al.cons n21.at (al20.same n21.same)
    have NC0 := al21.nin fC0
    simp only [List.mem_cons, List.not_mem_nil, or_false, not_or] at NC0
    obtain ⟨C0_M, C0_SS, C0_S1, C0_S0, C0_T, C0_p, C0_a⟩ := NC0
    have al22 := Z.Al.cons hC0 (al21.same s22)
    have NC1 := al22.nin fC1
    simp only [List.mem_cons, List.not_mem_nil, or_false, not_or] at NC1
    obtain ⟨C1_C0, C1_M, C1_SS, C1_S1, C1_S0, C1_T, C1_p, C1_a⟩ := NC1
    have al23 := Z.Al.cons hC1 (al22.same s23)
    have NCC := al23.nin n24.fr
    simp only [List.mem_cons, List.not_mem_nil, or_false, not_or] at NCC
    obtain ⟨CC_C1, CC_C0, CC_M, CC_SS, CC_S1, CC_S0, CC_T, CC_p, CC_a⟩ := NCC
    have al24 := Z.Al.cons n24.at (al23.same n24.same)
    have NF := al24.nin n25.fr
    simp only [List.mem_cons, List.not_mem_nil, or_false, not_or] at NF
    obtain ⟨F_CC, F_C1, F_C0, F_M, F_SS, F_S1, F_S0, F_T, F_p, F_a⟩ := NF
    have al25 := Z.Al.cons n25.at (al24.same n25.same)
    
    have Ta : T ≠ a := fun e => by
      obtain ⟨x, y, hh, _⟩ := p13
      rw [e, hh] at T13
      simp at T13
    have q23 : Same H23 H25 := n24.same.trans n25.same
    have q22 := s23.trans q23
    have q21 := s22.trans q22
    have q20 := n21.same.trans q21
    have q19 := s20.trans q20
    have q18 := s19.trans q19
    have q17 := n18.same.trans q18
    have q16 := n17.same.trans q17
    have S0_25 : H25 S0 = some (.lst []) := q16 _ _ n16.at
    have S1_25 : H25 S1 = some (.lst []) := q17 _ _ n17.at
    have SS_25 : H25 SS = some (.lst [.ref S0, .ref S1]) := q18 _ _ n18.at
    have M_25 : H25 M = some (.lst [v0, v1]) := q21 _ _ n21.at
    have C0_25 : H25 C0 = some (.lst acc0) := q22 _ _ hC0
    have C1_25 : H25 C1 = some (.lst acc1) := q23 _ _ hC1
    have CC_25 : H25 CC = some (.lst [.ref C0, .ref C1]) := n25.get n24.at
    have F_25 : H25 F = some (.lst [.int 0, .int 0]) := n25.at
    have T_25 := s25 _ _ T13
    have P_25 := s25 _ _ P13
    have p25 := p13.mono s25
    have m0_25 := m19.kept (.of q19)
    have m1_25 := m20.kept (.of q20)
    have iR25 := iR.kept (.of s25)
    have iU25 := iU.kept (.of s25)
    have iT25 := iT.kept (.of s25)
    have iD25 := iD.kept (.of s25)
    obtain ⟨a00, _, rfl, ma00, al0⟩ := al0.cons_of
    obtain ⟨a01, _, rfl, ma01, al0⟩ := al0.cons_of
    obtain ⟨a02, _, rfl, ma02, al0⟩ := al0.cons_of
    obtain rfl := al0.nil_of
    obtain ⟨a10, _, rfl, ma10, al1⟩ := al1.cons_of
    obtain ⟨a11, _, rfl, ma11, al1⟩ := al1.cons_of
    obtain ⟨a12, _, rfl, ma12, al1⟩ := al1.cons_of
    obtain rfl := al1.nil_of
    have k22 : Kept H22 H25 := .of q22
    have k23 : Kept H23 H25 := .of q23
    have ma00 := ma00.kept k22
    have ma01 := ma01.kept k22
    have ma02 := ma02.kept k22
    have ma10 := ma10.kept k23
    have ma11 := ma11.kept k23
    have ma12 := ma12.kept k23
    have fst : Nd.first (.resample up down ns) = .tup (keepOf ns (upped up [])) := by
      show Kp.tup _ = Kp.tup _
      congr 1
      unfold keepOf
      show List.replicate (ns.length - 1) 0 = _
      rw [show (upped up []).reverse = [] from rfl, List.nil_append, List.take_of_length_le (by rw [List.length_replicate]; omega)]
    have ma01' : IsMem H25 a01 0 (.tup (keepOf ns (upped up []))) := fst ▸ ma01
    have ma11' : IsMem H25 a11 0 (.tup (keepOf ns (upped up []))) := fst ▸ ma11
    have sH25 : Same H H25 := sH13.trans s25
    have fr25 : ∀ b o, H b = some o → b ≠ S0 ∧ b ≠ S1 ∧ b ≠ M ∧ b ≠ C0 ∧ b ≠ C1 ∧ b ≠ F := fun b o hb => by
      have hb13 := sH13 _ _ hb
      have e1 : H15 b = some o := s15 _ _ hb13
      have e2 := n16.get e1
      have qs7 : Same H13 H20 := by k_call_by "fr" 0
      have e3 : H20 b = some o := qs7 _ _ hb13
      have e4 : H21 b = some o := s21 _ _ hb13
      have e5 : H22 b = some o := s22' _ _ hb13
      have e6 : H24 b = some o := n24.get (s23' _ _ hb13)
      exact ⟨n16.ne e1, n17.ne e2, n21.ne e3, (Z.ne_fr' fC0 e4).symm, (Z.ne_fr' fC1 e5).symm, n25.ne e6⟩
    clear q16 q17 q18 q19 q20 q21 q22 q23 n16 n17 n18 n21 n24 n25 s15 s18 s19 s20 s21 s22 s23 s22' s23' s1319 al15 al16 al17 al18 al20 al21 al22 al23 al24 m19 m20 iR iU iT iD T13 P13 p13 k22 k23
    refine c_l_draw p25 (by decide) (by decide) fun rn H26 rn0 rn1 p26 b26 => ?_
    k_call_by "za" 0
    refine Z.i_rng1L (1 + rn).toNat (by omega) (by omega) ?_
    refine Z.loop_range0 (fun j σ H' => ∃ (v : Nat → V) (S : Nat → List Int) (f : Nat → Nat) (u : Nat → Nat → V) (x11 x12 x13 x14 x15 x16 x17 : Option V), σ = [some (.ref a), some (.int (up : Nat)), some (.int (down : Nat)), some (.ref p), some (.ref q), some (.ref nd), some (.ref T), some (.ref SS), some (.ref M), some (.ref CC), some (.ref F), x11, x12, x13, x14, x15, x16, x17] ∧
      H' M = some (.lst [v 0, v 1]) ∧ H' F = some (.lst [.int (f 0 : Nat), .int (f 1 : Nat)]) ∧
      (∀ i, i < 2 → WayOk ns up down j H' (two S0 S1 i) (two C0 C1 i) (v i) (S i) (f i) (u i)) ∧ Pot H' a ∧ Z.ButL [a, M, S0, S1, C0, C1, F] H25 H' ∧ Kept H25 H') ?_ ?_ ?_
    · have k26 := p25.kept b26
      refine ⟨two v0 v1, fun _ => [], fun _ => 0, two (tri a00 a01 a02) (tri a10 a11 a12), _, _, _, _, _, _, _, rfl, b26.get M_a M_25, b26.get F_a F_25, ?_, p26, .ofBut b26 (by simp), k26⟩
      intro i hi
      obtain rfl | rfl : i = 0 ∨ i = 1 := by omega
      · exact ⟨b26.get S0_a S0_25, (fst ▸ m0_25).kept k26, b26.get C0_a C0_25, ma00.kept k26, ma01'.kept k26, ma02.kept k26, by simp, Nat.le_refl _, fun n h => by cases h⟩
      · exact ⟨b26.get S1_a S1_25, (fst ▸ m1_25).kept k26, b26.get C1_a C1_25, ma10.kept k26, ma11'.kept k26, ma12.kept k26, by simp, Nat.le_refl _, fun n h => by cases h⟩
    · rintro j σ H12 hj ⟨v, S, f, u, x11, x12, x13, x14, x15, x16, x17, rfl, M12, F12, inv, p12, bl12, k12⟩
      have hj12 : j < 12 := by omega
      clear b26 p26
      k_call_by "za" 0
      refine c_l_draw p12 (by decide) (by decide) fun at_ H13 at0 at1 p13 b13 => ?_
      obtain ⟨r, rfl, hr⟩ : ∃ r : Nat, at_ = (r : Int) ∧ r < 2 := ⟨at_.toNat, by omega, by omega⟩
      k_call_by "za" 0
      refine Z.comp_range0 (fun i acc Hc => ∃ ns : List Int, acc = ns.map V.int ∧ (∀ n ∈ ns, Num n) ∧ ns.length = i ∧ Pot Hc a ∧ Z.But a H13 Hc) ?_ ?_ ?_
      · intro Dc Hc nc
        exact ⟨[], rfl, (fun n z => by cases z), rfl, p13.mono nc.same, .ofSame nc.same⟩
      · rintro Dc ic acc Hc fDc hic hDc ⟨nsc, rfl, hnc, hlc, pc, bc⟩
        have nec := p13.ne fDc
        k_call_by "za" 0
        refine c_l_number pc fun qc Hd q0c pd bd => ?_
        have hDd := bd.get nec hDc
        refine Z.i_end hDd (by rw [List.length_map, sizeLine_eq]; omega) fun He ue => ⟨nsc ++ [qc], by rw [List.map_append]; rfl, ?_, by rw [List.length_append, hlc]; rfl, pd.up ue nec.symm, Z.fb_upn ue (bc.trans bd) fDc⟩
        intro n hn
        rcases List.mem_append.mp hn with z | z
        · exact hnc n z
        · rw [List.mem_singleton.mp z]; exact q0c
      rintro R _ H14 fR hR ⟨row, rfl, rnum, rlen, p14, b14⟩
      have W := inv r hr
      have b1214 := b13.trans b14
      have al12 : Z.Al [a, M, S0, S1, C0, C1, F] H12 := by
        obtain ⟨x, y, e, _⟩ := p12
        exact .cons e (.cons M12 (.cons (inv 0 (by decide)).st (.cons (inv 1 (by decide)).st (.cons (inv 0 (by decide)).ch (.cons (inv 1 (by decide)).ch (.cons F12 .nil))))))
      have al13 := Al_pot al12 b13 p13
      have RL := al13.nin fR
      simp only [List.mem_cons, List.not_mem_nil, or_false, not_or] at RL
      obtain ⟨R_a, R_M, R_S0, R_S1, R_C0, R_C1, R_F⟩ := RL
      have SSn : SS ∉ [a, M, S0, S1, C0, C1, F] := by simp only [List.mem_cons, List.not_mem_nil, or_false, not_or]; exact ⟨SS_a, (Ne.symm M_SS), SS_S0, SS_S1, (Ne.symm C0_SS), (Ne.symm C1_SS), (Ne.symm F_SS)⟩
      have SS12 : H12 SS = some (.lst [.ref S0, .ref S1]) := bl12 _ _ SSn SS_25
      have CCn : CC ∉ [a, M, S0, S1, C0, C1, F] := by simp only [List.mem_cons, List.not_mem_nil, or_false, not_or]; exact ⟨CC_a, CC_M, CC_S0, CC_S1, CC_C0, CC_C1, (Ne.symm F_CC)⟩
      have CC12 : H12 CC = some (.lst [.ref C0, .ref C1]) := bl12 _ _ CCn CC_25
      have Tn : T ∉ [a, M, S0, S1, C0, C1, F] := by simp only [List.mem_cons, List.not_mem_nil, or_false, not_or]; exact ⟨Ta, (Ne.symm M_T), (Ne.symm S0_T), (Ne.symm S1_T), (Ne.symm C0_T), (Ne.symm C1_T), (Ne.symm F_T)⟩
      have T12 : H12 T = some (.lst [.ref x0, .ref x1, .ref x2]) := bl12 _ _ Tn T_25
      have Pn : p ∉ [a, M, S0, S1, C0, C1, F] := by simp only [List.mem_cons, List.not_mem_nil, or_false, not_or]; exact ⟨h6, (Ne.symm M_p), (Ne.symm S0_p), (Ne.symm S1_p), (Ne.symm C0_p), (Ne.symm C1_p), (Ne.symm F_p)⟩
      have P12 : H12 p = some (.lst (ns.map V.int)) := bl12 _ _ Pn P_25
      have kp14 := p12.kept b1214
      have sW14 : H14 (two S0 S1 r) = some (.lst ((S r).map V.int)) := b1214.get (two_ne hr S0_a S1_a) W.st
      have rs : row.length = down := by omega
      have fl := W.le
      have sl := W.ln
      have sl8 : f r * down ≤ 12 * 8 := Nat.mul_le_mul (by omega) h3.2
      k_call_by "za" 0
      refine Z.i_ixL (b1214.get SS_a SS12) (two_ref hr) ?_
      k_call_by "za" 0
      refine Z.i_extend sW14 hR (by rw [List.length_map, List.length_map, sizeLine_eq]; omega) fun H16 u16 => ?_
      rw [← List.map_append] at u16
      have mS : two S0 S1 r ∈ [a, M, S0, S1, C0, C1, F] := two_in hr (by simp) (by simp)
      have SM : two S0 S1 r ≠ M := two_ne hr (Ne.symm M_S0) (Ne.symm M_S1)
      have SF : two S0 S1 r ≠ F := two_ne hr (Ne.symm F_S0) (Ne.symm F_S1)
      have SC : two S0 S1 r ≠ CC := two_ne hr (Ne.symm CC_S0) (Ne.symm CC_S1)
      have SSS : two S0 S1 r ≠ SS := two_ne hr (Ne.symm SS_S0) (Ne.symm SS_S1)
      have SR : R ≠ two S0 S1 r := (two_ne hr (Ne.symm R_S0) (Ne.symm R_S1)).symm
      have bl14 : Z.ButL [a, M, S0, S1, C0, C1, F] H12 H14 := .ofBut b1214 (by simp)
      have bl16 : Z.ButL [a, M, S0, S1, C0, C1, F] H12 H16 := bl14.up u16 mS
      have kp16 : Kept H12 H16 := kp14.trans (.up u16 sW14)
      have M16 := u16.get SM.symm (b1214.get M_a M12)
      have F16 := u16.get SF.symm (b1214.get F_a F12)
      have R16 := u16.get SR hR
      have W16 := u16.at
      have p16 := p14.up u16 (two_ne hr S0_a S1_a).symm
      k_call_by "za" 0
      refine m_fire0 (iR25.kept (k12.trans kp16)) ?_
      k_call_by "za" 0
      refine Z.i_ixL M16 (fn_at hr) ?_
      k_call_by "za" 0
      rename_i r1 H17 n17 r2 H18 n18
      have s1618 : Same H16 H18 := by k_call_by "fr" 0
      have kp18 := kp16.trans (.of s1618)
      refine c_Node_fire (rows := [row]) (iR25.kept (k12.trans kp18)) ⟨h2, h3, h5⟩ (W.mm.kept kp18) ⟨_, n18.at, .cons ⟨r1, rfl, n18.get n17.at⟩ .nil⟩ ⟨by show [row.length] = [down]; rw [rs], fun row' hr' x hx => by rw [List.mem_singleton.mp hr'] at hx; exact rnum x hx⟩ ⟨_, rfl, keep_len _ _, keep_num (upped_num W.nu)⟩ (Nat.le_trans h2.2 (by decide)) fun t19 mv q19 H19 f19 s19 e19 g19 m19 => ?_
      have due := due_eq (S := S r) (row := row) (f := f r) h5.1 h2.1 h3.1 sl rs
      have ef : (Nd.resample up down ns).fire 0 (.tup (keepOf ns (upped up (S r)))) [row] = (0, .tup (keepOf ns (upped up (S r ++ row))), dueOf up down ns (S r ++ row) (f r)) := by
        unfold Nd.fire
        rw [if_pos rfl]
        show (0, Kp.tup ((upped up row).foldl (rstep ns) (keepOf ns (upped up (S r)), [])).1, Z.stepped down ((upped up row).foldl (rstep ns) (keepOf ns (upped up (S r)), [])).2) = _
        rw [due.2, show ((upped up row).foldl (rstep ns) (keepOf ns (upped up (S r)), [])).1 = _ from congrArg Prod.fst due.1]
      rw [ef] at g19 m19
      have s1619 := s1618.trans s19
      clear n17 n18 s19
      have M19 := s1619 _ _ M16
      k_call_by "za" 0
      refine Z.i_setL M19 (Z.ixN_nat (by simpa using hr)) fun H20 u20 => ?_
      have qM : q19 ≠ M := Z.ne_fr' f19 (s1618 _ _ M16)
      have bl20 : Z.ButL [a, M, S0, S1, C0, C1, F] H12 H20 := (bl16.same s1619).up u20 (by simp)
      have kp20 := (kp16.trans (.of s1619)).trans (.up u20 M19)
      have kp1920 : Kept H19 H20 := .up u20 M19
      have F20 := u20.get F_M (s1619 _ _ F16)
      have R20 := u20.get R_M (s1619 _ _ R16)
      have W20 := u20.get SM (s1619 _ _ W16)
      have p20 := (p16.mono s1619).up u20 (Ne.symm M_a)
      have q20 := u20.get qM g19
      have SS20 := bl20 _ _ SSn SS12
      have CC20 := bl20 _ _ CCn CC12
      have T20 := bl20 _ _ Tn T12
      have P20 := bl20 _ _ Pn P12
      have Snum : ∀ n ∈ S r ++ row, Num n := num_app W.nu rnum
      have gb := due_big (up := up) (down := down) (f := f r) h5.2.2 h5.2.1 Snum
      have Sl : (S r ++ row).length = f r * down + down := by rw [List.length_append, sl, rs]
      k_call_by "za" 0
      refine Z.i_ixL SS20 (two_ref hr) ?_
      k_call_by "za" 0
      refine Z.i_ixL F20 (nt_at hr) ?_
      k_call_by "za" 0
      refine c_l_given W20 P20 h2.1 h2.2 h3.1 h3.2 Sl (by omega) (by omega) h5.2.2 Snum fun d21 H21 f21 s21 e21 => ?_
      k_call_by "za" 0
      refine Z.i_repr (Z.dp_lints (s21 _ _ q20)) (Z.neat_ints gb (by unfold dueOf; rw [List.length_map, List.length_range]; omega)) ?_
      k_call_by "za" 0
      refine Z.i_repr (Z.dp_lints e21) (Z.neat_ints gb (by unfold dueOf; rw [List.length_map, List.length_range]; omega)) ?_
      k_call_by "za" 0
      refine Z.itnF rfl ?_
      k_call_by "za" 0
      refine Z.i_ixL (s21 _ _ CC20) (two_ref hr) ?_
      k_call_by "za" 0
      have Ca : two C0 C1 r ≠ a := two_ne hr C0_a C1_a
      have CM : two C0 C1 r ≠ M := two_ne hr C0_M C1_M
      have CF : two C0 C1 r ≠ F := two_ne hr (Ne.symm F_C0) (Ne.symm F_C1)
      have CS : ∀ i, i < 2 → two C0 C1 r ≠ two S0 S1 i := fun i hi => two_ne hr (two_ne hi (Ne.symm C0_S0) (Ne.symm C0_S1)).symm (two_ne hi (Ne.symm C1_S0) (Ne.symm C1_S1)).symm
      have C20 := u20.get CM (s1619 _ _ (u16.get (CS r hr) (b1214.get Ca W.ch)))
      have C21 := s21 _ _ C20
      have kp21 := kp20.trans (.of s21)
      have kpA := k12.trans kp21
      refine c_l_by_three (U := upped up (S r)) (s21 _ _ T20) C21 (s21 _ _ R20) (iU25.kept kpA) (iT25.kept kpA) (iD25.kept kpA) (W.m0.kept kp21) (W.m1.kept kp21) (W.m2.kept kp21) h2 h3 h5 rs rnum (upped_num W.nu) (two_ne hr C0_T C1_T).symm (two_ne hr (Ne.symm R_C0) (Ne.symm R_C1)).symm fun q22 u0 u1 u2 H22 b22 c22 n0 n1 n2 f22 e22 => ?_
      k_call_by "za" 0
      have dC : d21 ≠ two C0 C1 r := Z.ne_fr' f21 C20
      refine Z.i_neLI (ns := Z.stepped down ((upped up row).foldl (rstep ns) (keepOf ns (upped up (S r)), [])).2) (ms := dueOf up down ns (S r ++ row) (f r)) e22 (b22.get dC e21) ?_
      k_call_by "za" 0
      refine Z.itnF due.2 ?_
      k_call_by "za" 0
      have F22 := b22.get CF.symm (s21 _ _ F20)
      refine Z.i_ixL F22 (nt_at hr) ?_
      k_call_by "za" 0
      refine Z.i_setL F22 (Z.ixN_nat (by simpa using hr)) fun H23 u23 => ?_
      have kp2223 : Kept H22 H23 := .up u23 F22
      have kp2123 : Kept H21 H23 := (Kept.but b22 C21).trans kp2223
      have kp23 : Kept H12 H23 := kp21.trans kp2123
      have bl23 : Z.ButL [a, M, S0, S1, C0, C1, F] H12 H23 := ((bl20.same s21).trans (.ofBut b22 (two_in hr (by simp) (by simp)))).up u23 (by simp)
      have u23' := u23.at
      rw [show ((f r : Nat) : Int) + 1 = ((f r + 1 : Nat) : Int) by omega, nt_set hr] at u23'
      have M23 := u23.get (Ne.symm F_M) (b22.get CM.symm (s21 _ _ u20.at))
      rw [fn_set hr] at M23
      have p23 : Pot H23 a := by
        have p21 := p20.mono s21
        obtain ⟨x, y, hh, hy⟩ := p21
        exact ⟨x, y, u23.get (Ne.symm F_a) (b22.get Ca.symm hh), hy⟩
      k_call_by "za" 0
      refine ⟨fun i => if i = r then mv else v i, fun i => if i = r then S r ++ row else S i, fun i => if i = r then f r + 1 else f i, fun i => if i = r then tri u0 u1 u2 else u i, _, _, _, _, _, _, _, rfl, M23, u23', ?_, p23, bl12.trans bl23, k12.trans kp23⟩
      intro i hi
      by_cases e : i = r
      · subst e
        simp only [if_pos]
        refine ⟨u23.get SF (b22.get (CS i hi).symm (s21 _ _ W20)), m19.kept (kp1920.trans ((Kept.of s21).trans kp2123)), u23.get CF c22, n0.kept kp2223, ?_, n2.kept kp2223, ?_, by omega, Snum⟩
        · rw [upped_append]
          exact n1.kept kp2223
        · rw [Sl, Nat.add_mul, Nat.one_mul]
      · simp only [if_neg e]
        refine (inv i hi).mono (fun o ho => ?_) (fun o ho => ?_) kp23 (by omega)
        · exact u23.get (two_ne hi (Ne.symm F_S0) (Ne.symm F_S1)) (b22.get (CS i hi).symm (s21 _ _ (u20.get (two_ne hi (Ne.symm M_S0) (Ne.symm M_S1)) (s1619 _ _ (u16.get (two_ne2 hi hr e S1_S0) (b1214.get (two_ne hi S0_a S1_a) ho))))))
        · have CSr : two C0 C1 i ≠ two S0 S1 r := two_ne hi (two_ne hr (Ne.symm C0_S0) (Ne.symm C0_S1)).symm (two_ne hr (Ne.symm C1_S0) (Ne.symm C1_S1)).symm
          exact u23.get (two_ne hi (Ne.symm F_C0) (Ne.symm F_C1)) (b22.get (two_ne2 hi hr e C1_C0) (s21 _ _ (u20.get (two_ne hi C0_M C1_M) (s1619 _ _ (u16.get CSr (b1214.get (two_ne hi C0_a C1_a) ho))))))
    · rintro σ H12 ⟨v, S, f, u, x11, x12, x13, x14, x15, x16, x17, rfl, M12, F12, inv, p12, bl12, k12⟩
      k_call_by "za" 0
      refine k _ p12 ⟨fun b o nb hb => bl12 _ _ ?_ (sH25 _ _ hb)⟩
      obtain ⟨e1, e2, e3, e4, e5, e6⟩ := fr25 b o hb
      simp only [List.mem_cons, List.not_mem_nil, or_false, not_or]
      exact ⟨nb, e3, e1, e2, e4, e5, e6⟩
def sp_law (K : PySem.W.Frag) : Sp := fun vz H Q Ex => ∃ (s0 : Addr) (ns0 : List Int), vz = [.ref s0] ∧ (SqL K H s0 (ns0.map V.int)) ∧ (ns0.length ≤ 63) ∧ (∀ H', Q (.bl true) H')
theorem c_law {K : PySem.W.Frag} {H : Hp} {Q : VK} {Ex : XK} {s0 : Addr} {ns0 : List Int} (h1 : SqL K H s0 (ns0.map V.int)) (h2 : ns0.length ≤ 63) (k : ∀ H', Q (.bl true) H') : sp_law K [.ref s0] H Q Ex := ⟨s0, ns0, rfl, h1, h2, k⟩
theorem ok_law  {P : Program} {w : World} {K : PySem.W.Frag} {mg : Str → Option Value} {base : Heap} (E : Ev K mg) : Z.Pr True P w K mg base 7 (He.ga K "law") d_law p_law (sp_law K) := by
  obtain ⟨fd, FD⟩ := E.fn 35 (d := d_law)
  refine ⟨fd, FD, Z.FunD.okG FD sc_law (fun vz H Q Ex h => ?_) (fun cdv A outer s H vz Q Ex hr hgd h => ?_)⟩
  · obtain ⟨_, _, rfl, _⟩ := h
    rfl
  · have hu := hr.units
    obtain ⟨s0, ns0, rfl, h1, h2, k⟩ := h
    have F_l_cell := ok_l_cell (g := True) (P := P) (w := w) (base := base) E
    have F_l_draw := ok_l_draw (g := True) (P := P) (w := w) (base := base) E
    have F_l_numbers := ok_l_numbers (g := True) (P := P) (w := w) (base := base) E
    have F_l_pot := ok_l_pot (g := True) (P := P) (w := w) (base := base) E
    have F_l_right := ok_l_right (P := P) (w := w) (base := base) E
    refine ⟨_, (Z.zs_cons (Z.z_for (passes_of rfl) rfl (pi_range1 (by rfl) (E.free 7) (pa_cons (pe_callB (Z.cmax2 rfl) (by rfl) (E.free 5) (by decide +kernel) (pa_cons pe_int (pa_cons (pe_callB (Z.cmin2 rfl) (by rfl) (E.free 44) (by decide +kernel) (pa_cons (pe_callB (Z.clenK K rfl) (by rfl) (E.free 4) (by decide +kernel) (pa_cons (pv 0) pa_nil)) (pa_cons pe_int pa_nil))) pa_nil))) pa_nil)) (pg_name (i := 1) sc_law.nd rfl (Or.inl rfl))
   (Z.zs_cons (Z.z_set (i := 2) sc_law.nd rfl (Or.inl rfl) (Z.pe_f F_l_pot (hr.mono (by decide)) hgd (by rfl) (E.glo 47) bd_l_pot (passL) (pa_cons (Z.pe_f F_l_cell (hr.mono (by decide)) hgd (by rfl) (E.glo 48) bd_l_cell (passL) (pa_cons (pv 0) (pa_cons (pv 1) pa_nil))) pa_nil)))
   (Z.zs_cons (Z.z_par (i := 3) (j := 4) rfl sc_law.nd rfl rfl (by decide) rfl rfl (pa_cons (pe_op (Z.opAddK K rfl) pe_int (Z.pe_f F_l_draw (hr.mono (by decide)) hgd (by rfl) (E.glo 6) bd_l_draw (passL) (pa_cons (pv 2) (pa_cons pe_int pa_nil)))) (pa_cons (pe_op (Z.opAddK K rfl) pe_int (Z.pe_f F_l_draw (hr.mono (by decide)) hgd (by rfl) (E.glo 6) bd_l_draw (passL) (pa_cons (pv 2) (pa_cons pe_int pa_nil)))) pa_nil)) (by rfl))
   (Z.zs_one (Z.z_if (pt_not (pt_val (Z.pe_f F_l_right (hr.mono (by decide)) hgd (by rfl) (E.glo 45) bd_l_right (passL) (pa_cons (pv 2) (pa_cons (pv 3) (pa_cons (pv 4) (pa_cons (Z.pe_f F_l_numbers (hr.mono (by decide)) hgd (by rfl) (E.glo 46) bd_l_numbers (passL) (pa_cons (pv 2) (pa_cons pe_int pa_nil))) pa_nil))))))) (Z.zs_one (Z.z_ret pe_bl)) Z.zs_nil)))))
   (Z.zs_one (Z.z_ret pe_bl))), ?_⟩
    refine Z.i_start (σ := [some (.ref s0), none, none, none, none]) rfl ?_
    try dsimp only [Z.cxK]
    k_call_by "za" 0
    refine Z.i_rng1I (by omega) (by omega) ?_
    refine Z.loop_range0 (fun i σ H1 => (∃ x1 x2 x3 x4, σ = [some (.ref s0), x1, x2, x3, x4]) ∧ Same H H1) ?_ ?_ ?_
    · exact ⟨⟨_, _, _, _, rfl⟩, .refl _⟩
    · rintro i σ H1 hi ⟨⟨x1, x2, x3, x4, rfl⟩, s1⟩
      k_call_by "za" 0
      refine c_l_cell (i := i) (s1.seq h1) (by omega) fun z => ?_
      k_call_by "za" 0
      refine c_l_pot fun a H2 f2 s2 p2 => ?_
      k_call_by "za" 0
      refine c_l_draw p2 (by decide) (by decide) fun r3 H3 r30 r31 p3 b3 => ?_
      k_call_by "za" 0
      refine c_l_draw p3 (by decide) (by decide) fun r4 H4 r40 r41 p4 b4 => ?_
      k_call_by "za" 0
      obtain ⟨up, hu⟩ : ∃ up : Nat, 1 + r3 = (up : Int) := ⟨(1 + r3).toNat, by omega⟩
      obtain ⟨down, hd⟩ : ∃ down : Nat, 1 + r4 = (down : Int) := ⟨(1 + r4).toNat, by omega⟩
      rw [hu, hd]
      refine c_l_numbers (m := 12) p4 (by decide) (by decide) fun p ns H5 f5 e5 n5 l1 l2 p5 b5 => ?_
      refine ⟨rfl, rfl, ?_⟩
      refine c_l_right p5 (by omega) (by omega) e5 ⟨l1, l2, n5⟩ (p4.ne f5) fun H7 p7 b7 => ?_
      k_call_by "za" 0
      have b27 : Z.But a H2 H7 := ((b3.trans b4).trans b5).trans b7
      exact ⟨⟨_, _, _, _, rfl⟩, Z.Same.thenBut (s1.trans s2) b27 (s1.free f2)⟩
    · rintro σ H1 ⟨⟨x1, x2, x3, x4, rfl⟩, s1⟩
      k_call_by "za" 0
      exact k _

theorem start_law {K : PySem.W.Frag} (H : Hp) (a : Addr) (ns : List Int) (l : ns.length ≤ 63) (_ : ∀ z ∈ ns, Builtin.Int.intBits z ≤ 1048576) (_ : L2.Only H) (h : SqL K H a (ns.map V.int)) :
    sp_law K [.ref a] H (fun v _ => v = .bl true) fun _ _ _ => False := c_law h l fun _ => rfl


abbrev R : PySem.W.OpenRow := PySem.W.OpenLaw.row PySem.Challenge.rw_sampleweave_k17_whole_resampled
abbrev hk : PySem.W.Hook := Z.hookX 5 fa fx dl
def obs (s : PySem.W.SharedT) : He.AlD := Z.obsXG 5 fa fx dl (HandSHeadRun.getT s)
theorem obs_eq (s : PySem.W.SharedT) : obs s = hk.obs s.abs := Z.obsXG_eq (HandSHeadRun.getT_eq s)
def names : List Str := (["_wall", "WeaveError", "NoNode", "is_whole", "is_whole_from", "MOST_LATE", "MOST_BEGIN", "MOST_RATE", "want", "Node", "MOST_TAPS", "are_wholes", "tapped", "Taps", "Up", "Down", "Resample", "_law_cell", "_law_pot", "_law_draw", "_law_number", "_law_numbers", "_law_sample", "_law_given", "_law_fired", "_law_by_three", "_law_right"] : List Str)
theorem run (w : World) : HandSHeadRun.RunEq R (PySem.W.view R.prog [33]) hk obs 12000 names w := by
  intro os
  kernel_rfl
end L
open PySem PySem.W PySem.Calls PyProof.Rows
set_option maxRecDepth 100000 in
set_option maxHeartbeats 0 in
theorem PySem.Challenge.cw_sampleweave_k17_whole_resampled_holds : PySem.Challenge.rw_sampleweave_k17_whole_resampled.Holds := by
  w_on; o_law
  refine HandSHeadRun.head_any (r := OpenLaw.row PySem.Challenge.rw_sampleweave_k17_whole_resampled) (q := view (OpenLaw.row PySem.Challenge.rw_sampleweave_k17_whole_resampled).prog [33]) (H := L.hk) (ob := L.obs) (M := 12000) (loose := L.names)
    (d := HandSHeadRun.topDef (OpenLaw.row PySem.Challenge.rw_sampleweave_k17_whole_resampled).prog 33) (kwd := []) L.obs_eq (by kernel_rfl) (fun s => by kernel_rfl) L.run (by kernel_rfl) (by kernel_rfl) (by kernel_rfl) (by rfl)
    (by first | assumption | decide +kernel) (by decide +kernel) ⟨rfl, rfl, rfl, rfl, rfl, by decide +kernel⟩ ?hw ?hc
  case hw => w_witness2
  case hc =>
    refine Z.walk_ofG (l := PySem.Challenge.rw_sampleweave_k17_whole_resampled) (n := 63) (k := 7) (x := "_law_script") rfl (by decide) (by kernel_rfl) ⟨rfl, by decide, by decide⟩ ?F
    intro w mg fa h Y G hmg0
    obtain ⟨K, KX, c⟩ := Y
    have hmg : mg ("law" : PySem.Str) = some (.ref fa) := by
      have e : (HandSHeadRun.topDef (OpenLaw.row PySem.Challenge.rw_sampleweave_k17_whole_resampled).prog 33).name = ("law" : PySem.Str) := by kernel_rfl
      rw [← e]
      exact hmg0
    have E : L.Ev K mg := ⟨c, h, KX, G⟩
    have e := hmg.symm.trans (E.glo 73)
    cases e
    obtain ⟨fd, FD, OK⟩ := (L.ok_law (P := (PySem.Challenge.rw_sampleweave_k17_whole_resampled).prog) (w := w) (base := h) E).ex
    refine ⟨K, fd, L.sp_law K, KX, fun s v => L2.FunD.bindsA (ps := ["_law_script"]) FD (fun _ _ _ _ _ _ us hl => match us, hl with | [_], _ => rfl) s [v] rfl, L.start_law, fun base b1 b2 => ?_⟩
    obtain ⟨fd', FD', OK'⟩ := (L.ok_law (P := (PySem.Challenge.rw_sampleweave_k17_whole_resampled).prog) (w := w) (base := base) E).ex
    rw [Z.FunD.uniq FD FD']
    exact OK'
#print axioms PySem.Challenge.cw_sampleweave_k17_whole_resampled_holds
