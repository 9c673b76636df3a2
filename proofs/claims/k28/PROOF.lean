import PyProof.Rows.All
import Wide.All
import OpenK.AllK
import Wide.FinOn
import HandS.ForMost
import HandS.Exc
import HandS.ExcOwn
import HandS.WordsExc
import HandS.Defaults
import HandS.MakeKwOnly
import HandS.Flow
import HandS.Style
import HandS.Wide
import HandS.WideBits
import HandS.IsInst
import HandS.TupAny
import HandS.TupMul
import HandS.Zip
import HandS.ClsMeth
import HandS.Deep
import HandS.Head0
import HandS.Head1
import HandS.Head2
import HandS.HeadEnd
import HandS.HeadHook1
import HandS.HeadHook2
import HandS.EndBits
import HandS.SortInts
import HandS.DictComp
import HandS.OwnEq
import HandS.Small
import KE.GoesEnum
import KE.KExcIs
import HandS.ExcInit
import HandS.ExcField
import PySem.Challenge.RW_sampleweave_k28_equal_and_long
set_option Elab.async false
set_option linter.all false
set_option maxRecDepth 100000
set_option maxHeartbeats 4000000

/-! Z, part one: promises of defs where it is known that no repr goes on around (g), calls by them. -/
namespace Z
open PySem PySem.Spec PyProof.Rows L2

/-- the guards are known to be none, where g asks for it -/
def Gd (g : Prop) (A : Around) : Prop := g → A.guards = some []
theorem Gd.deeper {g : Prop} {A : Around} (h : Gd g A) (env : Env) : Gd g (A.deeper env) := fun x => h x
theorem Gd.make {g : Prop} {A : Around} (h : Gd g A) (C : Addr) (us : List Value) (kw : List (Str × Value)) :
    Gd g (A.under (.builtin "type.__call__" ⟨.ref C :: us, kw⟩)) := fun x => by
  have e := h x
  simp [Around.under, Code.guards, Code.isGuard, guardIds, pushGuards, e]

/-- a def's promise, with the guards -/
structure FnG (g : Prop) (P : Program) (w : World) (K : PySem.W.Frag) (mg : Str → Option Value) (base : Heap) (k : Nat) (f : Addr) (fd : FuncData) (ps : List Str) (sp : Sp) : Prop where
  len : ∀ vs H Q E, sp vs H Q E → vs.length = ps.length
  run : ∀ (A : Around) (outer : List Env) (s : Shared) (H : Hp) (args : Args) (us : List Value) (vs : List V) (Q : VK) (E : XK),
    Room k A → Gd g A → Env0 P w K mg base A outer s H → BindsTo s fd args (ps.zip us) → Vals vs us → sp vs H Q E →
    codeAny (model P w) A (.call (.ref f) args) (CR (L2.CX P w) outer P w H s Q E) s

section
variable {g : Prop} {P : Program} {w : World} {K : PySem.W.Frag} {mg : Str → Option Value} {base : Heap}
theorem FnG.mono {j k : Nat} {f : Addr} {fd : FuncData} {ps : List Str} {sp : Sp} (F : FnG g P w K mg base j f fd ps sp) (h : j ≤ k) :
    FnG g P w K mg base k f fd ps sp where
  len := F.len
  run := fun A outer s H args us vs Q E r gd => F.run A outer s H args us vs Q E (r.mono h) gd
theorem FnG.ofOk {k : Nat} {f : Addr} {fd : FuncData} {ps : List Str} {sp : Sp} (F : FnOk P w K mg base (L2.CX P w) k f fd ps sp) :
    FnG g P w K mg base k f fd ps sp := ⟨F.len, fun A outer s H args us vs Q E r _ => F.run A outer s H args us vs Q E r⟩
theorem FnG.ok {k : Nat} {f : Addr} {fd : FuncData} {ps : List Str} {sp : Sp} (F : FnG False P w K mg base k f fd ps sp) :
    FnOk P w K mg base (L2.CX P w) k f fd ps sp :=
  ⟨F.len, fun A outer s H args us vs Q E r e0 => F.run A outer s H args us vs Q E r (fun z => z.elim) e0⟩
theorem FnG.imp {k : Nat} {f : Addr} {fd : FuncData} {ps : List Str} {sp sp' : Sp} (F : FnG g P w K mg base k f fd ps sp)
    (h : ∀ vs H Q E, sp' vs H Q E → sp vs H Q E) : FnG g P w K mg base k f fd ps sp' where
  len := fun vs H Q E q => F.len vs H Q E (h _ _ _ _ q)
  run := fun A outer s H args us vs Q E r gd e0 hb hv q => F.run A outer s H args us vs Q E r gd e0 hb hv (h _ _ _ _ q)

/-- a def by its body -/
theorem FunD.okG {x qual : Str} {params : Arguments} {body : List Stmt} {scope : Scope} {dvs : List V} {kws : List (Str × V)} {f : Addr} {fd : FuncData} {N ps : List Str} {k : Nat} {sp : Sp}
    (F : FunD K x qual params body scope dvs kws f fd) (S : FnScope N ps scope) (len : ∀ vs H Q E, sp vs H Q E → vs.length = ps.length)
    (hb : ∀ (cdv : Value) (A : Around) (outer : List Env) (s : Shared) (H : Hp) (vs : List V) (Q : VK) (E : XK),
      Room k (A.deeper (envOfC qual scope s.heap.objs.size f cdv)) → Gd g (A.deeper (envOfC qual scope s.heap.objs.size f cdv)) → sp vs H Q E →
      ∃ t, PSs (cxOf (L2.CX P w) P w K mg base N qual scope f cdv A outer s H E) body t ∧ t { nx := fun _ H' => Q .non H', rt := Q } (start N vs) H) :
    FnG g P w K mg base (k + 1) f fd ps sp := by
  obtain ⟨oc, od, dV, kV, doc, pm, an, cdv, ct, osl, rfl, lk, hcd, _, _⟩ := F.ex
  refine ⟨len, fun A outer s H args us vs Q E r gd e0 bnd rel q0 => ?_⟩
  have vl := len _ _ _ _ q0
  have KX : K.In s.heap := e0.mod.kin.keeps fun b o z => (e0.bs b o z).1
  have nl : s.heap.NoLimit := e0.mod.nolimit.keeps fun b o z => (e0.bs b o z).1
  have kd : ∀ y ∈ ps.zip us, scope.names.lookup y.1 = some .local ∨ (scope.names.lookup y.1 = some .cell ∧ ((cellsFrom (s.heap.objs.size + 1) scope.names []).lookup y.1).isSome = true) := by
    intro y hy
    rcases S.par y.1 (List.of_mem_zip (show (y.1, y.2) ∈ ps.zip us from hy)).1 with z | z
    · exact Or.inl z
    · exact Or.inr ⟨z, PySem.W.cellsFrom_some _ _ _ (Or.inl z)⟩
  refine codeAny_call_function r.depth (KX _ _ lk) rfl S.co S.gen rfl (PySem.W.codeRec_of KX hcd) (bnd _ _ _ _ ?_)
  refine wpAny_newFunctionEnv_cells S.kind kd fun env ev s1 ic => ?_
  subst ev
  refine ⟨nl.keeps ic.toInCall.keep, codeAny_func ?_⟩
  obtain ⟨t, ht, q1⟩ := hb cdv A outer s H vs Q E (r.deeper _) (gd.deeper _) q0
  have I0 := inv_start (CX := L2.CX P w) (P := P) (w := w) (qual := qual) (f := f) (cd := cdv) (E := E) S r.hd e0 vl rel ic
  refine wpAny_mono (ht.run [] s1 (start N vs) H _ I0 q1) (fun fl s' z => ?_) fun e s' z => z
  match fl, z with
  | .ret u, ⟨v, σ', H', J, rv, q⟩ => exact ⟨v, H', J.os, J.bare, J.base, J.hok, rv, q⟩
  | .next, ⟨σ', H', J, q⟩ => exact ⟨.non, H', J.os, J.bare, J.base, J.hok, rfl, q⟩
  | .brk, ⟨_, _, _, q⟩ => exact q.elim
  | .cont, ⟨_, _, _, q⟩ => exact q.elim
end

/-- a def (a datum of the head) that stands at f and keeps its promise -/
structure Pr (g : Prop) (P : Program) (w : World) (K : PySem.W.Frag) (mg : Str → Option Value) (base : Heap) (k : Nat) (f : Addr) (d : He.DefD) (ps : List Str) (sp : Sp) : Prop where
  ex : ∃ fd, FunD K d.name d.qual d.params d.body d.scope (d.dvs K) (d.kws K) f fd ∧ FnG g P w K mg base k f fd ps sp
/-- how a call with n values and the keywords ks binds: gV puts them (and defaults) in the parameters' order -/
def Bd (d : He.DefD) (ps : List Str) (n : Nat) (ks : List Str) (gV : PySem.W.Frag → List V → List V → List V) : Prop :=
  ∀ (K : PySem.W.Frag) (f : Addr) (fd : FuncData), FunD K d.name d.qual d.params d.body d.scope (d.dvs K) (d.kws K) f fd → ∃ gg, KBn K fd ps n ks gg (gV K)
theorem Bd.plain {d : He.DefD} {ps : List Str} {n : Nat} (hn : n = ps.length) (hd : d.dfl = []) (hk : d.kwd = [])
    (h : ∀ (kV doc pm : Value) (an : Option Addr) (cdv ct : Value) (us : List Value), us.length = ps.length →
      bindArgs (PySem.W.fnOf d.name d.qual d.params d.body d.scope .none kV doc pm an cdv ct) ⟨us, []⟩ = pure (ps.zip us)) : Bd d ps n [] (fun _ vs _ => vs) := by
  subst hn
  intro K f fd F
  have e1 : d.dvs K = [] := by unfold He.DefD.dvs; rw [hd]; rfl
  have e2 : d.kws K = [] := by unfold He.DefD.kws; rw [hk]; rfl
  rw [e1, e2] at F
  have B := F.bindsN h
  refine ⟨fun us _ => us, ⟨fun s us ws X l1 l2 => ?_, fun r _ => r⟩⟩
  cases ws with
  | nil =>
    have z := B s us X (by rw [List.append_nil]; exact l1)
    rw [List.append_nil] at z
    exact z
  | cons a b => cases l2

section
variable {X : Cx} {g : Prop} {k n : Nat} {f C : Addr} {d : He.DefD} {ps ks : List Str} {gV : PySem.W.Frag → List V → List V → List V} {sp : Sp} {E : XK} {x m : Str} {p pos apos : Pos} {e o : Expr} {es : List Expr} {kws : List Keyword} {ta : TE} {t tk : TA}
/-- the callee runs -/
theorem run_g {fd : FuncData} {gg : List Value → List Value → List Value} {gW : List V → List V → List V} {pins : List (Addr × Obj)} {σ : L2.St} {H : Hp} {s : Shared} {Q : VK} {us ws : List Value} {vs zs : List V}
    (F : FnG g X.prog X.w X.K X.mg X.base k f fd ps sp) (hr : Room k X.A) (hgd : Gd g X.A) (hb : KBn X.K fd ps n ks gg gW) (hx : Passes (L2.CX X.prog X.w) X E)
    (I : Inv X pins σ H s) (r : Vals vs us) (rz : Vals zs ws) (l1 : vs.length = n) (l2 : zs.length = ks.length) (h : sp (gW vs zs) H Q E) :
    wpAny (model X.prog X.w) X.A (call (.ref f) us (ks.zip ws)) (EP X pins σ Q) X.xe s := by
  refine wpAny_call (codeAny_mono (F.run X.A X.stack s H ⟨us, ks.zip ws⟩ (gg us ws) (gW vs zs) Q E hr hgd I.env0 (hb.to s us ws I.kIn (r.length.symm.trans l1) (rz.length.symm.trans l2)) (hb.rel r rz) h) fun z s' hq => ?_)
  match z, hq with
  | .error e, hq => exact hx pins σ H s e s' I hq
  | .ok (.ret u), hq => exact I.after hq
  | .ok .next, hq => exact False.elim hq
  | .ok .brk, hq => exact False.elim hq
  | .ok .cont, hq => exact False.elim hq

/-- a call's reading: the values, the keywords' values, the promise -/
def zCall (K : PySem.W.Frag) (n m : Nat) (gV : PySem.W.Frag → List V → List V → List V) (sp : Sp) (E : XK) (t tk : TA) : TE := fun σ H Q =>
  t σ H fun vs H1 => tk σ H1 fun zs H2 => vs.length = n ∧ zs.length = m ∧ sp (gV K vs zs) H2 Q E

theorem pe_fk (F : Pr g X.prog X.w X.K X.mg X.base k f d ps sp) (hr : Room k X.A) (hgd : Gd g X.A) (hg : Gl X x) (hm : X.mg x = some (.ref f)) (hb : Bd d ps n ks gV) (hx : Passes (L2.CX X.prog X.w) X E)
    (ha : PA X (e :: es) t) (hkw : PK X kws tk) (hall : (backToKw pos (keywordEach kws X.env)).all (·.1.isSome) = true := by rfl)
    (hks : (backToKw pos (keywordEach kws X.env)).filterMap (·.1) = ks := by rfl) (hdb : (x == ("__debug__" : Str)) = false := by decide)
    (he : starEach (e :: es) X.env = (false, eval e X.env) :: starEach es X.env := by rfl)
    (hpl : ((backTo pos (starEach (e :: es) X.env)).any (·.1) || (backToKw pos (keywordEach kws X.env)).any (·.1.isNone)) = false := by rfl) :
    PE X (.Call (.Name x p) (e :: es) kws pos) (zCall X.K n ks.length gV sp E t tk) := by
  obtain ⟨fd, FD, OK⟩ := F.ex
  obtain ⟨gg, B⟩ := hb _ _ _ FD
  refine ⟨fun pins s σ H Q I h => ?_⟩
  refine wpAny_Call_Name_kw (ld_glob I hg hm ?_ hdb)
  refine PySem.W.callWith_KW (h₀ := X.base) I.ok.mod.kin FD.kp hall ?_ hpl he
  refine thn (ha.run pos pins s σ H _ I h) fun us s1 ⟨vs, H1, I1, r, q⟩ => ?_
  refine thn (hkw.run pos pins s1 σ H1 _ I1 q) fun ws s2 ⟨zs, H2, I2, rz, l1, l2, q2⟩ => ⟨I2.kIn, ?_⟩
  rw [hks]
  exact run_g OK hr hgd B hx I2 r rz l1 l2 q2
theorem pe_fk0 (F : Pr g X.prog X.w X.K X.mg X.base k f d ps sp) (hr : Room k X.A) (hgd : Gd g X.A) (hg : Gl X x) (hm : X.mg x = some (.ref f)) (hb : Bd d ps n ks gV) (hx : Passes (L2.CX X.prog X.w) X E)
    (hkw : PK X kws tk) (hall : (backToKw pos (keywordEach kws X.env)).all (·.1.isSome) = true := by rfl)
    (hks : (backToKw pos (keywordEach kws X.env)).filterMap (·.1) = ks := by rfl) (hdb : (x == ("__debug__" : Str)) = false := by decide)
    (hpl : ((backTo pos (starEach [] X.env)).any (·.1) || (backToKw pos (keywordEach kws X.env)).any (·.1.isNone)) = false := by rfl) :
    PE X (.Call (.Name x p) [] kws pos) (zCall X.K n ks.length gV sp E tNil tk) := by
  obtain ⟨fd, FD, OK⟩ := F.ex
  obtain ⟨gg, B⟩ := hb _ _ _ FD
  refine ⟨fun pins s σ H Q I h => ?_⟩
  refine wpAny_Call_Name_kw (ld_glob I hg hm ?_ hdb)
  refine PySem.W.callWith_KW0 (h₀ := X.base) I.ok.mod.kin FD.kp hall ?_ hpl
  refine thn (hkw.run pos pins s σ H _ I h) fun ws s2 ⟨zs, H2, I2, rz, l1, l2, q2⟩ => ⟨I2.kIn, ?_⟩
  rw [hks]
  exact run_g (us := []) (vs := []) OK hr hgd B hx I2 .nil rz l1 l2 q2
theorem pe_f (F : Pr g X.prog X.w X.K X.mg X.base k f d ps sp) (hr : Room k X.A) (hgd : Gd g X.A) (hg : Gl X x) (hm : X.mg x = some (.ref f)) (hb : Bd d ps n [] gV) (hx : Passes (L2.CX X.prog X.w) X E)
    (ha : PA X (e :: es) t) (hdb : (x == ("__debug__" : Str)) = false := by decide) (he : starEach (e :: es) X.env = (false, eval e X.env) :: starEach es X.env := by rfl)
    (hpl : (backTo pos (starEach es X.env)).any (·.1) = false := by rfl) : PE X (.Call (.Name x p) (e :: es) [] pos) (zCall X.K n 0 gV sp E t tNil) := by
  obtain ⟨fd, FD, OK⟩ := F.ex
  obtain ⟨gg, B⟩ := hb _ _ _ FD
  refine ⟨fun pins s σ H Q I h => ?_⟩
  refine wpAny_Call_Name_kw (ld_glob I hg hm ?_ hdb)
  refine PySem.W.callWith_K (h₀ := X.base) I.ok.mod.kin FD.kp ?_ he hpl
  refine thn (ha.run pos pins s σ H _ I h) fun us s1 ⟨vs, H1, I1, r, l1, l2, q⟩ => ⟨I1.kIn, ?_⟩
  exact run_g (ws := []) (zs := []) (ks := []) OK hr hgd B hx I1 r .nil l1 l2 q
theorem pe_f0 (F : Pr g X.prog X.w X.K X.mg X.base k f d ps sp) (hr : Room k X.A) (hgd : Gd g X.A) (hg : Gl X x) (hm : X.mg x = some (.ref f)) (hb : Bd d ps n [] gV) (hx : Passes (L2.CX X.prog X.w) X E)
    (hdb : (x == ("__debug__" : Str)) = false := by decide) : PE X (.Call (.Name x p) [] [] pos) (zCall X.K n 0 gV sp E tNil tNil) := by
  obtain ⟨fd, FD, OK⟩ := F.ex
  obtain ⟨gg, B⟩ := hb _ _ _ FD
  refine ⟨fun pins s σ H Q I ⟨l1, l2, q⟩ => ?_⟩
  refine wpAny_Call_Name_kw (ld_glob I hg hm ?_ hdb)
  exact PySem.W.callWith_K0 I.kIn FD.kp (run_g (us := []) (vs := []) (ws := []) (zs := []) (ks := []) OK hr hgd B hx I .nil .nil l1 l2 q)

/-- a method of the class at C: the promise of the def behind the name m -/
structure Mt (g : Prop) (X : Cx) (C : Addr) (m : Str) (n : Nat) (ks : List Str) (gV : PySem.W.Frag → List V → List V → List V) (sp : Sp) : Prop where
  cl : Cls X.K C
  ex : ∃ (k : Nat) (f : Addr) (d : He.DefD) (ps : List Str), Meth X.K C m f ∧ Pr g X.prog X.w X.K X.mg X.base k f d ps sp ∧ Bd d ps n ks gV ∧ Room k X.A ∧ Gd g X.A
/-- o.m(..): the object's class is looked up in the heap, and its method's promise is asked -/
def zMeth (X : Cx) (m : Str) (ks : List Str) (E : XK) (ta : TE) (t tk : TA) : TE := fun σ H Q => ta σ H fun x H1 =>
  ∃ (g : Prop) (a C dx : Addr) (fs : List (Str × V)) (n : Nat) (gV : PySem.W.Frag → List V → List V → List V) (sp : Sp), x = .ref a ∧ H1 a = some (.ins C dx fs) ∧ fs.lookup m = none ∧ Mt g X C m n ks gV sp ∧
    t σ H1 fun vs H2 => tk σ H2 fun zs H3 => (V.ref a :: vs).length = n ∧ zs.length = ks.length ∧ sp (gV X.K (.ref a :: vs) zs) H3 Q E
theorem pe_m {pl : Sem Bool} (hx : Passes (L2.CX X.prog X.w) X E) (he : PE X o ta) (ha : PA X (e :: es) t)
    (hst : starEach (e :: es) X.env = (false, eval e X.env) :: starEach es X.env := by rfl) (hpl : (backTo pos (starEach es X.env)).any (·.1) = false := by rfl)
    (ht : eval (.Call (.Attribute o m apos) (e :: es) [] pos) X.env = (do
      let ov ← eval o X.env; standAt apos.atName
      let (f, first) ← holding [ov] (getMethod ov m pl); callWith pos f first (backTo pos (starEach (e :: es) X.env)) (backToKw pos (keywordEach [] X.env))) := by rfl) :
    PE X (.Call (.Attribute o m apos) (e :: es) [] pos) (zMeth X m [] E ta t tNil) := by
  refine ⟨fun pins s σ H Q I h => ?_⟩
  refine PySem.W.methodCall_KW (pl := pl) (thn (he.run pins s σ H _ I h) fun u s1 ⟨x, H1, I1, rx, g, a, C, dx, fs, n, gV, sp, ex, ea, l, M, q⟩ => ?_) ht
  subst ex
  obtain rfl : u = Value.ref a := rx
  obtain ⟨k, f, d, ps, hm, F, hb, hr, hgd⟩ := M.ex
  obtain ⟨fd, FD, OK⟩ := F.ex
  obtain ⟨gg, B⟩ := hb _ _ _ FD
  refine getmeth_ok I1 ea M.cl hm l ?_
  refine PySem.W.callWith_K (first := [.ref a]) (h₀ := X.base) I.ok.mod.kin hm.kp ?_ hst hpl
  refine thn (ha.run pos pins s1 σ H1 _ I1 q) fun us s2 ⟨vs, H2, I2, r, l1, l2, q2⟩ => ⟨I2.kIn, ?_⟩
  exact run_g (us := .ref a :: us) (vs := .ref a :: vs) (ws := []) (zs := []) (ks := []) OK hr hgd B hx I2 (.cons rfl r) .nil l1 l2 q2
theorem pe_m0 {pl : Sem Bool} (hx : Passes (L2.CX X.prog X.w) X E) (he : PE X o ta)
    (ht : eval (.Call (.Attribute o m apos) [] [] pos) X.env = (do
      let ov ← eval o X.env; standAt apos.atName
      let (f, first) ← holding [ov] (getMethod ov m pl); callWith pos f first (backTo pos (starEach [] X.env)) (backToKw pos (keywordEach [] X.env))) := by rfl) :
    PE X (.Call (.Attribute o m apos) [] [] pos) (zMeth X m [] E ta tNil tNil) := by
  refine ⟨fun pins s σ H Q I h => ?_⟩
  refine PySem.W.methodCall_KW (pl := pl) (thn (he.run pins s σ H _ I h) fun u s1 ⟨x, H1, I1, rx, g, a, C, dx, fs, n, gV, sp, ex, ea, l, M, l1, l2, q⟩ => ?_) ht
  subst ex
  obtain rfl : u = Value.ref a := rx
  obtain ⟨k, f, d, ps, hm, F, hb, hr, hgd⟩ := M.ex
  obtain ⟨fd, FD, OK⟩ := F.ex
  obtain ⟨gg, B⟩ := hb _ _ _ FD
  refine getmeth_ok I1 ea M.cl hm l ?_
  exact PySem.W.callWith_K0 (first := [.ref a]) I1.kIn hm.kp (run_g (us := [.ref a]) (vs := [.ref a]) (ws := []) (zs := []) (ks := []) OK hr hgd B hx I1 (.cons rfl .nil) .nil l1 l2 q)
theorem pe_mk {pl : Sem Bool} (hx : Passes (L2.CX X.prog X.w) X E) (he : PE X o ta) (ha : PA X (e :: es) t) (hkw : PK X kws tk)
    (hall : (backToKw pos (keywordEach kws X.env)).all (·.1.isSome) = true := by rfl) (hks : (backToKw pos (keywordEach kws X.env)).filterMap (·.1) = ks := by rfl)
    (hst : starEach (e :: es) X.env = (false, eval e X.env) :: starEach es X.env := by rfl)
    (hpl : ((backTo pos (starEach (e :: es) X.env)).any (·.1) || (backToKw pos (keywordEach kws X.env)).any (·.1.isNone)) = false := by rfl)
    (ht : eval (.Call (.Attribute o m apos) (e :: es) kws pos) X.env = (do
      let ov ← eval o X.env; standAt apos.atName
      let (f, first) ← holding [ov] (getMethod ov m pl); callWith pos f first (backTo pos (starEach (e :: es) X.env)) (backToKw pos (keywordEach kws X.env))) := by rfl) :
    PE X (.Call (.Attribute o m apos) (e :: es) kws pos) (zMeth X m ks E ta t tk) := by
  refine ⟨fun pins s σ H Q I h => ?_⟩
  refine PySem.W.methodCall_KW (pl := pl) (thn (he.run pins s σ H _ I h) fun u s1 ⟨x, H1, I1, rx, g, a, C, dx, fs, n, gV, sp, ex, ea, l, M, q⟩ => ?_) ht
  subst ex
  obtain rfl : u = Value.ref a := rx
  obtain ⟨k, f, d, ps, hm, F, hb, hr, hgd⟩ := M.ex
  obtain ⟨fd, FD, OK⟩ := F.ex
  obtain ⟨gg, B⟩ := hb _ _ _ FD
  refine getmeth_ok I1 ea M.cl hm l ?_
  refine PySem.W.callWith_KW (first := [.ref a]) (h₀ := X.base) I.ok.mod.kin hm.kp hall ?_ hpl hst
  refine thn (ha.run pos pins s1 σ H1 _ I1 q) fun us s2 ⟨vs, H2, I2, r, q2⟩ => ?_
  refine thn (hkw.run pos pins s2 σ H2 _ I2 q2) fun ws s3 ⟨zs, H3, I3, rz, l1, l2, q3⟩ => ⟨I3.kIn, ?_⟩
  rw [hks]
  exact run_g (us := .ref a :: us) (vs := .ref a :: vs) OK hr hgd B hx I3 (.cons rfl r) rz l1 l2 q3
theorem pe_mk0 {pl : Sem Bool} (hx : Passes (L2.CX X.prog X.w) X E) (he : PE X o ta) (hkw : PK X kws tk)
    (hall : (backToKw pos (keywordEach kws X.env)).all (·.1.isSome) = true := by rfl) (hks : (backToKw pos (keywordEach kws X.env)).filterMap (·.1) = ks := by rfl)
    (hpl : ((backTo pos (starEach [] X.env)).any (·.1) || (backToKw pos (keywordEach kws X.env)).any (·.1.isNone)) = false := by rfl)
    (ht : eval (.Call (.Attribute o m apos) [] kws pos) X.env = (do
      let ov ← eval o X.env; standAt apos.atName
      let (f, first) ← holding [ov] (getMethod ov m pl); callWith pos f first (backTo pos (starEach [] X.env)) (backToKw pos (keywordEach kws X.env))) := by rfl) :
    PE X (.Call (.Attribute o m apos) [] kws pos) (zMeth X m ks E ta tNil tk) := by
  refine ⟨fun pins s σ H Q I h => ?_⟩
  refine PySem.W.methodCall_KW (pl := pl) (thn (he.run pins s σ H _ I h) fun u s1 ⟨x, H1, I1, rx, g, a, C, dx, fs, n, gV, sp, ex, ea, l, M, q⟩ => ?_) ht
  subst ex
  obtain rfl : u = Value.ref a := rx
  obtain ⟨k, f, d, ps, hm, F, hb, hr, hgd⟩ := M.ex
  obtain ⟨fd, FD, OK⟩ := F.ex
  obtain ⟨gg, B⟩ := hb _ _ _ FD
  refine getmeth_ok I1 ea M.cl hm l ?_
  refine PySem.W.callWith_KW0 (first := [.ref a]) (h₀ := X.base) I.ok.mod.kin hm.kp hall ?_ hpl
  refine thn (hkw.run pos pins s1 σ H1 _ I1 q) fun ws s3 ⟨zs, H3, I3, rz, l1, l2, q3⟩ => ⟨I3.kIn, ?_⟩
  rw [hks]
  exact run_g (us := [.ref a]) (vs := [.ref a]) OK hr hgd B hx I3 (.cons rfl .nil) rz l1 l2 q3

/-- C(..): a new instance and its dict, then __init__ (n counts the instance) -/
def zMake (K : PySem.W.Frag) (C : Addr) (n m : Nat) (gV : PySem.W.Frag → List V → List V → List V) (sp : Sp) (E : XK) (t tk : TA) : TE := fun σ H Q =>
  t σ H fun vs H1 => tk σ H1 fun zs H2 => vs.length + 1 = n ∧ zs.length = m ∧ ∀ x dx, H2 x = none → H2 dx = none → dx ≠ x →
    sp (gV K (.ref x :: vs) zs) (upd (upd H2 dx (.own x)) x (.ins C dx [])) (fun v H3 => v = .non ∧ Q (.ref x) H3) E
theorem run_mk {fd : FuncData} {gg : List Value → List Value → List Value} {gW : List V → List V → List V} {pins : List (Addr × Obj)} {σ : L2.St} {H : Hp} {s : Shared} {Q : VK} {us ws : List Value} {vs zs : List V}
    (M : L2.Mk X.K C f) (F : FnG g X.prog X.w X.K X.mg X.base k f fd ps sp) (hr : Room (k + 1) X.A) (hgd : Gd g X.A) (hb : KBn X.K fd ps n ks gg gW) (hx : Passes (L2.CX X.prog X.w) X E)
    (I : Inv X pins σ H s) (r : Vals vs us) (rz : Vals zs ws) (l1 : vs.length + 1 = n) (l2 : zs.length = ks.length)
    (h : ∀ x dx, H x = none → H dx = none → dx ≠ x → sp (gW (.ref x :: vs) zs) (upd (upd H dx (.own x)) x (.ins C dx [])) (fun v H2 => v = .non ∧ Q (.ref x) H2) E) :
    wpAny (model X.prog X.w) X.A (call (.ref C) us (ks.zip ws)) (EP X pins σ Q) X.xe s := by
  have q0 := h (s.heap.objs.size + 1) s.heap.objs.size (I.hok.fresh (Nat.le_succ _)) (I.hok.fresh (Nat.le_refl _)) (Nat.ne_of_lt (Nat.lt_succ_self _))
  have J := Inv.made (C := C) I
  have rs : Vals (V.ref (s.heap.objs.size + 1) :: vs) (Value.ref (s.heap.objs.size + 1) :: us) := .cons rfl r
  have ln : (Value.ref (s.heap.objs.size + 1) :: us).length = n := by rw [List.length_cons, ← r.length]; exact l1
  refine wpAny_call (make_map (f := f) I.kIn M.makes M.init (beq_iff_eq.mp M.fn) (codeAny_mono (F.run _ X.stack _ _ ⟨Value.ref (s.heap.objs.size + 1) :: us, ks.zip ws⟩ (gg (Value.ref (s.heap.objs.size + 1) :: us) ws) _ _ E
    (hr.make C us (ks.zip ws)) (hgd.make C us (ks.zip ws)) (J.env0.make C us (ks.zip ws)) (hb.to _ (Value.ref (s.heap.objs.size + 1) :: us) ws J.kIn ln (rz.length.symm.trans l2)) (hb.rel rs rz) q0) fun z s' hq => ?_))
  match z, hq with
  | .error e, hq => exact hx pins σ _ _ e s' J hq
  | .ok (.ret u), hq =>
    obtain ⟨v, H', I3, rv, ev, q3⟩ := J.after hq
    subst ev
    exact ⟨rv, ⟨V.ref (s.heap.objs.size + 1), H', I3, rfl, q3⟩⟩
  | .ok .next, hq => exact False.elim hq
  | .ok .brk, hq => exact False.elim hq
  | .ok .cont, hq => exact False.elim hq
section
variable (M : L2.Mk X.K C f) (F : Pr g X.prog X.w X.K X.mg X.base k f d ps sp) (hr : Room (k + 1) X.A) (hgd : Gd g X.A) (hg : Gl X x) (hm : X.mg x = some (.ref C)) (hx : Passes (L2.CX X.prog X.w) X E)
include M F hr hgd hg hm hx
theorem pe_new (hb : Bd d ps n [] gV) (ha : PA X (e :: es) t) (hdb : (x == ("__debug__" : Str)) = false := by decide) (he : starEach (e :: es) X.env = (false, eval e X.env) :: starEach es X.env := by rfl)
    (hpl : (backTo pos (starEach es X.env)).any (·.1) = false := by rfl) : PE X (.Call (.Name x p) (e :: es) [] pos) (zMake X.K C n 0 gV sp E t tNil) := by
  obtain ⟨fd, FD, OK⟩ := F.ex
  obtain ⟨gg, B⟩ := hb _ _ _ FD
  refine ⟨fun pins s σ H Q I h => ?_⟩
  refine wpAny_Call_Name_kw (ld_glob I hg hm ?_ hdb)
  refine PySem.W.callWith_K (h₀ := X.base) I.ok.mod.kin M.kp ?_ he hpl
  refine thn (ha.run pos pins s σ H _ I h) fun us s1 ⟨vs, H1, I1, r, l1, l2, q⟩ => ⟨I1.kIn, ?_⟩
  exact run_mk (ws := []) (zs := []) (ks := []) M OK hr hgd B hx I1 r .nil l1 l2 q
theorem pe_new0 (hb : Bd d ps n [] gV) (hdb : (x == ("__debug__" : Str)) = false := by decide) : PE X (.Call (.Name x p) [] [] pos) (zMake X.K C n 0 gV sp E tNil tNil) := by
  obtain ⟨fd, FD, OK⟩ := F.ex
  obtain ⟨gg, B⟩ := hb _ _ _ FD
  refine ⟨fun pins s σ H Q I ⟨l1, l2, q⟩ => ?_⟩
  refine wpAny_Call_Name_kw (ld_glob I hg hm ?_ hdb)
  exact PySem.W.callWith_K0 I.kIn M.kp (run_mk (us := []) (vs := []) (ws := []) (zs := []) (ks := []) M OK hr hgd B hx I .nil .nil l1 l2 q)
theorem pe_newk (hb : Bd d ps n ks gV) (ha : PA X (e :: es) t) (hkw : PK X kws tk)
    (hall : (backToKw pos (keywordEach kws X.env)).all (·.1.isSome) = true := by rfl) (hks : (backToKw pos (keywordEach kws X.env)).filterMap (·.1) = ks := by rfl) (hdb : (x == ("__debug__" : Str)) = false := by decide)
    (he : starEach (e :: es) X.env = (false, eval e X.env) :: starEach es X.env := by rfl)
    (hpl : ((backTo pos (starEach (e :: es) X.env)).any (·.1) || (backToKw pos (keywordEach kws X.env)).any (·.1.isNone)) = false := by rfl) :
    PE X (.Call (.Name x p) (e :: es) kws pos) (zMake X.K C n ks.length gV sp E t tk) := by
  obtain ⟨fd, FD, OK⟩ := F.ex
  obtain ⟨gg, B⟩ := hb _ _ _ FD
  refine ⟨fun pins s σ H Q I h => ?_⟩
  refine wpAny_Call_Name_kw (ld_glob I hg hm ?_ hdb)
  refine PySem.W.callWith_KW (h₀ := X.base) I.ok.mod.kin M.kp hall ?_ hpl he
  refine thn (ha.run pos pins s σ H _ I h) fun us s1 ⟨vs, H1, I1, r, q⟩ => ?_
  refine thn (hkw.run pos pins s1 σ H1 _ I1 q) fun ws s2 ⟨zs, H2, I2, rz, l1, l2, q2⟩ => ⟨I2.kIn, ?_⟩
  rw [hks]
  exact run_mk M OK hr hgd B hx I2 r rz l1 l2 q2
theorem pe_newk0 (hb : Bd d ps n ks gV) (hkw : PK X kws tk)
    (hall : (backToKw pos (keywordEach kws X.env)).all (·.1.isSome) = true := by rfl) (hks : (backToKw pos (keywordEach kws X.env)).filterMap (·.1) = ks := by rfl) (hdb : (x == ("__debug__" : Str)) = false := by decide)
    (hpl : ((backTo pos (starEach [] X.env)).any (·.1) || (backToKw pos (keywordEach kws X.env)).any (·.1.isNone)) = false := by rfl) :
    PE X (.Call (.Name x p) [] kws pos) (zMake X.K C n ks.length gV sp E tNil tk) := by
  obtain ⟨fd, FD, OK⟩ := F.ex
  obtain ⟨gg, B⟩ := hb _ _ _ FD
  refine ⟨fun pins s σ H Q I h => ?_⟩
  refine wpAny_Call_Name_kw (ld_glob I hg hm ?_ hdb)
  refine PySem.W.callWith_KW0 (h₀ := X.base) I.ok.mod.kin M.kp hall ?_ hpl
  refine thn (hkw.run pos pins s σ H _ I h) fun ws s2 ⟨zs, H2, I2, rz, l1, l2, q2⟩ => ⟨I2.kIn, ?_⟩
  rw [hks]
  exact run_mk (us := []) (vs := []) M OK hr hgd B hx I2 .nil rz l1 l2 q2
end
end
end Z

/-! Z, part two: statements with their ways out as arguments; operations by values; heaps by names. -/
namespace Z
open PySem PySem.Spec PyProof.Rows L2

/-! ### heaps -/
structure New (H : Hp) (p : Addr) (o : HO) (H' : Hp) : Prop where
  fr : H p = none
  eq : H' = upd H p o
structure Up (H : Hp) (p : Addr) (o : HO) (H' : Hp) : Prop where
  was : ∃ u, H p = some u
  eq : H' = upd H p o
/-- all but a stands -/
structure But (a : Addr) (H H' : Hp) : Prop where
  all : ∀ b u, b ≠ a → H b = some u → H' b = some u
section
variable {H H' H1 H2 : Hp} {a b p : Addr} {o u : HO}
theorem New.at (n : New H p o H') : H' p = some o := by rw [n.eq]; exact upd_same
theorem New.get (n : New H p o H') (h : H a = some u) : H' a = some u := by rw [n.eq, upd_ne (ne_of_none h n.fr)]; exact h
theorem New.same (n : New H p o H') : Same H H' := fun _ _ h => n.get h
theorem New.ne (n : New H p o H') (h : H a = some u) : a ≠ p := ne_of_none h n.fr
theorem New.ne' (n : New H p o H') (h : H a = some u) : p ≠ a := (ne_of_none h n.fr).symm
theorem Up.at (n : Up H p o H') : H' p = some o := by rw [n.eq]; exact upd_same
theorem Up.get (n : Up H p o H') (ne : a ≠ p) (h : H a = some u) : H' a = some u := by rw [n.eq, upd_ne ne]; exact h
theorem Up.but (n : Up H p o H') : But p H H' := ⟨fun _ _ ne h => n.get ne h⟩
theorem same_get (s : Same H H') (h : H a = some u) : H' a = some u := s a u h
theorem But.get (n : But p H H') (ne : a ≠ p) (h : H a = some u) : H' a = some u := n.all a u ne h
theorem But.refl : But p H H := ⟨fun _ _ _ h => h⟩
theorem But.trans (x : But p H H1) (y : But p H1 H2) : But p H H2 := ⟨fun b u ne h => y.get ne (x.get ne h)⟩
theorem But.ofSame (x : Same H H1) : But p H H1 := ⟨fun b u _ h => x b u h⟩
/-- p is new: what is done to it doesn't matter to what stood -/
theorem But.back (x : But p H H1) (f : H p = none) : Same H H1 := fun b u h => x.get (ne_of_none h f) h
theorem Same.thenBut (x : Same H H1) (y : But p H1 H2) (f : H p = none) : Same H H2 := fun b u h => y.get (ne_of_none h f) (x b u h)
theorem Same.up (x : Same H H1) (y : Up H1 p o H2) (f : H p = none) : Same H H2 := Same.thenBut x y.but f
theorem Same.new (x : Same H H1) (y : New H1 p o H2) : Same H H2 := fun b u h => y.get (x b u h)
theorem But.new (x : But a H H1) (y : New H1 p o H2) : But a H H2 := ⟨fun b u ne h => y.get (x.get ne h)⟩
theorem But.up (x : But a H H1) (y : Up H1 a o H2) : But a H H2 := x.trans y.but
theorem But.upNew (x : But a H H1) (y : Up H1 p o H2) (f : H p = none) : But a H H2 := ⟨fun b u ne h => y.get (ne_of_none h f) (x.get ne h)⟩
theorem But.same (x : But a H H1) (y : Same H1 H2) : But a H H2 := x.trans (.ofSame y)
theorem free_back (s : Same H H') (h : H' p = none) : H p = none := Same.free s h
theorem But.free (s : But a H H') (h : H' p = none) (ne : p ≠ a) : H p = none := by
  cases e : H p with
  | none => rfl
  | some u => rw [s.get ne e] at h; cases h
end
section
variable {H H1 H2 : Hp} {a p : Addr} {o : HO}
theorem fr_new (y : New H1 p o H2) (x : Same H H1) : Same H H2 := Same.new x y
theorem fr_same (y : Same H1 H2) (x : Same H H1) : Same H H2 := x.trans y
theorem fr_up (y : Up H1 p o H2) (x : Same H H1) (f : H p = none) : Same H H2 := Same.up x y f
theorem fr_but (y : But p H1 H2) (x : Same H H1) (f : H p = none) : Same H H2 := Same.thenBut x y f
theorem fb_new (y : New H1 p o H2) (x : But a H H1) : But a H H2 := x.new y
theorem fb_same (y : Same H1 H2) (x : But a H H1) : But a H H2 := x.same y
theorem fb_but (y : But a H1 H2) (x : But a H H1) : But a H H2 := x.trans y
theorem fb_up (y : Up H1 a o H2) (x : But a H H1) : But a H H2 := x.up y
theorem fb_upn (y : Up H1 p o H2) (x : But a H H1) (f : H p = none) : But a H H2 := x.upNew y f
theorem fb_butn (y : But p H1 H2) (x : But a H H1) (f : H p = none) : But a H H2 := ⟨fun b u ne h => y.get (ne_of_none h f) (x.get ne h)⟩
theorem fresh_by (n : New H1 p o H2) (s : Same H H1) : H p = none := free_back s n.fr
theorem fresh_at (n : H1 p = none) (s : Same H H1) : H p = none := free_back s n
theorem fresh_but (n : New H1 p o H2) (s : But a H H1) (ne : p ≠ a) : H p = none := s.free n.fr ne
end
theorem ne_fr {H : Hp} {a b : Addr} {u : HO} (f : H b = none) (h : H a = some u) : a ≠ b := ne_of_none h f
theorem ne_fr' {H : Hp} {a b : Addr} {u : HO} (f : H b = none) (h : H a = some u) : b ≠ a := (ne_of_none h f).symm
theorem sq_same {K : PySem.W.Frag} {H H' : Hp} {a : Addr} {xs : List V} (s : Same H H') (h : SqL K H a xs) : SqL K H' a xs := s.seq h
theorem sq_new {K : PySem.W.Frag} {H H' : Hp} {a p : Addr} {o : HO} {xs : List V} (n : New H p o H') (h : SqL K H a xs) : SqL K H' a xs := Same.seq n.same h
theorem i_wipe {σ σ2 : L2.St} {vs : List Nat} {G : Prop} (e : wipe σ2 vs = wipe σ vs) (h : G) : wipe σ2 vs = wipe σ vs ∧ G := ⟨e, h⟩
theorem in_new {G : V → Hp → Prop} {H : Hp} {o : HO} (h : ∀ p H', New H p o H' → G (.ref p) H') : ∀ p, H p = none → G (.ref p) (upd H p o) := fun p f => h p _ ⟨f, rfl⟩
theorem in_newA {G : Addr → Hp → Prop} {H : Hp} {o : HO} (h : ∀ p H', New H p o H' → G p H') : ∀ p, H p = none → G p (upd H p o) := fun p f => h p _ ⟨f, rfl⟩
theorem in_up {G : Hp → Prop} {H : Hp} {p : Addr} {o u : HO} (w : H p = some u) (h : ∀ H', Up H p o H' → G H') : G (upd H p o) := h _ ⟨⟨u, w⟩, rfl⟩

/-! ### statements: nx, what a return wants, break, continue, slots, heap -/
abbrev TZ := (L2.St → Hp → Prop) → VK → (L2.St → Hp → Prop) → (L2.St → Hp → Prop) → L2.St → Hp → Prop
def zS (t : TZ) : TS := fun D => t D.nx D.rt D.bk D.ct
section
variable {X : Cx} {st : Stmt} {rest : List Stmt} {t u : TZ} {pos : Pos} {e : Expr} {te : TE}
def zNext : TZ := fun nx _ _ _ σ H => nx σ H
def zSeq (t u : TZ) : TZ := fun nx rt bk ct σ H => t (fun σ H => u nx rt bk ct σ H) rt bk ct σ H
def zDrop (te : TE) : TZ := fun nx _ _ _ σ H => te σ H fun _ H1 => nx σ H1
def zRet (te : TE) : TZ := fun _ rt _ _ σ H => te σ H rt
def zRetN : TZ := fun _ rt _ _ _ H => rt .non H
def zBreak : TZ := fun _ _ bk _ σ H => bk σ H
def zCont : TZ := fun _ _ _ ct σ H => ct σ H
def zIf (c : TT) (t u : TZ) : TZ := fun nx rt bk ct σ H => c σ H fun b H1 => if b = true then t nx rt bk ct σ H1 else u nx rt bk ct σ H1
def zAsg (te : TE) (g : TG) : TZ := fun nx _ _ _ σ H => te σ H fun x H1 => g x σ H1 nx
def zAug (i : Nat) (te : TE) (ti : TIp) : TZ := fun nx _ _ _ σ H => ∃ x, σ[i]? = some (some x) ∧ te σ H fun y H1 => ti x y H1 fun z H2 => nx (σ.set i (some z)) H2
def zPar (i j : Nat) (ta : TA) : TZ := fun nx _ _ _ σ H => ta σ H fun vs H1 => ∃ v w, vs = [v, w] ∧ nx ((σ.set i (some v)).set j (some w)) H1
def zPar3 (i j l : Nat) (ta : TA) : TZ := fun nx _ _ _ σ H => ta σ H fun vs H1 => ∃ u v w, vs = [u, v, w] ∧ nx (((σ.set i (some u)).set j (some v)).set l (some w)) H1
def zFld (K : PySem.W.Frag) (ta tv : TE) (f : Str) : TZ := fun nx rt bk ct σ H => sFld K ta tv f ⟨nx, rt, bk, ct⟩ σ H
def zAugS (to ti te : TE) (tget : V → V → Hp → VK → Prop) (tip : TIp) (tset : TSet) : TZ := fun nx _ _ _ σ H =>
  to σ H fun o H1 => ti σ H1 fun i H2 => tget o i H2 fun x H3 => te σ H3 fun y H4 => tip x y H4 fun z H5 => tset o i z H5 fun H6 => nx σ H6
def zFldAug (K : PySem.W.Frag) (ta tv : TE) (rd : V → V → Hp → VK → Prop) (f : Str) : TZ := fun nx rt bk ct σ H => sFldAug K ta tv rd f ⟨nx, rt, bk, ct⟩ σ H
def zNever : TZ := fun _ _ _ _ _ _ => False
/-- a loop behind its iterator -/
def zLoop (J : It) (g : TG) (tb : TZ) (nx : L2.St → Hp → Prop) (rt : VK) (σ : L2.St) (H1 : Hp) : Prop :=
  ∃ W : Nat → Nat → L2.St → Hp → Prop, (∃ m, W 0 m σ H1) ∧ ∀ i m σ H, W i m σ H → (J.stop i H ∧ nx σ H) ∨ (J.go i H ∧ ∃ N : L2.St → Hp → Prop, (∀ σ' H', N σ' H' → ∃ m', m' < m ∧ W (i + 1) m' σ' H') ∧
    ∀ x H', J.yld i H x H' → g x σ H' fun σ2 H2 => tb N rt nx N σ2 H2)
def zFor (wi : TI) (g : TG) (tb : TZ) : TZ := fun nx rt _ _ σ H => wi σ H fun J H1 => zLoop J g tb nx rt σ H1
/-- a while's body, from a state with so great a measure -/
def zBody (W : Nat → L2.St → Hp → Prop) (m : Nat) (tb : TZ) (nx : L2.St → Hp → Prop) (rt : VK) (σ : L2.St) (H : Hp) : Prop :=
  ∃ N : L2.St → Hp → Prop, (∀ σ' H', N σ' H' → ∃ m', m' < m ∧ W m' σ' H') ∧ tb N rt nx N σ H
def zWhile (c : TT) (tb : TZ) : TZ := fun nx rt _ _ σ H => ∃ W : Nat → L2.St → Hp → Prop, (∃ m, W m σ H) ∧ ∀ m σ H, W m σ H →
  c σ H fun b H1 => if b = true then zBody W m tb nx rt σ H1 else nx σ H1

theorem zs_nil : PSs X [] (zS zNext) := pss_nil
theorem zs_cons (h1 : PS X st (zS t)) (h2 : PSs X rest (zS u)) : PSs X (st :: rest) (zS (zSeq t u)) := pss_cons h1 h2
theorem zs_one (h : PS X st (zS t)) : PSs X [st] (zS t) := pss_one h
theorem z_expr (he : PE X e te) (hs : swapsWith e none pos.line X.env = pure false := by rfl) : PS X (.Expr e pos) (zS (zDrop te)) := ps_expr he hs
theorem z_ret (he : PE X e te) : PS X (.Return (some e) pos) (zS (zRet te)) := ps_ret he
theorem z_retN : PS X (.Return none pos) (zS zRetN) := ps_retN
theorem z_pass : PS X (.Pass pos) (zS zNext) := ps_pass
theorem z_break : PS X (.Break pos) (zS zBreak) := ps_break
theorem z_continue : PS X (.Continue pos) (zS zCont) := ps_continue
theorem z_never : PS X st (zS zNever) := ps_never
theorem z_if {c : Expr} {a b : List Stmt} {tc : TT} (hc : PT X c tc) (ha : PSs X a (zS t)) (hb : PSs X b (zS u)) : PS X (.If c a b pos) (zS (zIf tc t u)) := ps_if hc ha hb
theorem z_asg {tg : Expr} {g : TG} (he : PE X e te) (hg : PG X tg g) (hs : swapsWithSole [tg] e pos.line X.env = pure false := by rfl) (hw : swappedStores [tg] e X.env = pure none := by rfl)
    (h1 : (assignEach [tg] X.env).map (·.2) = [assign tg X.env] := by rfl) : PS X (.Assign [tg] e pos) (zS (zAsg te g)) := ps_asg he hg hs hw h1
theorem z_set {i : Nat} {x : Str} {pos' : Pos} (hN : X.N.Nodup) (hi : X.N[i]? = some x) (hx : Loc X.env.scope x) (he : PE X e te) (hs : swapsWith e (some (.Name x pos')) pos.line X.env = pure false := by rfl)
    (hf : X.fn x = true ∨ X.env.scope.names.lookup x = some .local := by first | exact .inl rfl | exact .inr rfl | assumption) : PS X (.Assign [.Name x pos'] e pos) (zS (zAsg te (gName i))) := ps_set hN hi hx he hs hf
theorem z_aug {i : Nat} {x : Str} {op : Operator} {ti : TIp} {pos' : Pos} (hN : X.N.Nodup) (hi : X.N[i]? = some x) (hx : Loc X.env.scope x) (he : PE X e te) (ho : PIp X op ti)
    (hf : X.fn x = true ∨ X.env.scope.names.lookup x = some .local := by first | exact .inl rfl | exact .inr rfl | assumption) : PS X (.AugAssign (.Name x pos') op e pos) (zS (zAug i te ti)) := ps_aug hN hi hx he ho hf
theorem z_augS {o i : Expr} {to ti : TE} {tget : V → V → Hp → VK → Prop} {tip : TIp} {tset : TSet} {op : Operator} {tpos : Pos} (ho : PE X o to) (hi : PE X i ti) (hg : PGet X tget) (he : PE X e te) (hp : PIp X op tip) (hs : PSet X tset)
    (ha : ∀ ov iv new, augStore i ov iv new = (do holding [new, ov, iv] (setItem ov iv new); release [new, ov, iv] []; pure .next) := by intros; rfl) : PS X (.AugAssign (.Subscript o i tpos) op e pos) (zS (zAugS to ti te tget tip tset)) := ps_augS ho hi hg he hp hs ha
theorem z_fld {o : Expr} {ta : TE} {f : Str} {pos' : Pos} (ha : PE X o ta) (hv : PE X e te) (hs : swapsWith e (some (.Attribute o f pos')) pos.line X.env = pure false := by rfl) :
    PS X (.Assign [.Attribute o f pos'] e pos) (zS (zFld X.K ta te f)) := ps_fld ha hv hs
theorem z_fldaug {o : Expr} {ta : TE} {f : Str} {op : Operator} {rd : V → V → Hp → VK → Prop} {tpos : Pos} (ha : PE X o ta) (hv : PE X e te) (hop : InOp X op rd) : PS X (.AugAssign (.Attribute o f tpos) op e pos) (zS (zFldAug X.K ta te rd f)) := ps_fldaug ha hv hop
theorem z_par {i j : Nat} {x y : Str} {a b : Expr} {ta : TA} {px py pt : Pos} {kt k2 pt2} (hc : X.calm = true) (hN : X.N.Nodup) (hi : X.N[i]? = some x) (hj : X.N[j]? = some y) (hij : i ≠ j)
    (hx : X.env.scope.names.lookup x = some .local) (hy : X.env.scope.names.lookup y = some .local) (ha : PA X [a, b] ta)
    (hp : swappedStores [.Tuple [.Name x px, .Name y py] kt pt] (.Tuple [a, b] k2 pt2) X.env = pure (some [x, y])) :
    PS X (.Assign [.Tuple [.Name x px, .Name y py] kt pt] (.Tuple [a, b] k2 pt2) pos) (zS (zPar i j ta)) := ps_par hc hN hi hj hij hx hy ha hp
theorem z_par3 {i j l : Nat} {x y z : Str} {a b c : Expr} {ta : TA} {px py pz pt : Pos} {kt k2 pt2} (hc : X.calm = true) (hN : X.N.Nodup) (hi : X.N[i]? = some x) (hj : X.N[j]? = some y) (hl : X.N[l]? = some z)
    (h1 : i ≠ j) (h2 : i ≠ l) (h3 : j ≠ l) (hx : X.env.scope.names.lookup x = some .local) (hy : X.env.scope.names.lookup y = some .local) (hz : X.env.scope.names.lookup z = some .local) (ha : PA X [a, b, c] ta)
    (hp : swappedStores [.Tuple [.Name x px, .Name y py, .Name z pz] kt pt] (.Tuple [a, b, c] k2 pt2) X.env = pure (some [x, y, z])) :
    PS X (.Assign [.Tuple [.Name x px, .Name y py, .Name z pz] kt pt] (.Tuple [a, b, c] k2 pt2) pos) (zS (zPar3 i j l ta)) := ps_par3 hc hN hi hj hl h1 h2 h3 hx hy hz ha hp
theorem z_setLc {i : Nat} {y : Str} {py : Pos} {elt tg iter : Expr} {ifs : List Expr} {scope : Scope} {own : List (Str × Nat)} {spos : Pos} {wi : TI} {g : TG} {tt : TT} (hc : X.calm = true) (hN : X.N.Nodup) (hy : X.N[i]? = some y) (hyl : X.env.scope.names.lookup y = some .local)
    (hsw : swapsWith (.ListComp elt [⟨tg, iter, ifs, 0⟩] scope pos) (some (.Name y py)) spos.line X.env = pure true) (hi : PI X tg iter wi) (ok : BlkOk X.N X.env.scope scope own)
    (hg : ∀ (s : Shared) (H : Hp) (C : Addr) (cl : List (Str × Addr)) (fp : List Addr), PG (X.blk s H scope (compEnvC scope cl C X.env) fp) tg g)
    (ht : ∀ (s : Shared) (H : Hp) (C : Addr) (cl : List (Str × Addr)) (fp : List Addr), PTs (X.blk s H scope (compEnvC scope cl C X.env) fp) ifs tt)
    (he : ∀ (s : Shared) (H : Hp) (C : Addr) (cl : List (Str × Addr)) (fp : List Addr), PE (X.blk s H scope (compEnvC scope cl C X.env) fp) elt te) (hs : ∀ x, foldedSetIterable iter X.env x = pure x := by intro _; rfl) :
    PS X (.Assign [.Name y py] (.ListComp elt [⟨tg, iter, ifs, 0⟩] scope pos) spos) (zS (zAsg (tLc wi g tt te (own.map (·.2))) (gName i))) := ps_setLc hc hN hy hyl hsw hi ok hg ht he hs
theorem z_for {tg iter : Expr} {body : List Stmt} {wi : TI} {g : TG} {tb : TZ} (hp : PassesOwn (model X.prog X.w) X.A X.env X.xe) (hc : X.calm = true) (hi : PI X tg iter wi) (hg : PG X tg g) (hb : PSs X body (zS tb))
    (hs : ∀ x, foldedSetIterable iter X.env x = pure x := by intro _; rfl) : PS X (.For tg iter body [] pos) (zS (zFor wi g tb)) := ps_for hp hc hi hg hb hs
theorem z_while {c : Expr} {body : List Stmt} {tc : TT} {tb : TZ} (hp : PassesOwn (model X.prog X.w) X.A X.env X.xe) (hc : PT X c tc) (hb : PSs X body (zS tb)) : PS X (.While c body [] pos) (zS (zWhile tc tb)) := ps_while hp hc hb
end

/-! ### their readings, from the front -/
section
variable {nx bk ct : L2.St → Hp → Prop} {rt : VK} {σ : L2.St} {H : Hp} {t u : TZ} {te ta tb : TE} {g : TG} {Q : VK} {QA : List V → Hp → Prop} {QB : Bool → Hp → Prop} {x y v : V} {vs : List V} {r : R2} {i j l : Nat} {c d : TT} {tr tk : TA} {K : PySem.W.Frag}
theorem i_next (h : nx σ H) : zNext nx rt bk ct σ H := h
theorem i_seq (h : t (fun σ H => u nx rt bk ct σ H) rt bk ct σ H) : zSeq t u nx rt bk ct σ H := h
theorem i_drop (h : te σ H fun _ H1 => nx σ H1) : zDrop te nx rt bk ct σ H := h
theorem i_ret (h : te σ H rt) : zRet te nx rt bk ct σ H := h
theorem i_retN (h : rt .non H) : zRetN nx rt bk ct σ H := h
theorem i_break (h : bk σ H) : zBreak nx rt bk ct σ H := h
theorem i_cont (h : ct σ H) : zCont nx rt bk ct σ H := h
theorem i_if (h : c σ H fun b H1 => if b = true then t nx rt bk ct σ H1 else u nx rt bk ct σ H1) : zIf c t u nx rt bk ct σ H := h
theorem i_asg (h : te σ H fun x H1 => g x σ H1 nx) : zAsg te g nx rt bk ct σ H := h
theorem i_aug {ti : TIp} (e : σ[i]? = some (some x)) (h : te σ H fun y H1 => ti x y H1 fun z H2 => nx (σ.set i (some z)) H2) : zAug i te ti nx rt bk ct σ H := ⟨x, e, h⟩
theorem i_par (h : tr σ H fun vs H1 => ∃ v w, vs = [v, w] ∧ nx ((σ.set i (some v)).set j (some w)) H1) : zPar i j tr nx rt bk ct σ H := h
theorem i_par3 (h : tr σ H fun vs H1 => ∃ u v w, vs = [u, v, w] ∧ nx (((σ.set i (some u)).set j (some v)).set l (some w)) H1) : zPar3 i j l tr nx rt bk ct σ H := h
theorem i_two {v w : V} {G : V → V → Prop} (h : G v w) : ∃ v' w', [v, w] = [v', w'] ∧ G v' w' := ⟨v, w, rfl, h⟩
theorem i_three {z v w : V} {G : V → V → V → Prop} (h : G z v w) : ∃ z' v' w', [z, v, w] = [z', v', w'] ∧ G z' v' w' := ⟨z, v, w, rfl, h⟩
theorem i_name {Q : L2.St → Hp → Prop} (h : Q (σ.set i (some v)) H) : gName i v σ H Q := h
theorem i_tupT {n : Nat} {a : Addr} {gs : TGs} {Q : L2.St → Hp → Prop} (h : H a = some (.tup vs)) (hn : vs.length = n) (q : gs vs σ H Q) : gTup K n gs (.ref a) σ H Q := ⟨a, vs, rfl, SqT.of h, hn, q⟩
theorem i_gcons {t : TG} {u : TGs} {Q : L2.St → Hp → Prop} (h : t v σ H fun σ' H' => u vs σ' H' Q) : gCons t u (v :: vs) σ H Q := ⟨v, vs, rfl, h⟩
theorem i_gnil {Q : L2.St → Hp → Prop} (h : Q σ H) : gNil [] σ H Q := ⟨rfl, h⟩
theorem i_gsub {to ti : TE} {t : TSet} {Q : L2.St → Hp → Prop} (h : to σ H fun o H1 => ti σ H1 fun i H2 => t o i v H2 fun H3 => Q σ H3) : gSub to ti t v σ H Q := h
theorem i_augS {to ti te : TE} {tget : V → V → Hp → VK → Prop} {tip : TIp} {tset : TSet} (h : to σ H fun o H1 => ti σ H1 fun i H2 => tget o i H2 fun x H3 => te σ H3 fun y H4 => tip x y H4 fun z H5 => tset o i z H5 fun H6 => nx σ H6) :
    zAugS to ti te tget tip tset nx rt bk ct σ H := h
theorem i_for {wi : TI} {tb : TZ} (h : wi σ H fun J H1 => zLoop J g tb nx rt σ H1) : zFor wi g tb nx rt bk ct σ H := h
-- expressions
theorem i_var (e : σ[i]? = some (some v)) (q : Q v H) : tVar i σ H Q := ⟨v, e, q⟩
theorem i_c (q : Q v H) : tC v σ H Q := q
theorem i_op (h : ta σ H fun x H1 => tb σ H1 fun y H2 => r x y H2 Q) : tOp r ta tb σ H Q := h
theorem i_un {r : V → Hp → VK → Prop} (h : ta σ H fun x H1 => r x H1 Q) : tUn r ta σ H Q := h
theorem i_nil (q : QA [] H) : tNil σ H QA := q
theorem i_cons (h : ta σ H fun x H1 => tr σ H1 fun xs H2 => QA (x :: xs) H2) : tCons ta tr σ H QA := h
theorem i_cb {r : List V → Hp → VK → Prop} (h : tr σ H fun vs H1 => r vs H1 Q) : tCB r tr σ H Q := h
theorem i_ifE (h : c σ H fun b H1 => if b = true then ta σ H1 Q else tb σ H1 Q) : tIf c ta tb σ H Q := h
theorem i_ifEJ (k : ∀ z : Int, Q (.int z) H) (h : ∀ Q' : VK, (∀ z : Int, Q' (.int z) H) → c σ H fun b H1 => if b = true then ta σ H1 Q' else tb σ H1 Q') : tIf c ta tb σ H Q := h Q k
theorem i_test (h : te σ H fun x H1 => ∃ k, x = .bl k ∧ QB k H1) : tTest te σ H QB := h
theorem i_b (h : te σ H fun x H1 => ∃ k, x = .bl k ∧ QB k H1) : tB te σ H QB := h
theorem i_and (h : c σ H fun b H1 => if b = true then d σ H1 QB else QB false H1) : tAnd c d σ H QB := h
theorem i_or (h : c σ H fun b H1 => if b = true then QB true H1 else d σ H1 QB) : tOr c d σ H QB := h
theorem i_not (h : c σ H fun b H1 => QB (!b) H1) : tNot c σ H QB := h
theorem i_andV (h : ta σ H fun x H1 => ∃ k, x = .bl k ∧ if k = true then tb σ H1 Q else Q (.bl false) H1) : tAndV ta tb σ H Q := h
theorem i_orV (h : ta σ H fun x H1 => ∃ k, x = .bl k ∧ if k = true then Q (.bl true) H1 else tb σ H1 Q) : tOrV ta tb σ H Q := h
theorem i_blV {b : Bool} {G : Bool → Prop} (q : G b) : ∃ k, V.bl b = .bl k ∧ G k := ⟨b, rfl, q⟩
theorem i_tup (h : tr σ H fun xs H1 => xs.length ≤ sizeLine ∧ ∀ p H', New H1 p (.tup xs) H' → Q (.ref p) H') : tTup tr σ H Q := by
  show tr σ H _
  exact cast (by congr 1; funext xs H1; exact propext ⟨fun h => ⟨h.1, fun p f => h.2 p _ ⟨f, rfl⟩⟩, fun h => ⟨h.1, fun p H' n => n.eq ▸ h.2 p n.fr⟩⟩) h
theorem i_lst (h : tr σ H fun xs H1 => xs.length ≤ sizeLine ∧ ∀ p H', New H1 p (.lst xs) H' → Q (.ref p) H') : tLst tr σ H Q := by
  show tr σ H _
  exact cast (by congr 1; funext xs H1; exact propext ⟨fun h => ⟨h.1, fun p f => h.2 p _ ⟨f, rfl⟩⟩, fun h => ⟨h.1, fun p H' n => n.eq ▸ h.2 p n.fr⟩⟩) h
theorem i_sz {n : Nat} {G : Prop} (hn : n ≤ 1000) (h : G) : n ≤ sizeLine ∧ G := ⟨Nat.le_trans hn (by rw [sizeLine_eq]; decide), h⟩
theorem i_call {n m : Nat} {gV : PySem.W.Frag → List V → List V → List V} {sp : Sp} {E : XK} (h : tr σ H fun vs H1 => tk σ H1 fun zs H2 => vs.length = n ∧ zs.length = m ∧ sp (gV K vs zs) H2 Q E) : zCall K n m gV sp E tr tk σ H Q := h
theorem i_len2 {n m : Nat} {zs : List V} {G : Prop} (e1 : vs.length = n) (e2 : zs.length = m) (h : G) : vs.length = n ∧ zs.length = m ∧ G := ⟨e1, e2, h⟩
end
end Z

/-! Z: tuple * int. -/
namespace Z
open PySem PySem.Spec PyProof.Rows L2
/-! ### tuple * int: one time, no time -/
theorem tuple_mulZ1 (l : Addr) (items : Array Value) (n : Nat) (dd : Option Addr) (sl : Array (Option Value)) (x : Int) (u : Tok) (c0 : (decide (x < -(2 ^ 63)) || decide (x ≥ 2 ^ 63)) = false) (c1 : (items.isEmpty || x == 1) = true) :
    Meets (Builtin.«tuple.__mul__» ⟨[.ref l, .int x u], []⟩) (fun _ R s => s.heap.get? l = some { cls := .type "tuple", dict := dd, data := .seq items n, slots := sl } ∧
      R (.ok (.ret (Value.ref l))) { s with heap := s.heap, toks := s.toks }) :=
  .of_wp fun prog w A R s h => by
    obtain ⟨hp, g, d, tk, os⟩ := s
    obtain ⟨hl, h⟩ := h
    have f1 := AutoSeq1.idx_int
    wp_walk using wpAny_loadPart' hl
    repeat (first
      | (refine wpAny_ite_false (decide_eq_false (by rw [c0]; exact Bool.false_ne_true)) ?_; wp_walk using wpAny_loadPart' hl)
      | (refine wpAny_ite_true (decide_eq_true c1) ?_; wp_walk using wpAny_loadPart' hl))
    exact ⟨_, rfl, h⟩
theorem tuple_mulZ0 (l : Addr) (items : Array Value) (n : Nat) (dd : Option Addr) (sl : Array (Option Value)) (x : Int) (u : Tok) (c0 : (decide (x < -(2 ^ 63)) || decide (x ≥ 2 ^ 63)) = false) (c1 : (items.isEmpty || x == 1) = false) (c2 : (decide (x ≤ 0) || items.isEmpty) = true) :
    Meets (Builtin.«tuple.__mul__» ⟨[.ref l, .int x u], []⟩) (fun _ R s => s.heap.get? l = some { cls := .type "tuple", dict := dd, data := .seq items n, slots := sl } ∧
      R (.ok (.ret (Value.ref s.heap.objs.size))) { s with heap := s.heap.push { cls := Value.type "tuple", data := Data.seq #[] }, toks := s.toks }) :=
  .of_wp fun prog w A R s h => by
    obtain ⟨hp, g, d, tk, os⟩ := s
    obtain ⟨hl, h⟩ := h
    have f1 := AutoSeq1.idx_int
    wp_walk using wpAny_loadPart' hl
    repeat (first
      | (refine wpAny_ite_false (decide_eq_false (by rw [c0]; exact Bool.false_ne_true)) ?_; wp_walk using wpAny_loadPart' hl)
      | (refine wpAny_ite_false (decide_eq_false (by rw [c1]; exact Bool.false_ne_true)) ?_; wp_walk using wpAny_loadPart' hl)
      | (refine wpAny_ite_true (decide_eq_true c2) ?_; wp_walk using wpAny_loadPart' hl))
    exact ⟨_, rfl, h⟩
/-- a tuple that isn't empty, so many times -/
def rRepZ (K : PySem.W.Frag) : R2 := fun x y H Q => ∃ l k xs, x = .ref l ∧ y = .int k ∧ SqT K H l xs ∧ xs ≠ [] ∧ -1000 ≤ k ∧ k ≤ 1000 ∧ xs.length ≤ 1000 ∧ (k = 1 → Q (.ref l) H) ∧ (k ≠ 1 → ∀ p, H p = none → Q (.ref p) (upd H p (.tup (List.replicate k.toNat xs).flatten)))
theorem op_repZ {X : Cx} : OpR X (binaryOp .Mult) (rRepZ X.K) := by
  intro pins s σ H x y v u Q I rx ry h
  obtain ⟨l, k, xs, rfl, rfl, hT, hne, h1, h2, hz, q1, q2⟩ := h
  by_cases hk : 2 ≤ k
  · exact op_repT pins s σ H _ _ v u Q I rx ry ⟨l, k, xs, rfl, rfl, hT, hne, hk, h2, hz, q2 (by omega)⟩
  cases rx
  obtain ⟨t, rfl⟩ := ry
  obtain ⟨its, r, ⟨⟨cls, dd, data, sl⟩, ho, hc, n, hd⟩, hs⟩ := I.tuple hT
  simp only at hc hd
  subst hc hd
  have hle : its.length = xs.length := r.length.symm
  have hn : its ≠ [] := fun e => hne (by
    rw [e] at hle
    exact List.eq_nil_of_length_eq_zero hle.symm)
  have hi : its.toArray.isEmpty = false := by
    cases its with
    | nil => exact absurd rfl hn
    | cons a b => rfl
  have c0 : (decide (k < -(2 ^ 63)) || decide (k ≥ 2 ^ 63)) = false := by
    rw [decide_eq_false (by omega), decide_eq_false (by omega)] <;> rfl
  by_cases e1 : k = 1
  · subst e1
    refine wpAny_binaryOp_repeat_ref (T := "tuple") (U := "int") (by decide) ⟨_, ho, rfl⟩ (fun s' => typeIs_int s' 1 t) noFill_tuple_mul F.fills_int_mul F.slot_int_rmul repeat_tuple F.slot_int_index.lookup
      (call_meets F.slot_int_rmul (typeIs_int s 1 t) F.entry_int_rmul (F.args_int_rmul_2 _ _) (int_rmul_tuple 1 t l its.toArray n dd sl)
        ⟨ho, rfl, ⟨_, ho, rfl⟩, call_meets F.slot_tuple_mul ⟨_, ho, rfl⟩ F.entry_tuple_mul (F.args_tuple_mul_2 _ _) (tuple_mulZ1 l its.toArray n dd sl 1 t c0 (by simp)) ⟨ho, ?_⟩⟩)
    exact ⟨.ref l, H, I, rfl, q1 rfl⟩
  · have c1 : (its.toArray.isEmpty || k == 1) = false := by
      rw [hi, Bool.false_or]
      exact beq_eq_false_iff_ne.mpr e1
    have c2 : (decide (k ≤ 0) || its.toArray.isEmpty) = true := by
      rw [decide_eq_true (by omega), Bool.true_or]
    have e0 : k.toNat = 0 := by omega
    have q := q2 e1
    rw [e0] at q
    refine wpAny_binaryOp_repeat_ref (T := "tuple") (U := "int") (by decide) ⟨_, ho, rfl⟩ (fun s' => typeIs_int s' k t) noFill_tuple_mul F.fills_int_mul F.slot_int_rmul repeat_tuple F.slot_int_index.lookup
      (call_meets F.slot_int_rmul (typeIs_int s k t) F.entry_int_rmul (F.args_int_rmul_2 _ _) (int_rmul_tuple k t l its.toArray n dd sl)
        ⟨ho, rfl, ⟨_, ho, rfl⟩, call_meets F.slot_tuple_mul ⟨_, ho, rfl⟩ F.entry_tuple_mul (F.args_tuple_mul_2 _ _) (tuple_mulZ0 l its.toArray n dd sl k t c0 c1 c2) ⟨ho, ?_⟩⟩)
    refine ⟨.ref s.heap.objs.size, _, I.laid (t' := s.toks) (o := .tup ([] : List V)) (fun b ob q => Heap.get?_push_of_some _ q) (Nat.le_refl _) ?_, rfl, q _ (I.hok.fresh (Nat.le_refl _))⟩
    exact ⟨Nat.zero_le _, [], .nil, IsTup.new _ _⟩
end Z

/-! Z, part three: operations by values, loops, comprehensions. -/
namespace Z
open PySem PySem.Spec PyProof.Rows L2

/-! ### + -/
def rAdd (K : PySem.W.Frag) : R2 := fun x y H Q => (∃ i j, x = .int i ∧ y = .int j ∧ Q (.int (i + j)) H) ∨ (∃ i j, x = .str i ∧ y = .str j ∧ i.length + j.length ≤ sizeLine ∧ Q (.str (i ++ j)) H) ∨ rCat x y H Q ∨ rCatA K x y H Q
theorem opAdd {X : Cx} : OpR X (binaryOp .Add) (rAdd X.K) := op_add.or (op_add_str.or (op_cat.or op_catA))
section
variable {K : PySem.W.Frag} {H : Hp} {Q : VK} {i j : Int} {a b : Str} {p q : Addr} {xs ys : List V} {v : V}
theorem i_addI (h : Q (.int (i + j)) H) : rAdd K (.int i) (.int j) H Q := .inl ⟨i, j, rfl, rfl, h⟩
theorem i_addS (z : a.length + b.length ≤ sizeLine) (h : Q (.str (a ++ b)) H) : rAdd K (.str a) (.str b) H Q := .inr (.inl ⟨a, b, rfl, rfl, z, h⟩)
theorem i_addL (h1 : H p = some (.lst xs)) (h2 : H q = some (.lst ys)) (z : xs.length + ys.length ≤ sizeLine) (h : ∀ r H', New H r (.lst (xs ++ ys)) H' → Q (.ref r) H') : rAdd K (.ref p) (.ref q) H Q :=
  .inr (.inr (.inl ⟨p, q, xs, ys, rfl, rfl, h1, h2, z, fun r f => h r _ ⟨f, rfl⟩⟩))
/-! ### * -/
def rMul (K : PySem.W.Frag) : R2 := fun x y H Q => (∃ i j, x = .int i ∧ y = .int j ∧ CMulX i j ∧ Q (.int (i * j)) H) ∨ (∃ i j, x = .int i ∧ y = .int j ∧ CMul i j ∧ Q (.int (i * j)) H) ∨ rRep x y H Q ∨ rRepZ K x y H Q
theorem opMul {X : Cx} : OpR X (binaryOp .Mult) (rMul X.K) := op_mulX.or (op_mul.or (op_rep.or op_repZ))
theorem i_mulI (c : CMulX i j) (h : Q (.int (i * j)) H) : rMul K (.int i) (.int j) H Q := .inl ⟨i, j, rfl, rfl, c, h⟩
theorem i_mulR (c : -(2 ^ 64) < j ∧ j < 2 ^ 64) (h : Q (.int (i * j)) H) : rMul K (.int i) (.int j) H Q := .inr (.inl ⟨i, j, rfl, rfl, .inr c, h⟩)
theorem i_mulJ (c : -(2 ^ 64) < i ∧ i < 2 ^ 64) (h : Q (.int (i * j)) H) : rMul K (.int i) (.int j) H Q := .inr (.inl ⟨i, j, rfl, rfl, .inl c, h⟩)
theorem i_mulL (h1 : H p = some (.lst xs)) (z1 : -(2 ^ 63) ≤ j) (z2 : j < 2 ^ 63) (z : xs.length * j.toNat ≤ sizeLine) (h : ∀ r H', New H r (.lst (List.replicate j.toNat xs).flatten) H' → Q (.ref r) H') : rMul K (.ref p) (.int j) H Q :=
  .inr <| .inr <| .inl ⟨p, j, xs, rfl, rfl, h1, z1, z2, z, fun r f => h r _ ⟨f, rfl⟩⟩
theorem i_mulT (h1 : H p = some (.tup xs)) (hne : xs ≠ []) (z : -1000 ≤ j ∧ j ≤ 1000) (l : xs.length ≤ 1000) (q1 : j = 1 → Q (.ref p) H) (q2 : j ≠ 1 → ∀ r H', New H r (.tup (List.replicate j.toNat xs).flatten) H' → Q (.ref r) H') : rMul K (.ref p) (.int j) H Q :=
  .inr <| .inr <| .inr ⟨p, j, xs, rfl, rfl, SqT.of h1, hne, z.1, z.2, l, q1, fun e r f => q2 e r _ ⟨f, rfl⟩⟩
/-- (a,) * j: some tuple of so many a -/
theorem i_mulTI {a : V} (h1 : H p = some (.tup [a])) (z : -1000 ≤ j ∧ j ≤ 1000) (q : ∀ r H', Same H H' → H' r = some (.tup (List.replicate j.toNat a)) → Q (.ref r) H') : rMul K (.ref p) (.int j) H Q := by
  refine i_mulT h1 (by simp) z (by simp) (fun e => ?_) fun e r H' n => ?_
  · subst e
    exact q p H (Same.refl _) h1
  · refine q r H' n.same ?_
    rw [n.at]
    congr 2
    induction j.toNat with
    | zero => rfl
    | succ m ih => rw [List.replicate_succ, List.flatten_cons, ih, List.replicate_succ]; rfl
/-! ### other operations on ints -/
theorem i_I {C : Int → Int → Prop} {f : Int → Int → V} (c : C i j) (h : Q (f i j) H) : rI C f (.int i) (.int j) H Q := ⟨i, j, rfl, rfl, c, h⟩
theorem i_I0 {f : Int → Int → V} (h : Q (f i j) H) : rI0 f (.int i) (.int j) H Q := ⟨i, j, rfl, rfl, h⟩
theorem i_U {f : Int → V} (h : Q (f i) H) : rU f (.int i) H Q := ⟨i, rfl, h⟩
theorem i_ipI {f : Int → Int → Int} (h : Q (.int (f i j)) H) : ipI f (.int i) (.int j) H Q := ⟨i, j, rfl, rfl, h⟩
/-! ### == and != -/
def rEqU (K : PySem.W.Frag) : R2 := fun x y H Q => rEq x y H Q ∨ rEqD K x y H Q
def rNeU (K : PySem.W.Frag) : R2 := fun x y H Q => rNe x y H Q ∨ rNeD K x y H Q
theorem opEq {X : Cx} (hu : X.A.units + 64 < cLine) : OpR X (compareOp .Eq) (rEqU X.K) := op_eq.or (op_eqD hu)
theorem opNe {X : Cx} (hu : X.A.units + 64 < cLine) : OpR X (compareOp .NotEq) (rNeU X.K) := op_ne.or (op_neD hu)
theorem i_eqI (h : Q (.bl (decide (i = j))) H) : rEqU K (.int i) (.int j) H Q := .inl ⟨rfl, by rw [show decide (V.int i = V.int j) = decide (i = j) from decide_eq_decide.mpr ⟨fun e => V.int.inj e, fun e => e ▸ rfl⟩]; exact h⟩
theorem i_neI (h : Q (.bl (!decide (i = j))) H) : rNeU K (.int i) (.int j) H Q := .inl ⟨rfl, by rw [show decide (V.int i = V.int j) = decide (i = j) from decide_eq_decide.mpr ⟨fun e => V.int.inj e, fun e => e ▸ rfl⟩]; exact h⟩
theorem i_eqS (h : Q (.bl (decide (a = b))) H) : rEqU K (.str a) (.str b) H Q := .inl ⟨rfl, by rw [show decide (V.str a = V.str b) = decide (a = b) from decide_eq_decide.mpr ⟨fun e => V.str.inj e, fun e => e ▸ rfl⟩]; exact h⟩
theorem i_neS (h : Q (.bl (!decide (a = b))) H) : rNeU K (.str a) (.str b) H Q := .inl ⟨rfl, by rw [show decide (V.str a = V.str b) = decide (a = b) from decide_eq_decide.mpr ⟨fun e => V.str.inj e, fun e => e ▸ rfl⟩]; exact h⟩
/-! deep data -/
/-- ints, texts, truths, none, lists and tuples of such; the model's own == is that of D here -/
inductive D where
  | non | bl (b : Bool) | int (i : Int) | str (x : Str) | lst (l : List D) | tup (l : List D)
mutual
def D.py : D → PyData
  | .non => .none
  | .bl b => .bool b
  | .int i => .int i
  | .str x => .str x
  | .lst l => .list (D.pys l)
  | .tup l => .tuple (D.pys l)
def D.pys : List D → List PyData
  | [] => []
  | d :: l => d.py :: D.pys l
end
end
/-- v is the data d, in the heap H -/
abbrev Is (K : PySem.W.Frag) (H : Hp) (v : V) (d : D) : Prop := Dp K H v d.py
abbrev Iss (K : PySem.W.Frag) (H : Hp) (vs : List V) (ds : List D) : Prop := DpAll K H vs (D.pys ds)
mutual
theorem dp_same {K : PySem.W.Frag} {H H' : Hp} (s : Same H H') : ∀ {v : V} {d : PyData}, Dp K H v d → Dp K H' v d
  | _, _, .non => .non
  | _, _, .bl b => .bl b
  | _, _, .int i => .int i
  | _, _, .str x => .str x
  | _, _, .lst h a => .lst (s.seq h) (dpa_same s a)
  | _, _, .tup h a => .tup (by
      rcases h with (h | ⟨o, h⟩) | h
      · exact .inl (.inl (s _ _ h))
      · exact .inl (.inr ⟨o, s _ _ h⟩)
      · exact .inr h) (dpa_same s a)
theorem dpa_same {K : PySem.W.Frag} {H H' : Hp} (s : Same H H') : ∀ {v : List V} {d : List PyData}, DpAll K H v d → DpAll K H' v d
  | _, _, .nil => .nil
  | _, _, .cons h a => .cons (dp_same s h) (dpa_same s a)
end
section
variable {K : PySem.W.Frag} {H H' : Hp} {Q : VK} {i j : Int} {a b : Str} {p q : Addr} {xs ys : List V} {v x y : V} {d e : PyData} {ds : List PyData}
theorem dp_ints (ns : List Int) : DpAll K H (ns.map V.int) (ns.map PyData.int) := by
  induction ns with
  | nil => exact .nil
  | cons n r ih => exact .cons (.int n) ih
theorem dp_lints {ns : List Int} (h : H p = some (.lst (ns.map V.int))) : Dp K H (.ref p) (.list (ns.map PyData.int)) := .lst (SqL.of h) (dp_ints ns)
theorem dp_lst (h : H p = some (.lst xs)) (hd : DpAll K H xs ds) : Dp K H (.ref p) (.list ds) := .lst (SqL.of h) hd
theorem dp_tup (h : H p = some (.tup xs)) (hd : DpAll K H xs ds) : Dp K H (.ref p) (.tuple ds) := .tup (SqT.of h) hd
theorem i_eqD (h1 : Dp K H x d) (h2 : Dp K H y e) (s1 : SeqAt.shaped d = true) (s2 : SeqAt.shaped e = true) (h : Q (.bl (PyData.eqv d e)) H) : rEqU K x y H Q := .inr ⟨d, e, h1, h2, s1, s2, h⟩
theorem i_neD (h1 : Dp K H x d) (h2 : Dp K H y e) (s1 : SeqAt.shaped d = true) (s2 : SeqAt.shaped e = true) (h : Q (.bl (!PyData.eqv d e)) H) : rNeU K x y H Q := .inr ⟨d, e, h1, h2, s1, s2, h⟩

/-! ### subscripts, slices -/
theorem ixU {X : Cx} : IxR X (rIx X.K) := ix_seq
theorem i_ixL (h : H p = some (.lst xs)) (e : atI xs i = some v) (q : Q v H) : rIx K (.ref p) (.int i) H Q := .inl ⟨p, xs, i, v, rfl, rfl, SqL.of h, e, q⟩
theorem i_ixQ (h : SqL K H p xs) (e : atI xs i = some v) (q : Q v H) : rIx K (.ref p) (.int i) H Q := .inl ⟨p, xs, i, v, rfl, rfl, h, e, q⟩
theorem i_ixT (h : H p = some (.tup xs)) (e : atI xs i = some v) (q : Q v H) : rIx K (.ref p) (.int i) H Q := .inr (.inl ⟨p, xs, i, v, rfl, rfl, SqT.of h, e, q⟩)
theorem i_ixS {c : Nat} (h : a.length ≤ sizeLine) (e : atI a.cps.toList i = some c) (q : Q (.str ⟨#[c]⟩) H) : rIx K (.str a) (.int i) H Q := .inr (.inr ⟨a, i, c, rfl, rfl, h, e, q⟩)
def rGetL (K : PySem.W.Frag) : V → V → Hp → VK → Prop := fun x y H Q => ∃ p xs i v, x = .ref p ∧ y = .int i ∧ SqL K H p xs ∧ 0 ≤ i ∧ i < 2 ^ 62 ∧ xs[i.toNat]? = some v ∧ Q v H
theorem getL {X : Cx} : PGet X (rGetL X.K) := by
  intro pins s σ H o i ov iv Q I r1 r2 h
  obtain ⟨p, xs, k, v, rfl, rfl, hq, h0, h1, e, q⟩ := h
  cases r1
  obtain ⟨t, rfl⟩ := r2
  obtain ⟨its, r, pl, hz⟩ := I.list hq
  obtain ⟨u, eu, ru⟩ := r.get e
  exact wpAny_getItem_list pl.isList h0 (by omega) (by simpa using eu) ⟨v, H, I, ru, q⟩
theorem i_getL (h : H p = some (.lst xs)) (h0 : 0 ≤ i) (h1 : i < 2 ^ 62) (e : xs[i.toNat]? = some v) (q : Q v H) : rGetL K (.ref p) (.int i) H Q := ⟨p, xs, i, v, rfl, rfl, SqL.of h, h0, h1, e, q⟩
def rSlU (K : PySem.W.Frag) : V → Option Int → Option Int → Hp → VK → Prop := fun x lo hi H Q => rSlL K x lo hi H Q ∨ rSlA K x lo hi H Q
theorem slU {X : Cx} : SlR X (rSlU X.K) := sl_list.or sl_tupA
theorem i_slL {lo hi : Option Int} (h : H p = some (.lst xs)) (k : ∀ r H', New H r (.lst (cutV xs lo hi)) H' → Q (.ref r) H') : rSlU K (.ref p) lo hi H Q := .inl ⟨p, xs, rfl, SqL.of h, fun r f => k r _ ⟨f, rfl⟩⟩
theorem i_slQ {lo hi : Option Int} (h : SqL K H p xs) (k : ∀ r H', New H r (.lst (cutV xs lo hi)) H' → Q (.ref r) H') : rSlU K (.ref p) lo hi H Q := .inl ⟨p, xs, rfl, h, fun r f => k r _ ⟨f, rfl⟩⟩
theorem i_sl {r : V → Option Int → Option Int → Hp → VK → Prop} {te : TE} {tl th : TO} {σ : L2.St} (h : te σ H fun x H1 => tl σ H1 fun l H2 => th σ H2 fun u H3 => r x l u H3 Q) : tSl r te tl th σ H Q := h
theorem i_nopart {σ : L2.St} {QO : Option Int → Hp → Prop} (h : QO none H) : tNoPart σ H QO := h
theorem i_part {te : TE} {σ : L2.St} {QO : Option Int → Hp → Prop} (h : te σ H fun x H1 => ∃ i, x = .int i ∧ QO (some i) H1) : tPart te σ H QO := h
theorem i_partI {G : Int → Prop} (h : G i) : ∃ k, V.int i = .int k ∧ G k := ⟨i, rfl, h⟩
theorem i_setL {j : Nat} {QH : Hp → Prop} (h : H p = some (.lst xs)) (e : ixN xs.length i = some j) (k : ∀ H', Up H p (.lst (xs.set j v)) H' → QH H') : rSetL (.ref p) (.int i) v H QH :=
  ⟨p, xs, i, j, rfl, rfl, h, e, k _ ⟨⟨_, h⟩, rfl⟩⟩

/-! ### built-in functions -/
def rLenU (K : PySem.W.Frag) : List V → Hp → VK → Prop := fun xs H Q => ∃ x n, xs = [x] ∧ LenV K x H n ∧ Q (.int n) H
theorem clen {X : Cx} : CallR X (.builtin "len") (rLenU X.K) := call_len
theorem i_lenL (h : H p = some (.lst xs)) (q : Q (.int (xs.length : Nat)) H) : rLenU K [V.ref p] H Q := ⟨_, _, rfl, .inl ⟨xs, SqL.of h, rfl⟩, q⟩
theorem i_lenQ (h : SqL K H p xs) (q : Q (.int (xs.length : Nat)) H) : rLenU K [V.ref p] H Q := ⟨_, _, rfl, .inl ⟨xs, h, rfl⟩, q⟩
theorem i_lenT (h : H p = some (.tup xs)) (q : Q (.int (xs.length : Nat)) H) : rLenU K [V.ref p] H Q := ⟨_, _, rfl, .inr ⟨xs, SqT.of h, rfl⟩, q⟩
def rMax2 : List V → Hp → VK → Prop := fun xs H Q => ∃ i j, xs = [.int i, .int j] ∧ Q (.int (if j > i then j else i)) H
def rMin2 : List V → Hp → VK → Prop := fun xs H Q => ∃ i j, xs = [.int i, .int j] ∧ Q (.int (if j < i then j else i)) H
theorem cmax2 {X : Cx} (hc : X.calm = true) : CallR X (.builtin "max") rMax2 := call_max2 hc
theorem cmin2 {X : Cx} (hc : X.calm = true) : CallR X (.builtin "min") rMin2 := call_min2 hc
theorem i_max2 (q : Q (.int (max i j)) H) : rMax2 [V.int i, V.int j] H Q := ⟨i, j, rfl, by rw [show (if j > i then j else i) = max i j by omega]; exact q⟩
theorem i_min2 (q : Q (.int (min i j)) H) : rMin2 [V.int i, V.int j] H Q := ⟨i, j, rfl, by rw [show (if j < i then j else i) = min i j by omega]; exact q⟩
def rDivmod : List V → Hp → VK → Prop := fun xs H Q => ∃ i j, xs = [.int i, .int j] ∧ CDivP i j ∧ ∀ p, H p = none → Q (.ref p) (upd H p (.tup [.int (i / j), .int (i % j)]))
theorem cdivmod {X : Cx} : CallR X (.builtin "divmod") rDivmod := call_divmodW
theorem divP {i j : Int} {b : Nat} (h : 0 < j) (hb : j.natAbs < 2 ^ b) (h0 : 0 < b) (h9 : b ≤ 9000) : CDivP i j := ⟨h, PyProof.noPylong_of_log2 (Nat.lt_of_lt_of_le (PySem.Flt.log2_lt_of h0 hb) h9)⟩
theorem i_divmod (c : CDivP i j) (k : ∀ r H', New H r (.tup [.int (i / j), .int (i % j)]) H' → Q (.ref r) H') : rDivmod [V.int i, V.int j] H Q := ⟨i, j, rfl, c, fun r f => k r _ ⟨f, rfl⟩⟩
def rListU (K : PySem.W.Frag) : List V → Hp → VK → Prop := fun xs H Q => ∃ p ys, xs = [.ref p] ∧ (SqL K H p ys ∨ SqT K H p ys) ∧ ∀ l, H l = none → Q (.ref l) (upd H l (.lst ys))
theorem clist {X : Cx} : CallR X (.type "list") (rListU X.K) := call_list_of
theorem i_listL (h : H p = some (.lst xs)) (k : ∀ r H', New H r (.lst xs) H' → Q (.ref r) H') : rListU K [V.ref p] H Q := ⟨p, xs, rfl, .inl (SqL.of h), fun r f => k r _ ⟨f, rfl⟩⟩
theorem i_listT (h : H p = some (.tup xs)) (k : ∀ r H', New H r (.lst xs) H' → Q (.ref r) H') : rListU K [V.ref p] H Q := ⟨p, xs, rfl, .inr (SqT.of h), fun r f => k r _ ⟨f, rfl⟩⟩
def rTupU (K : PySem.W.Frag) : List V → Hp → VK → Prop := fun xs H Q => ∃ p ys, xs = [.ref p] ∧ ((SqL K H p ys ∧ ∀ l, H l = none → Q (.ref l) (upd H l (.tup ys))) ∨ (SqT K H p ys ∧ Q (.ref p) H))
theorem ctuple {X : Cx} : CallR X (.type "tuple") (rTupU X.K) := call_tuple_of
theorem i_tupleL (h : H p = some (.lst xs)) (k : ∀ r H', New H r (.tup xs) H' → Q (.ref r) H') : rTupU K [V.ref p] H Q := ⟨p, xs, rfl, .inl ⟨SqL.of h, fun r f => k r _ ⟨f, rfl⟩⟩⟩
def rInt1 : List V → Hp → VK → Prop := fun xs H Q => (∃ i, xs = [.int i] ∧ Q (.int i) H) ∨ ∃ k, xs = [.bl k] ∧ Q (.int (if k then 1 else 0)) H
theorem cint {X : Cx} : CallR X (.type "int") rInt1 := call_int1
theorem i_intI (q : Q (.int i) H) : rInt1 [V.int i] H Q := .inl ⟨i, rfl, q⟩
theorem i_intB {k : Bool} (q : Q (.int (if k then 1 else 0)) H) : rInt1 [V.bl k] H Q := .inr ⟨k, rfl, q⟩
def rAbs : List V → Hp → VK → Prop := fun xs H Q => ∃ i, xs = [.int i] ∧ Q (.int (if i < 0 then -i else i)) H
theorem cabs {X : Cx} : CallR X (.builtin "abs") rAbs := call_abs
theorem i_abs (q : Q (.int (if i < 0 then -i else i)) H) : rAbs [V.int i] H Q := ⟨i, rfl, q⟩
theorem i_sum {ns : List Int} (h : H p = some (.lst (ns.map V.int))) (q : Q (.int ns.sum) H) : rSum K [.ref p] H Q := ⟨p, ns, rfl, SqL.of h, q⟩
theorem i_all {bs : List Bool} (h : H p = some (.lst (bs.map V.bl))) (q : Q (.bl (bs.all id)) H) : rAll K [.ref p] H Q := ⟨p, bs, rfl, SqL.of h, q⟩
theorem i_any {bs : List Bool} (h : H p = some (.lst (bs.map V.bl))) (q : Q (.bl (bs.any id)) H) : rAny K [.ref p] H Q := ⟨p, bs, rfl, SqL.of h, q⟩
/-! ### list methods -/
theorem i_bm {T : String} {r : V → List V → Hp → VK → Prop} {to : TE} {t : TA} {σ : L2.St} (h : to σ H fun x H1 => tyV K T x H1 ∧ t σ H1 fun xs H2 => r x xs H2 Q) : tBM K T r to t σ H Q := h
theorem i_bm0 {T : String} {r : V → List V → Hp → VK → Prop} {to : TE} {σ : L2.St} (h : to σ H fun x H1 => tyV K T x H1 ∧ r x [] H1 Q) : tBM0 K T r to σ H Q := h
theorem i_tyL {G : Prop} (h : H p = some (.lst xs)) (g : G) : tyV K "list" (.ref p) H ∧ G := ⟨.inl ⟨rfl, _, SqL.of h⟩, g⟩
theorem i_append (h : H p = some (.lst xs)) (z : xs.length < sizeLine) (k : ∀ H', Up H p (.lst (xs ++ [v])) H' → Q .non H') : rAppend (.ref p) [v] H Q := ⟨p, xs, v, rfl, rfl, h, z, k _ ⟨⟨_, h⟩, rfl⟩⟩
theorem i_extend (h : H p = some (.lst xs)) (h2 : H q = some (.lst ys)) (z : xs.length + ys.length ≤ sizeLine) (k : ∀ H', Up H p (.lst (xs ++ ys)) H' → Q .non H') : rExtend (.ref p) [.ref q] H Q := ⟨p, q, xs, ys, rfl, rfl, h, h2, z, k _ ⟨⟨_, h⟩, rfl⟩⟩
theorem i_reverse (h : H p = some (.lst xs)) (k : ∀ H', Up H p (.lst xs.reverse) H' → Q .non H') : rReverse (.ref p) [] H Q := ⟨p, xs, rfl, rfl, h, k _ ⟨⟨_, h⟩, rfl⟩⟩
theorem i_clear (h : H p = some (.lst xs)) (k : ∀ H', Up H p (.lst []) H' → Q .non H') : rClear (.ref p) [] H Q := ⟨p, xs, rfl, rfl, h, k _ ⟨⟨_, h⟩, rfl⟩⟩
end

/-! ### branches -/
theorem ite2' {p A B : Prop} [Decidable p] (h1 : p → A) (h2 : ¬ p → B) : if decide p = true then A else B := by
  by_cases h : p
  · rw [if_pos (decide_eq_true h)]; exact h1 h
  · rw [if_neg (by rw [decide_eq_false h]; exact Bool.false_ne_true)]; exact h2 h
theorem iten' {p A B : Prop} [Decidable p] (h1 : ¬ p → A) (h2 : p → B) : if (!decide p) = true then A else B := by
  by_cases h : p
  · rw [decide_eq_true h]; rw [if_neg (by decide)]; exact h2 h
  · rw [decide_eq_false h]; rw [if_pos (by decide)]; exact h1 h
theorem itT {p A B : Prop} [Decidable p] (h : p) (a : A) : if decide p = true then A else B := ite2' (fun _ => a) fun z => absurd h z
theorem itF {p A B : Prop} [Decidable p] (h : ¬ p) (b : B) : if decide p = true then A else B := ite2' (fun z => absurd z h) fun _ => b
theorem itnT {p A B : Prop} [Decidable p] (h : ¬ p) (a : A) : if (!decide p) = true then A else B := iten' (fun _ => a) fun z => absurd z h
theorem itnF {p A B : Prop} [Decidable p] (h : p) (b : B) : if (!decide p) = true then A else B := iten' (fun z => absurd h z) fun _ => b

/-! ### loops -/
section
variable {K : PySem.W.Frag} {H : Hp} {a : Addr} {xs : List V} {g : TG} {tb : TZ} {nx bk ct : L2.St → Hp → Prop} {rt : VK} {σ : L2.St} {R : It → Hp → Prop} {n : Nat} {lo : Int}
/-- a loop of n turns by its invariant -/
theorem loop_by {J : It} (n : Nat) (Pv : Nat → L2.St → Hp → Prop) (h0 : Pv 0 σ H) (hgo : ∀ i σ H, i < n → Pv i σ H → J.go i H) (hst : ∀ σ H, Pv n σ H → J.stop n H)
    (hs : ∀ i x σ H H', i < n → Pv i σ H → J.yld i H x H' → g x σ H' fun σ2 H2 => tb (Pv (i + 1)) rt nx (Pv (i + 1)) σ2 H2) (hd : ∀ σ H, Pv n σ H → nx σ H) : zLoop J g tb nx rt σ H := by
  refine ⟨fun i m σ H => m = n - i ∧ i ≤ n ∧ Pv i σ H, ⟨n, rfl, Nat.zero_le _, h0⟩, ?_⟩
  rintro i m σ H ⟨rfl, hi, p⟩
  by_cases hlt : i < n
  · exact .inr ⟨hgo i σ H hlt p, Pv (i + 1), fun σ' H' p' => ⟨n - (i + 1), by omega, rfl, hlt, p'⟩, fun x H' y => hs i x σ H H' hlt p y⟩
  · have e : i = n := by omega
    subst e
    exact .inl ⟨hst σ H p, hd σ H p⟩
theorem loop_list (Pv : Nat → L2.St → Hp → Prop) (h0 : Pv 0 σ H) (hl : ∀ i σ H, i ≤ xs.length → Pv i σ H → SqL K H a xs)
    (hs : ∀ i x σ H, xs[i]? = some x → Pv i σ H → g x σ H fun σ2 H2 => tb (Pv (i + 1)) rt nx (Pv (i + 1)) σ2 H2) (hd : ∀ σ H, Pv xs.length σ H → nx σ H) : zLoop (Itl K a) g tb nx rt σ H := by
  refine loop_by xs.length Pv h0 (fun i σ H hi p => ⟨xs, xs[i], hl i σ H (Nat.le_of_lt hi) p, by simp [hi]⟩) (fun σ H p => ⟨xs, hl _ σ H (Nat.le_refl _) p, Nat.le_refl _⟩) (fun i x σ H H' hi p y => ?_) hd
  obtain ⟨e, y⟩ := y
  subst e
  exact hs i x σ _ (y xs (hl i σ _ (Nat.le_of_lt hi) p)) p
theorem loop_tup (Pv : Nat → L2.St → Hp → Prop) (h0 : Pv 0 σ H) (hl : ∀ i σ H, i ≤ xs.length → Pv i σ H → SqT K H a xs)
    (hs : ∀ i x σ H, xs[i]? = some x → Pv i σ H → g x σ H fun σ2 H2 => tb (Pv (i + 1)) rt nx (Pv (i + 1)) σ2 H2) (hd : ∀ σ H, Pv xs.length σ H → nx σ H) : zLoop (Itt K a) g tb nx rt σ H := by
  refine loop_by xs.length Pv h0 (fun i σ H hi p => ⟨xs, xs[i], hl i σ H (Nat.le_of_lt hi) p, by simp [hi]⟩) (fun σ H p => ⟨xs, hl _ σ H (Nat.le_refl _) p, Nat.le_refl _⟩) (fun i x σ H H' hi p y => ?_) hd
  obtain ⟨e, y⟩ := y
  subst e
  exact hs i x σ _ (y xs (hl i σ _ (Nat.le_of_lt hi) p)) p
theorem loop_range (Pv : Nat → L2.St → Hp → Prop) (h0 : Pv 0 σ H) (hs : ∀ i σ H, i < n → Pv i σ H → g (.int (lo + (i : Nat))) σ H fun σ2 H2 => tb (Pv (i + 1)) rt nx (Pv (i + 1)) σ2 H2) (hd : ∀ σ H, Pv n σ H → nx σ H) :
    zLoop (Itr lo n) g tb nx rt σ H := by
  refine loop_by n Pv h0 (fun i σ H hi p => hi) (fun σ H p => Nat.le_refl _) (fun i x σ H H' hi p y => ?_) hd
  obtain ⟨e, y⟩ := y
  subst e y
  exact hs i σ _ hi p
def zItL (K : PySem.W.Frag) (x : V) (H1 : Hp) (R : It → Hp → Prop) : Prop := ∃ a, x = .ref a ∧ (∃ xs, SqL K H1 a xs) ∧ R (Itl K a) H1
def zItT (K : PySem.W.Frag) (x : V) (H1 : Hp) (R : It → Hp → Prop) : Prop := ∃ a, x = .ref a ∧ (∃ xs, SqT K H1 a xs) ∧ R (Itt K a) H1
theorem i_iList {tl : TE} (h : tl σ H fun x H1 => zItL K x H1 R) : iList K tl σ H R := h
theorem i_iTup {tl : TE} (h : tl σ H fun x H1 => zItT K x H1 R) : iTup K tl σ H R := h
theorem i_itL (h : H a = some (.lst xs)) (q : R (Itl K a) H) : zItL K (.ref a) H R := ⟨a, rfl, ⟨xs, SqL.of h⟩, q⟩
theorem i_itQ (h : SqL K H a xs) (q : R (Itl K a) H) : zItL K (.ref a) H R := ⟨a, rfl, ⟨xs, h⟩, q⟩
theorem i_itT (h : H a = some (.tup xs)) (q : R (Itt K a) H) : zItT K (.ref a) H R := ⟨a, rfl, ⟨xs, SqT.of h⟩, q⟩
def zR1 (vs : List V) (H1 : Hp) (R : It → Hp → Prop) : Prop := ∃ j : Int, vs = [.int j] ∧ -(2 ^ 62) ≤ j ∧ j < 2 ^ 62 ∧ R (Itr 0 j.toNat) H1
def zR2 (vs : List V) (H1 : Hp) (R : It → Hp → Prop) : Prop := ∃ i j : Int, vs = [.int i, .int j] ∧ (-(2 ^ 62) ≤ i ∧ i < 2 ^ 62 ∧ -(2 ^ 62) ≤ j ∧ j < 2 ^ 62) ∧ R (Itr i (j - i).toNat) H1
theorem i_rng1 {ta : TA} (h : ta σ H fun vs H1 => zR1 vs H1 R) : iRng1 ta σ H R := h
theorem i_rng1I {j : Int} (h1 : -(2 ^ 62) ≤ j) (h2 : j < 2 ^ 62) (q : R (Itr 0 j.toNat) H) : zR1 [V.int j] H R := ⟨j, rfl, h1, h2, q⟩
theorem i_rng1N {n : Nat} (h : n ≤ 1000000) (q : R (Itr 0 n) H) : zR1 [V.int (n : Nat)] H R := ⟨n, rfl, by omega, by omega, q⟩
theorem i_rng2 {ta : TA} (h : ta σ H fun vs H1 => zR2 vs H1 R) : iRng2 ta σ H R := h
theorem i_rng2I {i j : Int} (h : -(2 ^ 62) ≤ i ∧ i < 2 ^ 62 ∧ -(2 ^ 62) ≤ j ∧ j < 2 ^ 62) (q : R (Itr i (j - i).toNat) H) : zR2 [V.int i, V.int j] H R := ⟨i, j, rfl, h, q⟩
def zEn (K : PySem.W.Frag) (vs : List V) (H1 : Hp) (R : It → Hp → Prop) : Prop := ∃ a xs, vs = [.ref a] ∧ SqL K H1 a xs ∧ R (Ite K a) H1
theorem i_enum {ta : TA} (h : ta σ H fun vs H1 => zEn K vs H1 R) : iEnum K ta σ H R := h
theorem i_enumL (h : SqL K H a xs) (q : R (Ite K a) H) : zEn K [V.ref a] H R := ⟨a, xs, rfl, h, q⟩
def zZi (K : PySem.W.Frag) (vs : List V) (H1 : Hp) (R : It → Hp → Prop) : Prop := ∃ a b xs ys, vs = [.ref a, .ref b] ∧ SqL K H1 a xs ∧ SqL K H1 b ys ∧ R (Itz K a b) H1
theorem i_zip {ta : TA} (h : ta σ H fun vs H1 => zZi K vs H1 R) : iZip K ta σ H R := h
theorem i_zipL {b : Addr} {ys : List V} (h : SqL K H a xs) (h2 : SqL K H b ys) (q : R (Itz K a b) H) : zZi K [V.ref a, V.ref b] H R := ⟨a, b, xs, ys, rfl, h, h2, q⟩
/-- while, by an invariant and a measure -/
theorem i_while {c : TT} (Pv : L2.St → Hp → Prop) (μ : L2.St → Hp → Nat) (h0 : Pv σ H)
    (hs : ∀ σ H, Pv σ H → c σ H fun b H1 => if b = true then zBody (fun m σ H => m = μ σ H ∧ Pv σ H) (μ σ H) tb nx rt σ H1 else nx σ H1) : zWhile c tb nx rt bk ct σ H := by
  refine ⟨fun m σ H => m = μ σ H ∧ Pv σ H, ⟨_, rfl, h0⟩, ?_⟩
  rintro m σ H ⟨rfl, p⟩
  exact hs σ H p
theorem i_body {Pv : L2.St → Hp → Prop} {μ : L2.St → Hp → Nat} {m : Nat} (h : tb (fun σ' H' => Pv σ' H' ∧ μ σ' H' < m) rt nx (fun σ' H' => Pv σ' H' ∧ μ σ' H' < m) σ H) : zBody (fun m σ H => m = μ σ H ∧ Pv σ H) m tb nx rt σ H :=
  ⟨_, fun σ' H' z => ⟨_, z.2, rfl, z.1⟩, h⟩
end

/-! ### comprehensions -/
section
variable {K : PySem.W.Frag} {H : Hp} {a : Addr} {xs : List V} {g : TG} {tt : TT} {te : TE} {vs : List Nat} {σ : L2.St} {Q : VK} {n : Nat} {lo : Int} {wi : TI}
/-- behind the iterator -/
def zComp (J : It) (g : TG) (tt : TT) (te : TE) (vs : List Nat) (σ : L2.St) (H1 : Hp) (Q : VK) : Prop := ∀ D, H1 D = none → ∃ W : Nat → Nat → Hp → Prop, (∃ m, W 0 m (upd H1 D (.lst []))) ∧ ∀ i m H, W i m H →
  (J.stop i H ∧ Q (.ref D) H) ∨ (J.go i H ∧ ∃ Nx : Hp → Prop, (∀ H', Nx H' → ∃ m', m' < m ∧ W (i + 1) m' H') ∧ ∀ x H', J.yld i H x H' → g x (wipe σ vs) H' fun σ2 H2 => wipe σ2 vs = wipe σ vs ∧ tt σ2 H2 fun b H3 =>
    if b = true then te σ2 H3 fun y H4 => ∃ acc, H4 D = some (.lst acc) ∧ acc.length < sizeLine ∧ Nx (upd H4 D (.lst (acc ++ [y]))) else Nx H3)
theorem i_lc (h : wi σ H fun J H1 => zComp J g tt te vs σ H1 Q) : tLc wi g tt te vs σ H Q := h
/-- what an element's end asks; what a left out one's does -/
def zEnd (D : Addr) (G : List V → Hp → Prop) (y : V) (H4 : Hp) : Prop := ∃ ac, H4 D = some (.lst ac) ∧ ac.length < sizeLine ∧ ∃ a2, upd H4 D (.lst (ac ++ [y])) D = some (.lst a2) ∧ G a2 (upd H4 D (.lst (ac ++ [y])))
def zSkip (D : Addr) (G : List V → Hp → Prop) (H4 : Hp) : Prop := ∃ a2, H4 D = some (.lst a2) ∧ G a2 H4
theorem i_end {D : Addr} {G : List V → Hp → Prop} {acc : List V} {y : V} {H4 : Hp} (h : H4 D = some (.lst acc)) (z : acc.length < sizeLine) (k : ∀ H6, Up H4 D (.lst (acc ++ [y])) H6 → G (acc ++ [y]) H6) : zEnd D G y H4 :=
  ⟨acc, h, z, acc ++ [y], upd_same, k _ ⟨⟨_, h⟩, rfl⟩⟩
theorem i_skip {D : Addr} {G : List V → Hp → Prop} {acc : List V} {H4 : Hp} (h : H4 D = some (.lst acc)) (k : G acc H4) : zSkip D G H4 := ⟨acc, h, k⟩
/-- a comprehension of n turns: G i acc H speaks of the list so far; the list's own place D is new for H -/
theorem comp_by {J : It} (n : Nat) (G : Nat → List V → Hp → Prop) (h0 : ∀ D H', New H D (.lst []) H' → G 0 [] H')
    (hgo : ∀ i acc H, i < n → G i acc H → J.go i H) (hst : ∀ acc H, G n acc H → J.stop n H)
    (hs : ∀ D i acc x H2 H', H D = none → i < n → H2 D = some (.lst acc) → G i acc H2 → J.yld i H2 x H' → g x (wipe σ vs) H' fun σ2 H3 => wipe σ2 vs = wipe σ vs ∧ tt σ2 H3 fun b H4 =>
      if b = true then te σ2 H4 fun y H5 => zEnd D (G (i + 1)) y H5 else zSkip D (G (i + 1)) H4)
    (hd : ∀ D acc H2, H D = none → H2 D = some (.lst acc) → G n acc H2 → Q (.ref D) H2) : zComp J g tt te vs σ H Q := by
  intro D fD
  refine ⟨fun i m H2 => m = n - i ∧ i ≤ n ∧ ∃ acc, H2 D = some (.lst acc) ∧ G i acc H2, ⟨n, rfl, Nat.zero_le _, [], upd_same, h0 D _ ⟨fD, rfl⟩⟩, ?_⟩
  rintro i m H2 ⟨rfl, hi, acc, hD, p⟩
  by_cases hlt : i < n
  · exact .inr ⟨hgo i acc H2 hlt p, fun H6 => ∃ acc, H6 D = some (.lst acc) ∧ G (i + 1) acc H6, fun H' p' => ⟨n - (i + 1), by omega, rfl, hlt, p'⟩, fun x H' y => hs D i acc x H2 H' fD hlt hD p y⟩
  · have e : i = n := by omega
    subst e
    exact .inl ⟨hst acc H2 p, hd D acc H2 fD hD p⟩
/-- over a list -/
theorem comp_list (G : Nat → List V → Hp → Prop) (h0 : ∀ D H', New H D (.lst []) H' → G 0 [] H') (hl : ∀ i acc H, i ≤ xs.length → G i acc H → SqL K H a xs)
    (hs : ∀ D i acc x H2, H D = none → xs[i]? = some x → H2 D = some (.lst acc) → G i acc H2 → g x (wipe σ vs) H2 fun σ2 H3 => wipe σ2 vs = wipe σ vs ∧ tt σ2 H3 fun b H4 =>
      if b = true then te σ2 H4 fun y H5 => zEnd D (G (i + 1)) y H5 else zSkip D (G (i + 1)) H4)
    (hd : ∀ D acc H2, H D = none → H2 D = some (.lst acc) → G xs.length acc H2 → Q (.ref D) H2) : zComp (Itl K a) g tt te vs σ H Q := by
  refine comp_by xs.length G h0 (fun i acc H hi p => ⟨xs, xs[i], hl i acc H (Nat.le_of_lt hi) p, by simp [hi]⟩) (fun acc H p => ⟨xs, hl _ acc H (Nat.le_refl _) p, Nat.le_refl _⟩) (fun D i acc x H2 H' fD hi hD p y => ?_) hd
  obtain ⟨e, y⟩ := y
  subst e
  exact hs D i acc x _ fD (y xs (hl i acc _ (Nat.le_of_lt hi) p)) hD p
theorem comp_tup (G : Nat → List V → Hp → Prop) (h0 : ∀ D H', New H D (.lst []) H' → G 0 [] H') (hl : ∀ i acc H, i ≤ xs.length → G i acc H → SqT K H a xs)
    (hs : ∀ D i acc x H2, H D = none → xs[i]? = some x → H2 D = some (.lst acc) → G i acc H2 → g x (wipe σ vs) H2 fun σ2 H3 => wipe σ2 vs = wipe σ vs ∧ tt σ2 H3 fun b H4 =>
      if b = true then te σ2 H4 fun y H5 => zEnd D (G (i + 1)) y H5 else zSkip D (G (i + 1)) H4)
    (hd : ∀ D acc H2, H D = none → H2 D = some (.lst acc) → G xs.length acc H2 → Q (.ref D) H2) : zComp (Itt K a) g tt te vs σ H Q := by
  refine comp_by xs.length G h0 (fun i acc H hi p => ⟨xs, xs[i], hl i acc H (Nat.le_of_lt hi) p, by simp [hi]⟩) (fun acc H p => ⟨xs, hl _ acc H (Nat.le_refl _) p, Nat.le_refl _⟩) (fun D i acc x H2 H' fD hi hD p y => ?_) hd
  obtain ⟨e, y⟩ := y
  subst e
  exact hs D i acc x _ fD (y xs (hl i acc _ (Nat.le_of_lt hi) p)) hD p
theorem comp_range (G : Nat → List V → Hp → Prop) (h0 : ∀ D H', New H D (.lst []) H' → G 0 [] H')
    (hs : ∀ D i acc H2, H D = none → i < n → H2 D = some (.lst acc) → G i acc H2 → g (.int (lo + (i : Nat))) (wipe σ vs) H2 fun σ2 H3 => wipe σ2 vs = wipe σ vs ∧ tt σ2 H3 fun b H4 =>
      if b = true then te σ2 H4 fun y H5 => zEnd D (G (i + 1)) y H5 else zSkip D (G (i + 1)) H4)
    (hd : ∀ D acc H2, H D = none → H2 D = some (.lst acc) → G n acc H2 → Q (.ref D) H2) : zComp (Itr lo n) g tt te vs σ H Q := by
  refine comp_by n G h0 (fun i acc H hi p => hi) (fun acc H p => Nat.le_refl _) (fun D i acc x H2 H' fD hi hD p y => ?_) hd
  obtain ⟨e, y⟩ := y
  subst e y
  exact hs D i acc _ fD hi hD p
/-- over enumerate(list): each pair is a new tuple -/
theorem comp_enum (G : Nat → List V → Hp → Prop) (h0 : ∀ D H', New H D (.lst []) H' → G 0 [] H') (hl : ∀ i acc H, i ≤ xs.length → G i acc H → SqL K H a xs)
    (hs : ∀ D i acc x T H2 H2', H D = none → xs[i]? = some x → H2 D = some (.lst acc) → G i acc H2 → New H2 T (.tup [.int (i : Nat), x]) H2' → g (.ref T) (wipe σ vs) H2' fun σ2 H3 => wipe σ2 vs = wipe σ vs ∧ tt σ2 H3 fun b H4 =>
      if b = true then te σ2 H4 fun y H5 => zEnd D (G (i + 1)) y H5 else zSkip D (G (i + 1)) H4)
    (hd : ∀ D acc H2, H D = none → H2 D = some (.lst acc) → G xs.length acc H2 → Q (.ref D) H2) : zComp (Ite K a) g tt te vs σ H Q := by
  refine comp_by xs.length G h0 (fun i acc H hi p => ⟨xs, xs[i], hl i acc H (Nat.le_of_lt hi) p, by simp [hi]⟩) (fun acc H p => ⟨xs, hl _ acc H (Nat.le_refl _) p, Nat.le_refl _⟩) (fun D i acc x H2 H' fD hi hD p y => ?_) hd
  obtain ⟨T, v, rfl, fT, rfl, y⟩ := y
  exact hs D i acc v T H2 _ fD (y xs (hl i acc H2 (Nat.le_of_lt hi) p)) hD p ⟨fT, rfl⟩
/-- over zip(list, list) of one length -/
theorem comp_zip {b : Addr} {ys : List V} (he : xs.length = ys.length) (G : Nat → List V → Hp → Prop) (h0 : ∀ D H', New H D (.lst []) H' → G 0 [] H') (hl : ∀ i acc H, i ≤ xs.length → G i acc H → SqL K H a xs ∧ SqL K H b ys)
    (hs : ∀ D i acc x y T H2 H2', H D = none → xs[i]? = some x → ys[i]? = some y → H2 D = some (.lst acc) → G i acc H2 → New H2 T (.tup [x, y]) H2' → g (.ref T) (wipe σ vs) H2' fun σ2 H3 => wipe σ2 vs = wipe σ vs ∧ tt σ2 H3 fun b H4 =>
      if b = true then te σ2 H4 fun y H5 => zEnd D (G (i + 1)) y H5 else zSkip D (G (i + 1)) H4)
    (hd : ∀ D acc H2, H D = none → H2 D = some (.lst acc) → G xs.length acc H2 → Q (.ref D) H2) : zComp (Itz K a b) g tt te vs σ H Q := by
  refine comp_by xs.length G h0 (fun i acc H hi p => ⟨xs, ys, xs[i], ys[i]'(he ▸ hi), (hl i acc H (Nat.le_of_lt hi) p).1, (hl i acc H (Nat.le_of_lt hi) p).2, by simp [hi], by simp [he ▸ hi]⟩)
    (fun acc H p => ⟨xs, ys, (hl _ acc H (Nat.le_refl _) p).1, (hl _ acc H (Nat.le_refl _) p).2, .inl (Nat.le_refl _)⟩) (fun D i acc x H2 H' fD hi hD p y => ?_) hd
  obtain ⟨T, v, u, rfl, fT, rfl, y1, y2⟩ := y
  have q := hl i acc H2 (Nat.le_of_lt hi) p
  exact hs D i acc v u T H2 _ fD (y1 xs q.1) (y2 ys q.2) hD p ⟨fT, rfl⟩
theorem i_yes {Q2 : Bool → Hp → Prop} (h : Q2 true H) : tYes σ H Q2 := h
end
/-! ### the same with the fragment written (in blocks the context's own is not at hand) -/
theorem opAddK {X : Cx} (K : PySem.W.Frag) (h : X.K = K) : OpR X (binaryOp .Add) (rAdd K) := h ▸ opAdd
theorem opMulK {X : Cx} (K : PySem.W.Frag) (h : X.K = K) : OpR X (binaryOp .Mult) (rMul K) := h ▸ opMul
theorem opEqK {X : Cx} (K : PySem.W.Frag) (h : X.K = K) (hu : X.A.units + 64 < cLine) : OpR X (compareOp .Eq) (rEqU K) := h ▸ opEq hu
theorem opNeK {X : Cx} (K : PySem.W.Frag) (h : X.K = K) (hu : X.A.units + 64 < cLine) : OpR X (compareOp .NotEq) (rNeU K) := h ▸ opNe hu
theorem ixUK {X : Cx} (K : PySem.W.Frag) (h : X.K = K) : IxR X (rIx K) := h ▸ ixU
theorem getLK {X : Cx} (K : PySem.W.Frag) (h : X.K = K) : PGet X (rGetL K) := h ▸ getL
theorem slUK {X : Cx} (K : PySem.W.Frag) (h : X.K = K) : SlR X (rSlU K) := h ▸ slU
theorem clenK {X : Cx} (K : PySem.W.Frag) (h : X.K = K) : CallR X (.builtin "len") (rLenU K) := h ▸ clen
theorem clistK {X : Cx} (K : PySem.W.Frag) (h : X.K = K) : CallR X (.type "list") (rListU K) := h ▸ clist
theorem ctupleK {X : Cx} (K : PySem.W.Frag) (h : X.K = K) : CallR X (.type "tuple") (rTupU K) := h ▸ ctuple
theorem csumK {X : Cx} (K : PySem.W.Frag) (h : X.K = K) (hc : X.calm = true) : CallR X (.builtin "sum") (rSum K) := h ▸ cr_sum hc
theorem callK {X : Cx} (K : PySem.W.Frag) (h : X.K = K) (hc : X.calm = true) : CallR X (.builtin "all") (rAll K) := h ▸ cr_all hc
theorem canyK {X : Cx} (K : PySem.W.Frag) (h : X.K = K) (hc : X.calm = true) : CallR X (.builtin "any") (rAny K) := h ▸ cr_any hc
end Z

/-! Z, part four: what the head tells; the law's end. -/
namespace Z
open PySem PySem.Spec PyProof.Rows L2

/-! ### the head's facts, and some of one's own -/
abbrev Fx : Type := PySem.W.Frag → Bool
def obsX (fa : List He.Fa) (fx : List Fx) (fn : List He.DefD) (K : PySem.W.Frag) : He.AlD := (((fa.all fun f => f.ok K) && fn.all fun d => d.ok K) && fx.all fun f => f K, fn.map fun d => He.fnW K d.at_)
def SaysX (fa : List He.Fa) (fx : List Fx) (fn : List He.DefD) (K : PySem.W.Frag) : Prop := obsX fa fx fn K = He.valD fn
/-- the places that are named within n steps: each once, seen by a number's bits (the library's own growth reads every step anew) -/
def addNew : List Addr → Nat → List Addr → Nat × List Addr
  | [], seen, acc => (seen, acc)
  | a :: r, seen, acc => match Nat.beq (Nat.land (Nat.shiftRight seen a) 1) 1 with
    | true => addNew r seen acc
    | false => addNew r (Nat.lor seen (Nat.shiftLeft 1 a)) (a :: acc)
def growF (g : Addr → Option Obj) : Nat → Nat → List Addr → List Addr → List Addr
  | 0, _, _, all => all
  | n + 1, seen, front, all => match addNew (front.flatMap fun a => match g a with
      | some o => He.refsD o
      | none => []) seen [] with
    | (seen', new) => growF g n seen' new (all ++ new)
def asF (g : Addr → Option Obj) (n : Nat) : List Addr := growF g n (Nat.shiftLeft 1 mainGlobals) [mainGlobals] [mainGlobals]
def obsXG (n : Nat) (fa : List He.Fa) (fx : List Fx) (fn : List He.DefD) (g : Addr → Option Obj) : He.AlD := obsX fa fx fn (He.frG g (sysModules :: cStatics :: asF g n))
def hookX (n : Nat) (fa : List He.Fa) (fx : List Fx) (fn : List He.DefD) : PySem.W.Hook where
  α := He.AlD
  obs := fun s => obsXG n fa fx fn s.heap.get?
  val := fun _ => He.valD fn
  says := fun _ h => ∃ K : PySem.W.Frag, K.In h ∧ SaysX fa fx fn K
  of := fun _ _ e => ⟨_, He.frG_in, e⟩
  keeps := fun _ _ _ ⟨K, hK, c⟩ k => ⟨K, PySem.W.Frag.In.keeps hK k, c⟩
theorem obsXG_eq {n : Nat} {fa : List He.Fa} {fx : List Fx} {fn : List He.DefD} {g : Addr → Option Obj} {s : Shared} (h : ∀ a, g a = s.heap.get? a) : obsXG n fa fx fn g = (hookX n fa fx fn).obs s := by
  have e : g = s.heap.get? := funext h
  rw [e] <;> rfl
theorem SaysX.d {fa : List He.Fa} {fx : List Fx} {fn : List He.DefD} {K : PySem.W.Frag} (c : SaysX fa fx fn K) : He.SaysD fa fn K := by
  have e1 : (((fa.all fun f => f.ok K) && fn.all fun d => d.ok K) && fx.all fun f => f K) = true := congrArg (fun z : He.AlD => z.1) c
  have e2 : fn.map (fun d => He.fnW K d.at_) = fn.map He.DefD.val := congrArg (fun z : He.AlD => z.2) c
  rw [Bool.and_eq_true] at e1
  show (_, _) = (_, _)
  rw [e1.1, e2]
theorem SaysX.x {fa : List He.Fa} {fx : List Fx} {fn : List He.DefD} {K : PySem.W.Frag} (c : SaysX fa fx fn K) (i : Nat) {f : Fx} (h : fx[i]? = some f) : f K = true := by
  have e1 : (((fa.all fun f => f.ok K) && fn.all fun d => d.ok K) && fx.all fun f => f K) = true := congrArg (fun z : He.AlD => z.1) c
  rw [Bool.and_eq_true] at e1
  exact List.all_eq_true.mp e1.2 f (List.mem_of_getElem? h)
/-- what the head tells of the written part -/
structure Ev (fa : List He.Fa) (fx : List Fx) (fn : List He.DefD) (K : PySem.W.Frag) (mg : Str → Option Value) : Prop where
  y : SaysX fa fx fn K
  x : ∃ h : Heap, K.In h ∧ h.Ns mainGlobals mg
section
variable {fa : List He.Fa} {fx : List Fx} {dl : List He.DefD} {K : PySem.W.Frag} {mg : Str → Option Value} (E : Ev fa fx dl K mg)
include E
theorem Ev.c : He.SaysD fa dl K := E.y.d
theorem Ev.own (i : Nat) {f : Fx} (h : fx[i]? = some f := by rfl) : f K = true := E.y.x i h
theorem Ev.glo (i : Nat) {x : Str} (h : fa[i]? = some (.glo x) := by rfl) : mg x = some (.ref (He.ga K x)) := by
  obtain ⟨hp, a, b⟩ := E.x
  exact He.glo_ok a b (E.c.fact i h)
theorem Ev.free (i : Nat) {x : Str} (h : fa[i]? = some (.free x) := by rfl) : mg x = none := by
  obtain ⟨hp, a, b⟩ := E.x
  exact He.free_ok a b (E.c.fact i h)
theorem Ev.int (i : Nat) {x : Str} {z : Int} (h : fa[i]? = some (.int x z) := by rfl) : ∃ t, mg x = some (.int z t) := by
  obtain ⟨hp, a, b⟩ := E.x
  exact He.int_ok a b (E.c.fact i h)
theorem Ev.str (i : Nat) {x z : Str} (h : fa[i]? = some (.str x z) := by rfl) : ∃ t, mg x = some (.str z t) := by
  obtain ⟨hp, a, b⟩ := E.x
  exact He.str_ok a b (E.c.fact i h)
theorem Ev.cls (i : Nat) {x : Str} (h : fa[i]? = some (.cls x) := by rfl) : Cls K (He.ga K x) := He.cls_ok (E.c.fact i h)
theorem Ev.noat (i : Nat) {x f : Str} (h : fa[i]? = some (.noat x f) := by rfl) : NoAttr K (He.ga K x) f := He.noat_ok (E.c.fact i h)
theorem Ev.meth (i : Nat) {x m : Str} (h : fa[i]? = some (.meth x m) := by rfl) : Meth K (He.ga K x) m (He.ma K (He.ga K x) m) := He.meth_ok (E.c.fact i h)
theorem Ev.mkr (i : Nat) {x : Str} (h : fa[i]? = some (.mkr x) := by rfl) : L2.Mk K (He.ga K x) (He.ma K (He.ga K x) "__init__") := He.mkr_ok (E.c.fact i h)
theorem Ev.fn (i : Nat) {d : He.DefD} (h : dl[i]? = some d := by rfl) : ∃ fd, FunD K d.name d.qual d.params d.body d.scope (d.dvs K) (d.kws K) (He.fAd K d.at_) fd := E.c.def_ i h
end
theorem i_start {t : TZ} {Q : VK} {N : List Str} {vs : List V} {H : Hp} {σ : L2.St} (e : L2.start N vs = σ) (h : t (fun _ H' => Q .non H') Q (fun _ _ => False) (fun _ _ => False) σ H) :
    zS t { nx := fun _ H' => Q .non H', rt := Q } (L2.start N vs) H := e ▸ h
theorem cxK {CX : CXT} {P : Program} {w : World} {K : PySem.W.Frag} {mg : Str → Option Value} {base : Heap} {N : List Str} {qual : Str} {scope : Scope} {f : Addr} {cd : Value} {A : Around} {outer : List Env} {s : Shared} {H : Hp} {E : XK} :
    (cxOf CX P w K mg base N qual scope f cd A outer s H E).K = K := rfl
theorem pe_gint {X : Cx} {x : Str} {i : Int} {pos : Pos} (hg : Gl X x) (h : ∃ t, X.mg x = some (.int i t)) (hd : (x == ("__debug__" : Str)) = false := by decide) : PE X (.Name x pos) (tC (.int i)) := by
  obtain ⟨t, e⟩ := h
  exact pe_glob hg e ⟨t, rfl⟩ hd
theorem pe_gstr {X : Cx} {x z : Str} {pos : Pos} (hg : Gl X x) (h : ∃ t, X.mg x = some (.str z t)) (hd : (x == ("__debug__" : Str)) = false := by decide) : PE X (.Name x pos) (tC (.str z)) := by
  obtain ⟨t, e⟩ := h
  exact pe_glob hg e ⟨t, rfl⟩ hd

theorem FunD.uniq {K : PySem.W.Frag} {x qual : Str} {params : Arguments} {body : List Stmt} {scope : Scope} {dvs : List V} {kws : List (Str × V)} {f : Addr} {fd fd' : FuncData}
    (F : FunD K x qual params body scope dvs kws f fd) (F' : FunD K x qual params body scope dvs kws f fd') : fd = fd' := by
  obtain ⟨_, _, _, _, _, _, _, _, _, _, _, lk, _⟩ := F.ex
  obtain ⟨_, _, _, _, _, _, _, _, _, _, _, lk', _⟩ := F'.ex
  rw [lk] at lk'
  cases lk'
  rfl
/-! ### the law's end -/
section
variable {P : Program} {w : World} {K : PySem.W.Frag} {mg mb : Str → Option Value} {k : Nat} {fa a : Addr} {fd : FuncData} {x : Str} {sp : Sp} {s₁ : Shared} {vs : List Value} {ns : List Int}
/-- the law's call, from an abstract heap that tracks the script at most -/
theorem law_core (KX : K.In s₁.heap) (hns : s₁.heap.Ns mainGlobals mg) (hb : s₁.heap.Ns builtinsNs mb) (hbb : ∀ x : Str, x ≠ "__name__" → mb x = bootBuiltins x) (hlim : s₁.heap.NoLimit)
    (hgen : s₁.gens = #[]) (ha : s₁.heap.get? a = some { cls := .type "list", data := .seq vs.toArray }) (hr : Room k callerA)
    (F : ∀ base : Heap, K.In base → base.Ns mainGlobals mg → FnG True P w K mg base k fa fd [x] sp) (bnd : ∀ (s : Shared) (u : Value), BindsTo s fd ⟨[u], []⟩ [(x, u)])
    (H : Hp) (only : Only H) (hq : sp [.ref a] H (fun v _ => v = .bl true) fun _ _ _ => False) (hok : HOk P w H s₁.heap) (at_ : ∀ b, H b ≠ none → b = a) (nk : H a ≠ none → K.lookup a = none) :
    codeAny (model P w) callerA (.call (.ref fa) ⟨[.ref a], []⟩) (fun r s' => r = .ok (.ret (.bool true)) ∧ OldK s₁.heap s'.heap ∧ s'.os = s₁.os ∧ AllBare s'.gens) s₁ := by
  have isA : ∀ {b : Addr} {u : HO}, H b = some u → b = a := fun {b u} e => at_ b (by rw [e]; exact fun z => nomatch z)
  have hid : ∀ {b : Addr} {o : Obj}, s₁.heap.get? b = some o → H b = none → (hidT s₁.heap H).get? b = some o := fun e n => hidT_get e n
  have noDict : ∀ {b : Addr} {o : Obj} {es : Array DictEntry} {ep : Nat}, s₁.heap.get? b = some o → o.data = .dict es ep → H b = none := by
    intro b o es ep e d
    cases q : H b with
    | none => rfl
    | some u =>
      rw [isA q, ha] at e
      cases e
      exact absurd (show Data.seq vs.toArray _ = Data.dict es ep from d) (fun z => nomatch z)
  have nsK : ∀ {b : Addr} {m : Str → Option Value}, s₁.heap.Ns b m → (hidT s₁.heap H).Ns b m := fun {b m} z => by
    obtain ⟨o, es, ep, e, d, r⟩ := z
    exact ⟨o, es, ep, hid e (noDict e d), d, r⟩
  have kb : K.In (hidT s₁.heap H) := fun b o e => hid (KX b o e) (by
    cases q : H b with
    | none => rfl
    | some u =>
      have z := isA q
      subst z
      rw [nk (by rw [q]; exact fun z => nomatch z)] at e
      cases e)
  have lim : (hidT s₁.heap H).NoLimit := by
    obtain ⟨mc, h1, h2⟩ := hlim
    exact ⟨mc, nsK h1, h2⟩
  have none_in : ∀ b : Addr, b ∉ frs ([] : List Env) := fun b z => by cases (show b ∈ ([] : List Addr) from z)
  have e0 : Env0 P w K mg (hidT s₁.heap H) callerA [] s₁ H :=
    ⟨rfl, ⟨kb, nsK hns, ⟨mb, nsK hb, hbb⟩, lim⟩, fun b o e => of_hidT e, Nat.le_of_eq (hidT_size _ _), trivial, fun b z => absurd z (none_in b), hok, .of_eq hgen⟩
  refine codeAny_mono ((F _ kb (nsK hns)).run callerA [] s₁ H ⟨[.ref a], []⟩ [.ref a] [.ref a] _ _ hr (fun _ => rfl) e0 (bnd s₁ (.ref a)) (.cons rfl .nil) hq) fun r s' h => ?_
  match r, h with
  | .error e, h =>
    obtain ⟨_, _, _, _, _, _, _, _, _, _, _, _, z⟩ := (show L2.CX P w [] H s₁ (fun _ _ _ => False) e s' from h)
    exact z.elim
  | .ok .next, h => exact False.elim h
  | .ok .brk, h => exact False.elim h
  | .ok .cont, h => exact False.elim h
  | .ok (.ret u), h =>
    obtain ⟨v, H', os, bare, un, hok', r', q⟩ := h
    subst q
    obtain rfl : u = Value.bool true := r'
    refine ⟨rfl, OldK.of_keep fun b o e => ?_, os, bare⟩
    cases q : H b with
    | none => exact un.keep b o e q (none_in b) (by simp)
    | some u =>
      rcases only b with z | ⟨ob, xs, z⟩
      · rw [q] at z
        cases z
      · obtain ⟨e1, _⟩ := hok b _ z
        obtain ⟨e2, _⟩ := hok' b _ (un.frzs b ob _ z)
        rw [e] at e1
        cases e1
        exact e2
theorem law_callG (KX : K.In s₁.heap) (hns : s₁.heap.Ns mainGlobals mg) (hb : s₁.heap.Ns builtinsNs mb) (hbb : ∀ x : Str, x ≠ "__name__" → mb x = bootBuiltins x) (hlim : s₁.heap.NoLimit)
    (hgen : s₁.gens = #[]) (ha : s₁.heap.get? a = some { cls := .type "list", data := .seq vs.toArray }) (hi : IntsAre vs ns) (hl : ns.length ≤ sizeLine) (hr : Room k callerA)
    (F : ∀ base : Heap, K.In base → base.Ns mainGlobals mg → FnG True P w K mg base k fa fd [x] sp) (bnd : ∀ (s : Shared) (u : Value), BindsTo s fd ⟨[u], []⟩ [(x, u)])
    (hsp : ∀ H : Hp, Only H → SqL K H a (ns.map V.int) → sp [.ref a] H (fun v _ => v = .bl true) fun _ _ _ => False) :
    codeAny (model P w) callerA (.call (.ref fa) ⟨[.ref a], []⟩) (fun r s' => r = .ok (.ret (.bool true)) ∧ OldK s₁.heap s'.heap ∧ s'.os = s₁.os ∧ AllBare s'.gens) s₁ := by
  have rv := vals_ints hi
  have ln := hi.length
  cases hk : K.lookup a with
  | some o =>
    have e := KX a o hk
    rw [ha] at e
    cases e
    have S : SqL K (fun _ => none) a (ns.map V.int) := .inr ⟨_, vs.toArray, _, hk, rfl, rfl, rfl, by rw [List.size_toArray, ln]; exact hl, by simpa using rv⟩
    exact law_core KX hns hb hbb hlim hgen ha hr F bnd _ (fun _ => .inl rfl) (hsp _ (fun _ => .inl rfl) S) (fun b u z => nomatch (show (none : Option HO) = some u from z)) (fun b z => absurd rfl z) fun z => absurd rfl z
  | none =>
    let H : Hp := fun b => if b = a then some (.frz { cls := .type "list", data := .seq vs.toArray } (.lst (ns.map V.int))) else none
    have Ha : H a = some (.frz { cls := .type "list", data := .seq vs.toArray } (.lst (ns.map V.int))) := if_pos rfl
    have Hn : ∀ b, b ≠ a → H b = none := fun b z => if_neg z
    have only : Only H := fun b => by
      by_cases z : b = a
      · subst z
        exact .inr ⟨_, _, Ha⟩
      · exact .inl (Hn b z)
    refine law_core KX hns hb hbb hlim hgen ha hr F bnd H only (hsp H only (.inl (.inr ⟨_, Ha⟩))) (fun b u z => ?_) (fun b z => ?_) fun _ => hk
    · by_cases e : b = a
      · subst e
        rw [Ha] at z
        cases z
        exact ⟨ha, by rw [List.length_map]; exact hl, vs, _, rv, ha⟩
      · rw [Hn b e] at z
        cases z
    · by_cases e : b = a
      · exact e
      · exact absurd (Hn b e) z
end
/-- a law's row: the promise of its def for every script, with the script's bits -/
theorem walk_ofG {l : PySem.W.OpenLaw} {n k : Nat} {q : Program} {loose : List Str} {XP : (Str → Option Value) → Heap → Prop} {YP : World → Heap → Prop} {d : DefRec} {x : Str}
    (hn : l.most = some n) (hn2 : n ≤ sizeLine) (hdf : d.params.defaults = []) (hr : Room k callerA)
    (F : ∀ (w : World) (mg : Str → Option Value) (fa : Addr) (h : Heap), YP w h → h.Ns mainGlobals mg → mg d.name = some (.ref fa) →
      ∃ (K : PySem.W.Frag) (fd : FuncData) (sp : Sp), K.In h ∧ (∀ (s : Shared) (u : Value), BindsTo s fd ⟨[u], []⟩ [(x, u)]) ∧
        (∀ (H : Hp) (a : Addr) (ns : List Int), ns.length ≤ n → (∀ z ∈ ns, Builtin.Int.intBits z ≤ 1048576) → Only H → SqL K H a (ns.map V.int) → sp [.ref a] H (fun v _ => v = .bl true) fun _ _ _ => False) ∧
        ∀ base : Heap, K.In base → base.Ns mainGlobals mg → FnG True l.prog w K mg base k fa fd [x] sp) :
    PySem.W.WalkO q loose XP YP l.row.toRowW d [] (fun f vs => PySem.call f vs) := by
  refine Att.attach_callB hn hdf fun w s₀ s₁ mg mb fa o pm cd doc a vs ns G Y ho hd hcd hmg hobj hints hlen hbits hgn => ?_
  obtain ⟨K, fd, sp, KX, bnd, hsp, hF⟩ := F w mg fa _ Y G.T.g hmg
  exact law_callG KX G.T.g G.T.b G.T.builtins G.T.nolimit hgn hobj hints (Nat.le_trans hlen hn2) hr hF bnd fun H hO hS => hsp H a ns hlen hbits hO hS
end Z

/-! Z, part five: data: equality and repr. -/
namespace Z
open PySem PySem.Spec PyProof.Rows L2

/-- greater than what the laws draw -/
def big : Nat := 2 ^ 1200
/-! ### data that is fine: ints that aren't too great, texts, no dicts -/
mutual
def fine : PyData → Bool
  | .none | .bool _ => true
  | .int i => decide (i.natAbs < big)
  | .str x => PyData.canLay0 (.str x) && x.cps.toList.all fun c => decide (c < 16 ^ 8)
  | .list l | .tuple l => fines l
  | .dict _ => false
def fines : List PyData → Bool
  | [] => true
  | d :: l => fine d && fines l
end
theorem fines_iff : ∀ {l : List PyData}, fines l = true ↔ ∀ d ∈ l, fine d = true
  | [] => by simp [fines]
  | d :: l => by
    rw [fines, Bool.and_eq_true, fines_iff (l := l)]
    simp
theorem fines_ints {ns : List Int} (h : ∀ n ∈ ns, n.natAbs < big) : fines (ns.map PyData.int) = true := by
  rw [fines_iff]
  intro d hd
  obtain ⟨n, hn, rfl⟩ := List.mem_map.mp hd
  exact decide_eq_true (h n hn)
mutual
theorem fine_lay : ∀ d : PyData, fine d = true → d.canLay0 = true
  | .none, _ | .bool _, _ | .int _, _ => rfl
  | .str x, h => by
    simp only [fine, Bool.and_eq_true] at h
    exact h.1
  | .list l, h | .tuple l, h => by
    simp only [fine] at h
    simpa only [PyData.canLay0] using fines_lay l h
  | .dict _, h => by simp only [fine] at h; cases h
theorem fines_lay : ∀ l : List PyData, fines l = true → PyData.canLayAll0 l = true
  | [], _ => rfl
  | d :: l, h => by
    simp only [fines, Bool.and_eq_true] at h
    simp only [PyData.canLayAll0, Bool.and_eq_true]
    exact ⟨fine_lay d h.1, fines_lay l h.2⟩
end
theorem two_ten : big < 10 ^ 398 := by decide +kernel
mutual
theorem fine_show : ∀ d : PyData, fine d = true → d.showable = true
  | .none, _ | .bool _, _ | .str _, _ => by simp only [PyData.showable]
  | .int i, h => by
    simp only [fine, decide_eq_true_eq] at h
    simp only [PyData.showable, decide_eq_true_eq]
    exact Nat.lt_trans (PySem.Flt.log2_lt_of (k := 1200) (by decide) h) (by decide)
  | .list l, h | .tuple l, h => by
    simp only [fine] at h
    simpa only [PyData.showable] using fines_show l h
  | .dict _, h => by simp only [fine] at h; cases h
theorem fines_show : ∀ l : List PyData, fines l = true → PyData.showableAll l = true
  | [], _ => rfl
  | d :: l, h => by
    simp only [fines, Bool.and_eq_true] at h
    simp only [PyData.showableAll, Bool.and_eq_true]
    exact ⟨fine_show d h.1, fines_show l h.2⟩
end
mutual
theorem fine_dict : ∀ d : PyData, fine d = true → d.hasDict = false
  | .none, _ | .bool _, _ | .str _, _ | .int _, _ => by simp only [PyData.hasDict]
  | .list l, h | .tuple l, h => by
    simp only [fine] at h
    simpa only [PyData.hasDict] using fines_dict l h
  | .dict _, h => by simp only [fine] at h; cases h
theorem fines_dict : ∀ l : List PyData, fines l = true → PyData.hasDictAll l = false
  | [], _ => rfl
  | d :: l, h => by
    simp only [fines, Bool.and_eq_true] at h
    simp only [PyData.hasDictAll, fine_dict d h.1, fines_dict l h.2, Bool.or_false]
end
theorem int_len {i : Int} (h : i.natAbs < big) : (PyData.shown (.int i)).length ≤ 400 := by
  have e := int_text_length_le10 (k := 398) (by decide) (Nat.lt_trans h two_ten)
  show (Str.ofString (toString i)).length ≤ 400
  rw [PySem.ofString_length]
  omega
mutual
theorem fine_short : ∀ d : PyData, fine d = true → d.leavesShort 400 = true
  | .none, _ | .bool _, _ => by simp only [PyData.leavesShort]
  | .int i, h => by
    simp only [fine, decide_eq_true_eq] at h
    simp only [PyData.leavesShort, decide_eq_true_eq]
    exact int_len h
  | .str x, h => by
    simp only [fine, Bool.and_eq_true] at h
    simpa only [PyData.leavesShort] using h.2
  | .list l, h | .tuple l, h => by
    simp only [fine] at h
    simpa only [PyData.leavesShort] using fines_short l h
  | .dict _, h => by simp only [fine] at h; cases h
theorem fines_short : ∀ l : List PyData, fines l = true → PyData.leavesShortAll 400 l = true
  | [], _ => by simp only [PyData.leavesShortAll]
  | d :: l, h => by
    simp only [fines, Bool.and_eq_true] at h
    simp only [PyData.leavesShortAll, Bool.and_eq_true]
    exact ⟨fine_short d h.1, fines_short l h.2⟩
end
/-- fine, not too deep, not too much -/
structure Neat (d : PyData) : Prop where
  f : fine d = true
  dp : d.depth ≤ 40
  bk : d.bulk ≤ 40000
theorem Neat.shaped {d : PyData} (h : Neat d) : SeqAt.shaped d = true := by
  unfold SeqAt.shaped
  rw [Bool.and_eq_true, decide_eq_true_eq]
  exact ⟨fine_lay d h.f, Nat.le_trans h.dp (by decide)⟩
theorem Neat.fits {d : PyData} (h : Neat d) : d.shown.length ≤ sizeLine := by
  have z := PyData.shown_le_bulk 400 (by decide) d (fine_short d h.f)
  have k := h.bk
  rw [sizeLine_eq]
  omega
theorem Neat.refl {d : PyData} (h : Neat d) : PyData.eqv d d = true := SeqAt.eqv_refl d (fine_lay d h.f)
theorem depth_ints (ns : List Int) : PyData.depthAll (ns.map PyData.int) = 0 := by
  induction ns with
  | nil => simp [PyData.depthAll]
  | cons n r ih => simp [PyData.depthAll, PyData.depth, ih]
theorem bulk_ints (ns : List Int) : PyData.bulkAll (ns.map PyData.int) = ns.length := by
  induction ns with
  | nil => simp [PyData.bulkAll]
  | cons n r ih => simp [PyData.bulkAll, PyData.bulk, ih]; omega
theorem neat_ints {ns : List Int} (h : ∀ n ∈ ns, n.natAbs < big) (l : ns.length ≤ 40000) : Neat (.list (ns.map PyData.int)) :=
  ⟨by simp only [fine]; exact fines_ints h, by simp only [PyData.depth, depth_ints]; omega, by simp only [PyData.bulk, bulk_ints]; exact l⟩
theorem shaped_ints (ns : List Int) : SeqAt.shaped (.list (ns.map PyData.int)) = true := by
  unfold SeqAt.shaped
  rw [Bool.and_eq_true, decide_eq_true_eq]
  refine ⟨?_, by simp only [PyData.depth, depth_ints]; omega⟩
  simp only [PyData.canLay0]
  induction ns with
  | nil => rfl
  | cons n r ih => simp only [List.map_cons, PyData.canLayAll0, PyData.canLay0, Bool.true_and]; exact ih
theorem eqv_ints : ∀ ns ms : List Int, PyData.eqv (.list (ns.map PyData.int)) (.list (ms.map PyData.int)) = decide (ns = ms) := by
  have key : ∀ ns ms : List Int, PyData.eqvAll (ns.map PyData.int) (ms.map PyData.int) = decide (ns = ms) := by
    intro ns
    induction ns with
    | nil => intro ms; cases ms <;> simp [PyData.eqvAll]
    | cons n r ih =>
      intro ms
      cases ms with
      | nil => simp [PyData.eqvAll]
      | cons m q =>
        simp only [List.map_cons, PyData.eqvAll, PyData.eqv, ih q, List.cons.injEq, Bool.decide_and]
        rfl
  intro ns ms
  simp only [PyData.eqv]
  exact key ns ms
section
variable {K : PySem.W.Frag} {H : Hp} {Q : VK} {p q : Addr} {ns ms : List Int} {d e : PyData} {x y : V}
theorem i_neLI (h1 : H p = some (.lst (ns.map V.int))) (h2 : H q = some (.lst (ms.map V.int))) (k : Q (.bl (!decide (ns = ms))) H) : rNeU K (.ref p) (.ref q) H Q :=
  i_neD (dp_lints h1) (dp_lints h2) (shaped_ints ns) (shaped_ints ms) (by rw [eqv_ints]; exact k)
theorem i_eqLI (h1 : H p = some (.lst (ns.map V.int))) (h2 : H q = some (.lst (ms.map V.int))) (k : Q (.bl (decide (ns = ms))) H) : rEqU K (.ref p) (.ref q) H Q :=
  i_eqD (dp_lints h1) (dp_lints h2) (shaped_ints ns) (shaped_ints ms) (by rw [eqv_ints]; exact k)
/-- the same data on both sides -/
theorem i_neDD (h1 : Dp K H x d) (h2 : Dp K H y d) (n : Neat d) (k : Q (.bl false) H) : rNeU K x y H Q := i_neD h1 h2 n.shaped n.shaped (by rw [n.refl]; exact k)
theorem i_eqDD (h1 : Dp K H x d) (h2 : Dp K H y d) (n : Neat d) (k : Q (.bl true) H) : rEqU K x y H Q := i_eqD h1 h2 n.shaped n.shaped (by rw [n.refl]; exact k)
end

/-! ### repr -/
def rRepr (K : PySem.W.Frag) : List V → Hp → VK → Prop := fun vs H Q => ∃ x d, vs = [x] ∧ Dp K H x d ∧ Neat d ∧ Q (.str d.shown) H
theorem crepr {X : Cx} {k : Nat} {g : Prop} (hr : Room k X.A) (gd : Gd g X.A) (hg : g) : CallR X (.builtin "repr") (rRepr X.K) := by
  intro pins s σ H vs us Q I r h
  obtain ⟨x, d, rfl, hd, n, q⟩ := h
  obtain ⟨u, rfl, rx⟩ := Vals.one r
  obtain ⟨as, hr'⟩ := Dp.reads I d x u hd rx
  have l1 : d.shown.length ≤ sizeLine := n.fits
  cases hd with
  | non =>
    cases rx
    exact PySem.P.repr_of_none ⟨.str _, H, I.tok _, ⟨_, rfl⟩, q⟩
  | bl b =>
    cases rx
    exact PySem.P.repr_of_bool ⟨.str _, H, I.tok _, ⟨_, rfl⟩, q⟩
  | int i =>
    obtain ⟨t, rfl⟩ := rx
    have f := n.f
    simp only [fine, decide_eq_true_eq] at f
    exact PySem.P.repr_of_int (Nat.lt_trans (PySem.Flt.log2_lt_of (k := 1200) (by decide) f) (by decide)) ⟨.str _, H, I.tok _, ⟨_, rfl⟩, q⟩
  | str z =>
    obtain ⟨t, rfl⟩ := rx
    exact PySem.P.repr_of_str ⟨.str _, H, I.tok _, ⟨_, rfl⟩, q⟩ l1
  | lst hs ha =>
    cases rx
    exact repr_of_reads' hr' (fine_show _ n.f) (fun z => by rw [fine_dict _ n.f] at z; cases z) (gd hg) (by have := n.dp; have := hr.un; omega) (fun _ _ e => e)
      (fun h' u tk hk => ⟨.str _, H, I.kept (t' := tk) hk, ⟨_, rfl⟩, q⟩) n.fits
  | tup hs ha =>
    cases rx
    exact repr_of_reads' hr' (fine_show _ n.f) (fun z => by rw [fine_dict _ n.f] at z; cases z) (gd hg) (by have := n.dp; have := hr.un; omega) (fun _ _ e => e)
      (fun h' u tk hk => ⟨.str _, H, I.kept (t' := tk) hk, ⟨_, rfl⟩, q⟩) n.fits
theorem creprK {X : Cx} {k : Nat} {g : Prop} (K : PySem.W.Frag) (h : X.K = K) (hr : Room k X.A) (gd : Gd g X.A) (hg : g) : CallR X (.builtin "repr") (rRepr K) := h ▸ crepr hr gd hg
end Z

/-! Z, part six: lists of ints; rows of like things. -/
namespace Z
open PySem PySem.Spec PyProof.Rows L2

section
variable {K : PySem.W.Frag} {H : Hp} {Q : VK} {i j a : Int} {p q : Addr} {ns ms : List Int}
theorem i_addLI (h1 : H p = some (.lst (ns.map V.int))) (h2 : H q = some (.lst (ms.map V.int))) (z : ns.length + ms.length ≤ 1000000) (h : ∀ r H', New H r (.lst ((ns ++ ms).map V.int)) H' → Q (.ref r) H') : rAdd K (.ref p) (.ref q) H Q :=
  i_addL h1 h2 (by rw [List.length_map, List.length_map, sizeLine_eq]; omega) (by rw [← List.map_append]; exact h)
theorem i_addL1 (h1 : H p = some (.lst (ns.map V.int))) (h2 : H q = some (.lst [V.int a])) (z : ns.length + 1 ≤ 1000000) (h : ∀ r H', New H r (.lst ((ns ++ [a]).map V.int)) H' → Q (.ref r) H') : rAdd K (.ref p) (.ref q) H Q :=
  i_addLI (ms := [a]) h1 h2 z h
theorem i_mulLI (h1 : H p = some (.lst [V.int a])) (z : -1000000 ≤ j ∧ j ≤ 1000000) (h : ∀ r H', New H r (.lst ((List.replicate j.toNat a).map V.int)) H' → Q (.ref r) H') : rMul K (.ref p) (.int j) H Q := by
  refine i_mulL h1 (by omega) (by omega) (by rw [sizeLine_eq, List.length_singleton]; omega) ?_
  have e : (List.replicate j.toNat [V.int a]).flatten = (List.replicate j.toNat a).map V.int := by
    induction j.toNat with
    | zero => rfl
    | succ n ih => rw [List.replicate_succ, List.flatten_cons, ih, List.replicate_succ]; rfl
  rw [e]; exact h
end
theorem i_lenLI {K : PySem.W.Frag} {H : Hp} {Q : VK} {p : Addr} {ns : List Int} (h : H p = some (.lst (ns.map V.int))) (q : Q (.int (ns.length : Nat)) H) : rLenU K [V.ref p] H Q := i_lenL h (by rw [List.length_map]; exact q)
theorem i_lenQI {K : PySem.W.Frag} {H : Hp} {Q : VK} {p : Addr} {ns : List Int} (h : SqL K H p (ns.map V.int)) (q : Q (.int (ns.length : Nat)) H) : rLenU K [V.ref p] H Q := i_lenQ h (by rw [List.length_map]; exact q)
/-- item by item -/
def All2 {α β : Type} (R : α → β → Prop) (xs : List α) (ys : List β) : Prop := xs.length = ys.length ∧ ∀ (i : Nat) x y, xs[i]? = some x → ys[i]? = some y → R x y
section
variable {α β : Type} {R S : α → β → Prop} {xs xs' : List α} {ys ys' : List β} {x : α} {y : β} {i : Nat}
theorem All2.nil : All2 R [] [] := ⟨rfl, fun _ _ _ h => by simp at h⟩
theorem All2.len (h : All2 R xs ys) : xs.length = ys.length := h.1
theorem All2.mono (h : All2 R xs ys) (m : ∀ x y, R x y → S x y) : All2 S xs ys := ⟨h.1, fun i x y a b => m x y (h.2 i x y a b)⟩
theorem All2.app (h : All2 R xs ys) (h' : All2 R xs' ys') : All2 R (xs ++ xs') (ys ++ ys') := by
  refine ⟨by rw [List.length_append, List.length_append, h.1, h'.1], fun i x y a b => ?_⟩
  by_cases l : i < xs.length
  · rw [List.getElem?_append_left l] at a
    rw [List.getElem?_append_left (h.1 ▸ l)] at b
    exact h.2 i x y a b
  · rw [List.getElem?_append_right (by omega)] at a
    rw [List.getElem?_append_right (by have := h.1; omega), ← h.1] at b
    exact h'.2 _ x y a b
theorem All2.one (h : R x y) : All2 R [x] [y] := by
  refine ⟨rfl, fun i a b e e' => ?_⟩
  cases i with
  | zero => cases e; cases e'; exact h
  | succ n => simp at e
theorem All2.snoc (h : All2 R xs ys) (h' : R x y) : All2 R (xs ++ [x]) (ys ++ [y]) := h.app (.one h')
theorem All2.cons (h' : R x y) (h : All2 R xs ys) : All2 R (x :: xs) (y :: ys) := (All2.one h').app h
theorem All2.get (h : All2 R xs ys) (e : xs[i]? = some x) : ∃ y, ys[i]? = some y ∧ R x y := by
  have l := (List.getElem?_eq_some_iff.mp e).1
  have e' : ys[i]? = some (ys[i]'(h.1 ▸ l)) := by simp
  exact ⟨_, e', h.2 i _ _ e e'⟩
theorem All2.get' (h : All2 R xs ys) (e : ys[i]? = some y) : ∃ x, xs[i]? = some x ∧ R x y := by
  have l := (List.getElem?_eq_some_iff.mp e).1
  have e' : xs[i]? = some (xs[i]'(h.1 ▸ l)) := by simp
  exact ⟨_, e', h.2 i _ _ e' e⟩
theorem All2.uncons (h : All2 R (x :: xs) (y :: ys)) : R x y ∧ All2 R xs ys :=
  ⟨h.2 0 x y rfl rfl, by have := h.1; simp at this; exact this, fun i a b e e' => h.2 (i + 1) a b (by simpa using e) (by simpa using e')⟩
theorem All2.nil_of (h : All2 R xs ([] : List β)) : xs = [] := List.eq_nil_of_length_eq_zero h.1
theorem All2.cons_of (h : All2 R xs (y :: ys)) : ∃ x xs', xs = x :: xs' ∧ R x y ∧ All2 R xs' ys := by
  cases xs with
  | nil => cases h.1
  | cons x xs' => exact ⟨x, xs', rfl, h.uncons.1, h.uncons.2⟩
theorem All2.mem (h : All2 R xs ys) (e : x ∈ xs) : ∃ y, y ∈ ys ∧ R x y := by
  obtain ⟨i, hi⟩ := List.getElem?_of_mem e
  obtain ⟨y, hy, r⟩ := h.get hi
  exact ⟨y, List.mem_of_getElem? hy, r⟩
end
/-- objects of unlike kinds stand apart -/
theorem ne_tl {H : Hp} {a b : Addr} {xs ys : List V} (h : H a = some (.tup xs)) (h' : H b = some (.lst ys)) : a ≠ b := fun e => by subst e; rw [h] at h'; cases h'
theorem ne_lt {H : Hp} {a b : Addr} {xs ys : List V} (h : H a = some (.lst xs)) (h' : H b = some (.tup ys)) : a ≠ b := fun e => by subst e; rw [h] at h'; cases h'
theorem ne_il {H : Hp} {a b C dx : Addr} {fs : List (Str × V)} {ys : List V} (h : H a = some (.ins C dx fs)) (h' : H b = some (.lst ys)) : a ≠ b := fun e => by subst e; rw [h] at h'; cases h'
theorem ne_it {H : Hp} {a b C dx : Addr} {fs : List (Str × V)} {ys : List V} (h : H a = some (.ins C dx fs)) (h' : H b = some (.tup ys)) : a ≠ b := fun e => by subst e; rw [h] at h'; cases h'
/-- a tuple of a count and a number -/
def IsPair (H : Hp) (v : V) (t : Nat × Int) : Prop := ∃ r, v = .ref r ∧ H r = some (.tup [.int (t.1 : Nat), .int t.2])
section
variable {H H' : Hp} {v : V} {t : Nat × Int} {D : Addr} {o : HO} {xs : List V}
theorem IsPair.same (h : IsPair H v t) (s : Same H H') : IsPair H' v t := by
  obtain ⟨r, e, h⟩ := h
  exact ⟨r, e, s _ _ h⟩
theorem IsPair.up (h : IsPair H v t) (u : Up H D o H') (hD : H D = some (.lst xs)) : IsPair H' v t := by
  obtain ⟨r, e, h⟩ := h
  exact ⟨r, e, u.get (ne_tl h hD) h⟩
end
end Z
namespace Z
open PySem PySem.Spec PyProof.Rows L2
theorem IsPair.but {H H' : Hp} {v : V} {t : Nat × Int} {D : Addr} {xs : List V} (h : IsPair H v t) (b : But D H H') (hD : H D = some (.lst xs)) : IsPair H' v t := by
  obtain ⟨r, e, h⟩ := h
  exact ⟨r, e, b.get (ne_tl h hD) h⟩
/-- the list of f's values -/
def fl (f : Nat → Int) (n : Nat) : List V := ((List.range n).map f).map V.int
theorem fl_len (f : Nat → Int) (n : Nat) : (fl f n).length = n := by unfold fl; rw [List.length_map, List.length_map, List.length_range]
theorem fl_get (f : Nat → Int) {n i : Nat} (h : i < n) : (fl f n)[i]? = some (.int (f i)) := by
  unfold fl
  rw [List.getElem?_map, List.getElem?_map, List.getElem?_range h]; rfl
theorem fl_congr {f g : Nat → Int} {n : Nat} (h : ∀ i, i < n → f i = g i) : fl f n = fl g n := by
  unfold fl
  congr 1
  exact List.map_congr_left fun k hk => h k (List.mem_range.mp hk)
theorem fl_set (f : Nat → Int) (n i : Nat) (c : Int) : (fl f n).set i (.int c) = fl (fun p => if p = i then c else f p) n := by
  refine List.ext_getElem? fun j => ?_
  by_cases l : j < n
  · rw [fl_get _ l, List.getElem?_set]
    by_cases e : i = j
    · subst e
      rw [if_pos rfl, if_pos (by rw [fl_len]; exact l), if_pos rfl]
    · rw [if_neg e, fl_get _ l, if_neg (Ne.symm e)]
  · rw [List.getElem?_eq_none (by rw [List.length_set, fl_len]; omega), List.getElem?_eq_none (by rw [fl_len]; omega)]
theorem fl_zero (n : Nat) : (List.replicate n (0 : Int)).map V.int = fl (fun _ => 0) n := by
  unfold fl
  rw [List.map_const', List.length_range]
end Z
namespace Z
open PySem PySem.Spec PyProof.Rows L2
theorem ixN_nat {n k : Nat} (h : k < n) : ixN n (k : Int) = some k := by
  unfold ixN
  rw [if_pos (by omega)]
  rw [if_pos (by omega)]
  exact congrArg some (by omega)
end Z
namespace Z
open PySem PySem.Spec PyProof.Rows L2
section
variable {K : PySem.W.Frag} {H : Hp} {g : TG} {tb : TZ} {tt : TT} {te : TE} {vs : List Nat} {nx : L2.St → Hp → Prop} {rt : VK} {σ : L2.St} {Q : VK} {n : Nat}
theorem loop_range0 (Pv : Nat → L2.St → Hp → Prop) (h0 : Pv 0 σ H) (hs : ∀ i σ H, i < n → Pv i σ H → g (.int (i : Nat)) σ H fun σ2 H2 => tb (Pv (i + 1)) rt nx (Pv (i + 1)) σ2 H2) (hd : ∀ σ H, Pv n σ H → nx σ H) :
    zLoop (Itr 0 n) g tb nx rt σ H := loop_range Pv h0 (fun i σ H a b => by rw [Int.zero_add]; exact hs i σ H a b) hd
theorem comp_range0 (G : Nat → List V → Hp → Prop) (h0 : ∀ D H', New H D (.lst []) H' → G 0 [] H')
    (hs : ∀ D i acc H2, H D = none → i < n → H2 D = some (.lst acc) → G i acc H2 → g (.int (i : Nat)) (wipe σ vs) H2 fun σ2 H3 => wipe σ2 vs = wipe σ vs ∧ tt σ2 H3 fun b H4 =>
      if b = true then te σ2 H4 fun y H5 => zEnd D (G (i + 1)) y H5 else zSkip D (G (i + 1)) H4)
    (hd : ∀ D acc H2, H D = none → H2 D = some (.lst acc) → G n acc H2 → Q (.ref D) H2) : zComp (Itr 0 n) g tt te vs σ H Q :=
  comp_range G h0 (fun D i acc H2 a b c d => by rw [Int.zero_add]; exact hs D i acc H2 a b c d) hd
end
theorem fl_snoc (f : Nat → Int) (n : Nat) : fl f n ++ [.int (f n)] = fl f (n + 1) := by
  unfold fl
  rw [List.range_succ, List.map_append, List.map_append]; rfl
end Z
namespace Z
open PySem PySem.Spec PyProof.Rows L2
/-! ### isinstance of built-in kinds -/
theorem cisi {X : Cx} : CallR X (.builtin "isinstance") (rIsi X.K) := call_isi
theorem cisiK {X : Cx} (K : PySem.W.Frag) (h : X.K = K) : CallR X (.builtin "isinstance") (rIsi K) := h ▸ cisi
def rIsiG (K : PySem.W.Frag) : List V → Hp → VK → Prop := rIsi K
theorem i_isi0 {K : PySem.W.Frag} {H : Hp} {Q : VK} {xs : List V} (h : rIsiG K xs H Q) : rIsi K xs H Q := h
theorem i_isi {K : PySem.W.Frag} {H : Hp} {Q : VK} {x : V} {a n : String} {b : Bool} (ty : TyX K H x (.type a)) (e : kitB a n = some b) (q : Q (.bl b) H) : rIsi K [x, .ty n] H Q := ⟨x, .ty n, .type a, .type n, b, rfl, .ty n, ty, kit_ty e, q⟩
theorem kb_I_int : kitB "int" "int" = some true := by decide +kernel
theorem isi_I_int {K : PySem.W.Frag} {H : Hp} {Q : VK} {i : Int} (q : Q (.bl true) H) : rIsiG K [V.int i, .ty "int"] H Q := i_isi (TyX.base (TyOf.int i)) kb_I_int q
theorem kb_I_bool : kitB "int" "bool" = some false := by decide +kernel
theorem isi_I_bool {K : PySem.W.Frag} {H : Hp} {Q : VK} {i : Int} (q : Q (.bl false) H) : rIsiG K [V.int i, .ty "bool"] H Q := i_isi (TyX.base (TyOf.int i)) kb_I_bool q
theorem kb_I_str : kitB "int" "str" = some false := by decide +kernel
theorem isi_I_str {K : PySem.W.Frag} {H : Hp} {Q : VK} {i : Int} (q : Q (.bl false) H) : rIsiG K [V.int i, .ty "str"] H Q := i_isi (TyX.base (TyOf.int i)) kb_I_str q
theorem kb_I_list : kitB "int" "list" = some false := by decide +kernel
theorem isi_I_list {K : PySem.W.Frag} {H : Hp} {Q : VK} {i : Int} (q : Q (.bl false) H) : rIsiG K [V.int i, .ty "list"] H Q := i_isi (TyX.base (TyOf.int i)) kb_I_list q
theorem kb_I_tuple : kitB "int" "tuple" = some false := by decide +kernel
theorem isi_I_tuple {K : PySem.W.Frag} {H : Hp} {Q : VK} {i : Int} (q : Q (.bl false) H) : rIsiG K [V.int i, .ty "tuple"] H Q := i_isi (TyX.base (TyOf.int i)) kb_I_tuple q
theorem kb_I_dict : kitB "int" "dict" = some false := by decide +kernel
theorem isi_I_dict {K : PySem.W.Frag} {H : Hp} {Q : VK} {i : Int} (q : Q (.bl false) H) : rIsiG K [V.int i, .ty "dict"] H Q := i_isi (TyX.base (TyOf.int i)) kb_I_dict q
theorem kb_B_int : kitB "bool" "int" = some true := by decide +kernel
theorem isi_B_int {K : PySem.W.Frag} {H : Hp} {Q : VK} {k : Bool} (q : Q (.bl true) H) : rIsiG K [V.bl k, .ty "int"] H Q := i_isi (TyX.base (TyOf.bl k)) kb_B_int q
theorem kb_B_bool : kitB "bool" "bool" = some true := by decide +kernel
theorem isi_B_bool {K : PySem.W.Frag} {H : Hp} {Q : VK} {k : Bool} (q : Q (.bl true) H) : rIsiG K [V.bl k, .ty "bool"] H Q := i_isi (TyX.base (TyOf.bl k)) kb_B_bool q
theorem kb_B_str : kitB "bool" "str" = some false := by decide +kernel
theorem isi_B_str {K : PySem.W.Frag} {H : Hp} {Q : VK} {k : Bool} (q : Q (.bl false) H) : rIsiG K [V.bl k, .ty "str"] H Q := i_isi (TyX.base (TyOf.bl k)) kb_B_str q
theorem kb_B_list : kitB "bool" "list" = some false := by decide +kernel
theorem isi_B_list {K : PySem.W.Frag} {H : Hp} {Q : VK} {k : Bool} (q : Q (.bl false) H) : rIsiG K [V.bl k, .ty "list"] H Q := i_isi (TyX.base (TyOf.bl k)) kb_B_list q
theorem kb_B_tuple : kitB "bool" "tuple" = some false := by decide +kernel
theorem isi_B_tuple {K : PySem.W.Frag} {H : Hp} {Q : VK} {k : Bool} (q : Q (.bl false) H) : rIsiG K [V.bl k, .ty "tuple"] H Q := i_isi (TyX.base (TyOf.bl k)) kb_B_tuple q
theorem kb_B_dict : kitB "bool" "dict" = some false := by decide +kernel
theorem isi_B_dict {K : PySem.W.Frag} {H : Hp} {Q : VK} {k : Bool} (q : Q (.bl false) H) : rIsiG K [V.bl k, .ty "dict"] H Q := i_isi (TyX.base (TyOf.bl k)) kb_B_dict q
theorem kb_S_int : kitB "str" "int" = some false := by decide +kernel
theorem isi_S_int {K : PySem.W.Frag} {H : Hp} {Q : VK} {a : Str} (q : Q (.bl false) H) : rIsiG K [V.str a, .ty "int"] H Q := i_isi (TyX.base (TyOf.str a)) kb_S_int q
theorem kb_S_bool : kitB "str" "bool" = some false := by decide +kernel
theorem isi_S_bool {K : PySem.W.Frag} {H : Hp} {Q : VK} {a : Str} (q : Q (.bl false) H) : rIsiG K [V.str a, .ty "bool"] H Q := i_isi (TyX.base (TyOf.str a)) kb_S_bool q
theorem kb_S_str : kitB "str" "str" = some true := by decide +kernel
theorem isi_S_str {K : PySem.W.Frag} {H : Hp} {Q : VK} {a : Str} (q : Q (.bl true) H) : rIsiG K [V.str a, .ty "str"] H Q := i_isi (TyX.base (TyOf.str a)) kb_S_str q
theorem kb_S_list : kitB "str" "list" = some false := by decide +kernel
theorem isi_S_list {K : PySem.W.Frag} {H : Hp} {Q : VK} {a : Str} (q : Q (.bl false) H) : rIsiG K [V.str a, .ty "list"] H Q := i_isi (TyX.base (TyOf.str a)) kb_S_list q
theorem kb_S_tuple : kitB "str" "tuple" = some false := by decide +kernel
theorem isi_S_tuple {K : PySem.W.Frag} {H : Hp} {Q : VK} {a : Str} (q : Q (.bl false) H) : rIsiG K [V.str a, .ty "tuple"] H Q := i_isi (TyX.base (TyOf.str a)) kb_S_tuple q
theorem kb_S_dict : kitB "str" "dict" = some false := by decide +kernel
theorem isi_S_dict {K : PySem.W.Frag} {H : Hp} {Q : VK} {a : Str} (q : Q (.bl false) H) : rIsiG K [V.str a, .ty "dict"] H Q := i_isi (TyX.base (TyOf.str a)) kb_S_dict q
theorem kb_N_int : kitB "NoneType" "int" = some false := by decide +kernel
theorem isi_N_int {K : PySem.W.Frag} {H : Hp} {Q : VK} (q : Q (.bl false) H) : rIsiG K [V.non, .ty "int"] H Q := i_isi (TyX.base TyOf.non) kb_N_int q
theorem kb_N_bool : kitB "NoneType" "bool" = some false := by decide +kernel
theorem isi_N_bool {K : PySem.W.Frag} {H : Hp} {Q : VK} (q : Q (.bl false) H) : rIsiG K [V.non, .ty "bool"] H Q := i_isi (TyX.base TyOf.non) kb_N_bool q
theorem kb_N_str : kitB "NoneType" "str" = some false := by decide +kernel
theorem isi_N_str {K : PySem.W.Frag} {H : Hp} {Q : VK} (q : Q (.bl false) H) : rIsiG K [V.non, .ty "str"] H Q := i_isi (TyX.base TyOf.non) kb_N_str q
theorem kb_N_list : kitB "NoneType" "list" = some false := by decide +kernel
theorem isi_N_list {K : PySem.W.Frag} {H : Hp} {Q : VK} (q : Q (.bl false) H) : rIsiG K [V.non, .ty "list"] H Q := i_isi (TyX.base TyOf.non) kb_N_list q
theorem kb_N_tuple : kitB "NoneType" "tuple" = some false := by decide +kernel
theorem isi_N_tuple {K : PySem.W.Frag} {H : Hp} {Q : VK} (q : Q (.bl false) H) : rIsiG K [V.non, .ty "tuple"] H Q := i_isi (TyX.base TyOf.non) kb_N_tuple q
theorem kb_N_dict : kitB "NoneType" "dict" = some false := by decide +kernel
theorem isi_N_dict {K : PySem.W.Frag} {H : Hp} {Q : VK} (q : Q (.bl false) H) : rIsiG K [V.non, .ty "dict"] H Q := i_isi (TyX.base TyOf.non) kb_N_dict q
theorem kb_L_int : kitB "list" "int" = some false := by decide +kernel
theorem isi_L_int {K : PySem.W.Frag} {H : Hp} {Q : VK} {p : Addr} {xs : List V} (h : H p = some (.lst xs)) (q : Q (.bl false) H) : rIsiG K [V.ref p, .ty "int"] H Q := i_isi (TyX.base (TyOf.lst h)) kb_L_int q
theorem kb_L_bool : kitB "list" "bool" = some false := by decide +kernel
theorem isi_L_bool {K : PySem.W.Frag} {H : Hp} {Q : VK} {p : Addr} {xs : List V} (h : H p = some (.lst xs)) (q : Q (.bl false) H) : rIsiG K [V.ref p, .ty "bool"] H Q := i_isi (TyX.base (TyOf.lst h)) kb_L_bool q
theorem kb_L_str : kitB "list" "str" = some false := by decide +kernel
theorem isi_L_str {K : PySem.W.Frag} {H : Hp} {Q : VK} {p : Addr} {xs : List V} (h : H p = some (.lst xs)) (q : Q (.bl false) H) : rIsiG K [V.ref p, .ty "str"] H Q := i_isi (TyX.base (TyOf.lst h)) kb_L_str q
theorem kb_L_list : kitB "list" "list" = some true := by decide +kernel
theorem isi_L_list {K : PySem.W.Frag} {H : Hp} {Q : VK} {p : Addr} {xs : List V} (h : H p = some (.lst xs)) (q : Q (.bl true) H) : rIsiG K [V.ref p, .ty "list"] H Q := i_isi (TyX.base (TyOf.lst h)) kb_L_list q
theorem kb_L_tuple : kitB "list" "tuple" = some false := by decide +kernel
theorem isi_L_tuple {K : PySem.W.Frag} {H : Hp} {Q : VK} {p : Addr} {xs : List V} (h : H p = some (.lst xs)) (q : Q (.bl false) H) : rIsiG K [V.ref p, .ty "tuple"] H Q := i_isi (TyX.base (TyOf.lst h)) kb_L_tuple q
theorem kb_L_dict : kitB "list" "dict" = some false := by decide +kernel
theorem isi_L_dict {K : PySem.W.Frag} {H : Hp} {Q : VK} {p : Addr} {xs : List V} (h : H p = some (.lst xs)) (q : Q (.bl false) H) : rIsiG K [V.ref p, .ty "dict"] H Q := i_isi (TyX.base (TyOf.lst h)) kb_L_dict q
theorem kb_T_int : kitB "tuple" "int" = some false := by decide +kernel
theorem isi_T_int {K : PySem.W.Frag} {H : Hp} {Q : VK} {p : Addr} {xs : List V} (h : H p = some (.tup xs)) (q : Q (.bl false) H) : rIsiG K [V.ref p, .ty "int"] H Q := i_isi (TyX.base (TyOf.tup h)) kb_T_int q
theorem kb_T_bool : kitB "tuple" "bool" = some false := by decide +kernel
theorem isi_T_bool {K : PySem.W.Frag} {H : Hp} {Q : VK} {p : Addr} {xs : List V} (h : H p = some (.tup xs)) (q : Q (.bl false) H) : rIsiG K [V.ref p, .ty "bool"] H Q := i_isi (TyX.base (TyOf.tup h)) kb_T_bool q
theorem kb_T_str : kitB "tuple" "str" = some false := by decide +kernel
theorem isi_T_str {K : PySem.W.Frag} {H : Hp} {Q : VK} {p : Addr} {xs : List V} (h : H p = some (.tup xs)) (q : Q (.bl false) H) : rIsiG K [V.ref p, .ty "str"] H Q := i_isi (TyX.base (TyOf.tup h)) kb_T_str q
theorem kb_T_list : kitB "tuple" "list" = some false := by decide +kernel
theorem isi_T_list {K : PySem.W.Frag} {H : Hp} {Q : VK} {p : Addr} {xs : List V} (h : H p = some (.tup xs)) (q : Q (.bl false) H) : rIsiG K [V.ref p, .ty "list"] H Q := i_isi (TyX.base (TyOf.tup h)) kb_T_list q
theorem kb_T_tuple : kitB "tuple" "tuple" = some true := by decide +kernel
theorem isi_T_tuple {K : PySem.W.Frag} {H : Hp} {Q : VK} {p : Addr} {xs : List V} (h : H p = some (.tup xs)) (q : Q (.bl true) H) : rIsiG K [V.ref p, .ty "tuple"] H Q := i_isi (TyX.base (TyOf.tup h)) kb_T_tuple q
theorem kb_T_dict : kitB "tuple" "dict" = some false := by decide +kernel
theorem isi_T_dict {K : PySem.W.Frag} {H : Hp} {Q : VK} {p : Addr} {xs : List V} (h : H p = some (.tup xs)) (q : Q (.bl false) H) : rIsiG K [V.ref p, .ty "dict"] H Q := i_isi (TyX.base (TyOf.tup h)) kb_T_dict q
theorem kb_D_int : kitB "dict" "int" = some false := by decide +kernel
theorem isi_D_int {K : PySem.W.Frag} {H : Hp} {Q : VK} {p : Addr} {xs : List (Key × V)} (h : H p = some (.dK xs)) (q : Q (.bl false) H) : rIsiG K [V.ref p, .ty "int"] H Q := i_isi (TyX.base (TyOf.dK h)) kb_D_int q
theorem kb_D_bool : kitB "dict" "bool" = some false := by decide +kernel
theorem isi_D_bool {K : PySem.W.Frag} {H : Hp} {Q : VK} {p : Addr} {xs : List (Key × V)} (h : H p = some (.dK xs)) (q : Q (.bl false) H) : rIsiG K [V.ref p, .ty "bool"] H Q := i_isi (TyX.base (TyOf.dK h)) kb_D_bool q
theorem kb_D_str : kitB "dict" "str" = some false := by decide +kernel
theorem isi_D_str {K : PySem.W.Frag} {H : Hp} {Q : VK} {p : Addr} {xs : List (Key × V)} (h : H p = some (.dK xs)) (q : Q (.bl false) H) : rIsiG K [V.ref p, .ty "str"] H Q := i_isi (TyX.base (TyOf.dK h)) kb_D_str q
theorem kb_D_list : kitB "dict" "list" = some false := by decide +kernel
theorem isi_D_list {K : PySem.W.Frag} {H : Hp} {Q : VK} {p : Addr} {xs : List (Key × V)} (h : H p = some (.dK xs)) (q : Q (.bl false) H) : rIsiG K [V.ref p, .ty "list"] H Q := i_isi (TyX.base (TyOf.dK h)) kb_D_list q
theorem kb_D_tuple : kitB "dict" "tuple" = some false := by decide +kernel
theorem isi_D_tuple {K : PySem.W.Frag} {H : Hp} {Q : VK} {p : Addr} {xs : List (Key × V)} (h : H p = some (.dK xs)) (q : Q (.bl false) H) : rIsiG K [V.ref p, .ty "tuple"] H Q := i_isi (TyX.base (TyOf.dK h)) kb_D_tuple q
theorem kb_D_dict : kitB "dict" "dict" = some true := by decide +kernel
theorem isi_D_dict {K : PySem.W.Frag} {H : Hp} {Q : VK} {p : Addr} {xs : List (Key × V)} (h : H p = some (.dK xs)) (q : Q (.bl true) H) : rIsiG K [V.ref p, .ty "dict"] H Q := i_isi (TyX.base (TyOf.dK h)) kb_D_dict q
end Z
namespace Z
open PySem PySem.Spec PyProof.Rows L2
theorem i_repr {K : PySem.W.Frag} {H : Hp} {Q : VK} {x : V} {d : PyData} (h : Dp K H x d) (n : Neat d) (q : Q (.str d.shown) H) : rRepr K [x] H Q := ⟨x, d, rfl, h, n, q⟩
theorem lay_ints (ns : List Int) : PyData.canLay0 (.list (ns.map PyData.int)) = true := by
  have h := shaped_ints ns
  unfold SeqAt.shaped at h
  rw [Bool.and_eq_true] at h
  exact h.1
theorem shaped_two (ns ms : List Int) : SeqAt.shaped (.list [.list (ns.map PyData.int), .list (ms.map PyData.int)]) = true := by
  unfold SeqAt.shaped
  rw [Bool.and_eq_true, decide_eq_true_eq]
  refine ⟨?_, by simp only [PyData.depth, PyData.depthAll, depth_ints]; omega⟩
  simp only [PyData.canLay0, PyData.canLayAll0, Bool.and_eq_true, and_true]
  exact ⟨by simpa only [PyData.canLay0] using lay_ints ns, by simpa only [PyData.canLay0] using lay_ints ms⟩
theorem shaped_refl {d : PyData} (h : SeqAt.shaped d = true) : PyData.eqv d d = true := by
  unfold SeqAt.shaped at h
  rw [Bool.and_eq_true] at h
  exact SeqAt.eqv_refl d h.1
theorem i_neDS {K : PySem.W.Frag} {H : Hp} {Q : VK} {x y : V} {d : PyData} (h1 : Dp K H x d) (h2 : Dp K H y d) (s : SeqAt.shaped d = true) (k : Q (.bl false) H) : rNeU K x y H Q := i_neD h1 h2 s s (by rw [shaped_refl s]; exact k)
theorem i_eqDS {K : PySem.W.Frag} {H : Hp} {Q : VK} {x y : V} {d : PyData} (h1 : Dp K H x d) (h2 : Dp K H y d) (s : SeqAt.shaped d = true) (k : Q (.bl true) H) : rEqU K x y H Q := i_eqD h1 h2 s s (by rw [shaped_refl s]; exact k)
theorem dp_two {K : PySem.W.Frag} {H : Hp} {p q r : Addr} {ns ms : List Int} (h : H r = some (.lst [.ref p, .ref q])) (h1 : H p = some (.lst (ns.map V.int))) (h2 : H q = some (.lst (ms.map V.int))) :
    Dp K H (.ref r) (.list [.list (ns.map PyData.int), .list (ms.map PyData.int)]) := dp_lst h (.cons (dp_lints h1) (.cons (dp_lints h2) .nil))
theorem neat_two {ns ms : List Int} (h1 : ∀ n ∈ ns, n.natAbs < big) (h2 : ∀ n ∈ ms, n.natAbs < big) (l1 : ns.length ≤ 10000) (l2 : ms.length ≤ 10000) : Neat (.list [.list (ns.map PyData.int), .list (ms.map PyData.int)]) :=
  ⟨by simp only [fine, fines, Bool.and_eq_true, and_true]; exact ⟨fines_ints h1, fines_ints h2⟩, by simp only [PyData.depth, PyData.depthAll, depth_ints]; omega,
    by simp only [PyData.bulk, PyData.bulkAll, bulk_ints]; omega⟩
end Z
namespace Z
open PySem PySem.Spec PyProof.Rows L2
theorem i_rng1L {H : Hp} {R : It → Hp → Prop} {j : Int} (n : Nat) (e : j = (n : Int)) (h : n ≤ 1000000) (q : R (Itr 0 n) H) : zR1 [V.int j] H R := by
  subst e
  exact i_rng1N h q
end Z
namespace Z
theorem ifT {b : Bool} {A B : Prop} (e : b = true) (a : A) : if b = true then A else B := by rw [if_pos e]; exact a
theorem ifF {b : Bool} {A B : Prop} (e : b = false) (a : B) : if b = true then A else B := by rw [if_neg (by rw [e]; decide)]; exact a
end Z
namespace Z
open PySem PySem.Spec PyProof.Rows L2
theorem dp_tints {K : PySem.W.Frag} {H : Hp} {p : Addr} {ns : List Int} (h : H p = some (.tup (ns.map V.int))) : Dp K H (.ref p) (.tuple (ns.map PyData.int)) := .tup (SqT.of h) (dp_ints ns)
theorem shaped_tints (ns : List Int) : SeqAt.shaped (.tuple (ns.map PyData.int)) = true := by
  have h := shaped_ints ns
  unfold SeqAt.shaped at h ⊢
  rw [Bool.and_eq_true, decide_eq_true_eq] at h ⊢
  exact ⟨by simpa only [PyData.canLay0] using h.1, by simpa only [PyData.depth] using h.2⟩
theorem eqv_tints (ns ms : List Int) : PyData.eqv (.tuple (ns.map PyData.int)) (.tuple (ms.map PyData.int)) = decide (ns = ms) := by
  have h := eqv_ints ns ms
  simp only [PyData.eqv] at h ⊢
  exact h
section
variable {K : PySem.W.Frag} {H : Hp} {Q : VK} {p q : Addr} {ns ms : List Int}
theorem i_neTI (h1 : H p = some (.tup (ns.map V.int))) (h2 : H q = some (.tup (ms.map V.int))) (k : Q (.bl (!decide (ns = ms))) H) : rNeU K (.ref p) (.ref q) H Q :=
  i_neD (dp_tints h1) (dp_tints h2) (shaped_tints ns) (shaped_tints ms) (by rw [eqv_tints]; exact k)
theorem i_eqTI (h1 : H p = some (.tup (ns.map V.int))) (h2 : H q = some (.tup (ms.map V.int))) (k : Q (.bl (decide (ns = ms))) H) : rEqU K (.ref p) (.ref q) H Q :=
  i_eqD (dp_tints h1) (dp_tints h2) (shaped_tints ns) (shaped_tints ms) (by rw [eqv_tints]; exact k)
/-- [row] against [row] -/
theorem dp_one {r : Addr} (h : H r = some (.lst [.ref p])) (h1 : H p = some (.lst (ns.map V.int))) : Dp K H (.ref r) (.list [.list (ns.map PyData.int)]) := dp_lst h (.cons (dp_lints h1) .nil)
end
theorem shaped_one (ns : List Int) : SeqAt.shaped (.list [.list (ns.map PyData.int)]) = true := by
  unfold SeqAt.shaped
  rw [Bool.and_eq_true, decide_eq_true_eq]
  refine ⟨?_, by simp only [PyData.depth, PyData.depthAll, depth_ints]; omega⟩
  simp only [PyData.canLay0, PyData.canLayAll0, Bool.and_eq_true, and_true]
  simpa only [PyData.canLay0] using lay_ints ns
end Z
namespace Z
open PySem PySem.Spec PyProof.Rows L2
theorem i_lenTI {K : PySem.W.Frag} {H : Hp} {Q : VK} {p : Addr} {ns : List Int} (h : H p = some (.tup (ns.map V.int))) (q : Q (.int (ns.length : Nat)) H) : rLenU K [V.ref p] H Q := i_lenT h (by rw [List.length_map]; exact q)
end Z

/-! Z: classes and their instances. -/
namespace Z
open PySem PySem.Spec PyProof.Rows L2

/-! ### a method by the receiver's class -/
structure MA where
  C : Addr
  n : Nat
  gV : PySem.W.Frag → List V → List V → List V
  sp : Sp
/-- the class at M.C has for the name m a def with this promise -/
abbrev MtM (g : Prop) (X : Cx) (m : Str) (ks : List Str) (M : MA) : Prop := Mt g X M.C m M.n ks M.gV M.sp
section
variable {g : Prop} {X : Cx} {m : Str} {ks : List Str}
theorem ms_nil : ∀ M ∈ ([] : List MA), MtM g X m ks M := fun _ h => by cases h
theorem ms_cons {C : Addr} {n : Nat} {gV : PySem.W.Frag → List V → List V → List V} {sp : Sp} {Ms : List MA} (h : Mt g X C m n ks gV sp) (r : ∀ M ∈ Ms, MtM g X m ks M) : ∀ M ∈ (⟨C, n, gV, sp⟩ : MA) :: Ms, MtM g X m ks M := fun M hM => by
  rcases List.mem_cons.mp hM with rfl | hM
  · exact h
  · exact r M hM
theorem mt_of {C f : Addr} {k n : Nat} {d : He.DefD} {ps : List Str} {gV : PySem.W.Frag → List V → List V → List V} {sp : Sp} (c : Cls X.K C) (me : Meth X.K C m f) (F : Pr g X.prog X.w X.K X.mg X.base k f d ps sp) (b : Bd d ps n ks gV) (hr : Room k X.A) (hgd : Gd g X.A) :
    Mt g X C m n ks gV sp := ⟨c, k, f, d, ps, me, F, b, hr, hgd⟩
end
/-- the reading, behind the receiver -/
def zM1 (K : PySem.W.Frag) (m : Str) (kn : Nat) (E : XK) (Ms : List MA) (t tk : TA) (x : V) (σ : L2.St) (H1 : Hp) (Q : VK) : Prop :=
  ∃ (M : MA) (a dx : Addr) (fs : List (Str × V)), M ∈ Ms ∧ x = .ref a ∧ H1 a = some (.ins M.C dx fs) ∧ fs.lookup m = none ∧ t σ H1 fun vs H2 => tk σ H2 fun zs H3 => (V.ref a :: vs).length = M.n ∧ zs.length = kn ∧ M.sp (M.gV K (.ref a :: vs) zs) H3 Q E
def zM (K : PySem.W.Frag) (m : Str) (kn : Nat) (E : XK) (Ms : List MA) (ta : TE) (t tk : TA) : TE := fun σ H Q => ta σ H fun x H1 => zM1 K m kn E Ms t tk x σ H1 Q
section
variable {g : Prop} {X : Cx} {m : Str} {ks : List Str} {Ms : List MA} {E : XK} {o e : Expr} {es : List Expr} {kws : List Keyword} {ta : TE} {t tk : TA} {apos pos : Pos}
theorem pe_M {pl : Sem Bool} (hM : ∀ M ∈ Ms, MtM g X m [] M) (hx : Passes (L2.CX X.prog X.w) X E) (he : PE X o ta) (ha : PA X (e :: es) t)
    (hst : starEach (e :: es) X.env = (false, eval e X.env) :: starEach es X.env := by rfl) (hpl : (backTo pos (starEach es X.env)).any (·.1) = false := by rfl)
    (ht : eval (.Call (.Attribute o m apos) (e :: es) [] pos) X.env = (do
      let ov ← eval o X.env; standAt apos.atName
      let (f, first) ← holding [ov] (getMethod ov m pl); callWith pos f first (backTo pos (starEach (e :: es) X.env)) (backToKw pos (keywordEach [] X.env))) := by rfl) :
    PE X (.Call (.Attribute o m apos) (e :: es) [] pos) (zM X.K m 0 E Ms ta t tNil) := by
  refine ⟨fun pins s σ H Q I h => ?_⟩
  refine PySem.W.methodCall_KW (pl := pl) (thn (he.run pins s σ H _ I h) fun u s1 ⟨x, H1, I1, rx, M, a, dx, fs, hm0, ex, ea, l, q⟩ => ?_) ht
  subst ex
  obtain rfl : u = Value.ref a := rx
  have M1 := hM M hm0
  obtain ⟨k, f, d, ps, hm, F, hb, hr, hgd⟩ := M1.ex
  obtain ⟨fd, FD, OK⟩ := F.ex
  obtain ⟨gg, B⟩ := hb _ _ _ FD
  refine getmeth_ok I1 ea M1.cl hm l ?_
  refine PySem.W.callWith_K (first := [.ref a]) (h₀ := X.base) I.ok.mod.kin hm.kp ?_ hst hpl
  refine thn (ha.run pos pins s1 σ H1 _ I1 q) fun us s2 ⟨vs, H2, I2, r, l1, l2, q2⟩ => ⟨I2.kIn, ?_⟩
  exact run_g (us := .ref a :: us) (vs := .ref a :: vs) (ws := []) (zs := []) (ks := []) OK hr hgd B hx I2 (.cons rfl r) .nil l1 l2 q2
theorem pe_M0 {pl : Sem Bool} (hM : ∀ M ∈ Ms, MtM g X m [] M) (hx : Passes (L2.CX X.prog X.w) X E) (he : PE X o ta)
    (ht : eval (.Call (.Attribute o m apos) [] [] pos) X.env = (do
      let ov ← eval o X.env; standAt apos.atName
      let (f, first) ← holding [ov] (getMethod ov m pl); callWith pos f first (backTo pos (starEach [] X.env)) (backToKw pos (keywordEach [] X.env))) := by rfl) :
    PE X (.Call (.Attribute o m apos) [] [] pos) (zM X.K m 0 E Ms ta tNil tNil) := by
  refine ⟨fun pins s σ H Q I h => ?_⟩
  refine PySem.W.methodCall_KW (pl := pl) (thn (he.run pins s σ H _ I h) fun u s1 ⟨x, H1, I1, rx, M, a, dx, fs, hm0, ex, ea, l, l1, l2, q⟩ => ?_) ht
  subst ex
  obtain rfl : u = Value.ref a := rx
  have M1 := hM M hm0
  obtain ⟨k, f, d, ps, hm, F, hb, hr, hgd⟩ := M1.ex
  obtain ⟨fd, FD, OK⟩ := F.ex
  obtain ⟨gg, B⟩ := hb _ _ _ FD
  refine getmeth_ok I1 ea M1.cl hm l ?_
  exact PySem.W.callWith_K0 (first := [.ref a]) I1.kIn hm.kp (run_g (us := [.ref a]) (vs := [.ref a]) (ws := []) (zs := []) (ks := []) OK hr hgd B hx I1 (.cons rfl .nil) .nil l1 l2 q)
theorem pe_Mk {pl : Sem Bool} (hM : ∀ M ∈ Ms, MtM g X m ks M) (hx : Passes (L2.CX X.prog X.w) X E) (he : PE X o ta) (ha : PA X (e :: es) t) (hkw : PK X kws tk)
    (hall : (backToKw pos (keywordEach kws X.env)).all (·.1.isSome) = true := by rfl) (hks : (backToKw pos (keywordEach kws X.env)).filterMap (·.1) = ks := by rfl)
    (hst : starEach (e :: es) X.env = (false, eval e X.env) :: starEach es X.env := by rfl)
    (hpl : ((backTo pos (starEach (e :: es) X.env)).any (·.1) || (backToKw pos (keywordEach kws X.env)).any (·.1.isNone)) = false := by rfl)
    (ht : eval (.Call (.Attribute o m apos) (e :: es) kws pos) X.env = (do
      let ov ← eval o X.env; standAt apos.atName
      let (f, first) ← holding [ov] (getMethod ov m pl); callWith pos f first (backTo pos (starEach (e :: es) X.env)) (backToKw pos (keywordEach kws X.env))) := by rfl) :
    PE X (.Call (.Attribute o m apos) (e :: es) kws pos) (zM X.K m ks.length E Ms ta t tk) := by
  refine ⟨fun pins s σ H Q I h => ?_⟩
  refine PySem.W.methodCall_KW (pl := pl) (thn (he.run pins s σ H _ I h) fun u s1 ⟨x, H1, I1, rx, M, a, dx, fs, hm0, ex, ea, l, q⟩ => ?_) ht
  subst ex
  obtain rfl : u = Value.ref a := rx
  have M1 := hM M hm0
  obtain ⟨k, f, d, ps, hm, F, hb, hr, hgd⟩ := M1.ex
  obtain ⟨fd, FD, OK⟩ := F.ex
  obtain ⟨gg, B⟩ := hb _ _ _ FD
  refine getmeth_ok I1 ea M1.cl hm l ?_
  refine PySem.W.callWith_KW (first := [.ref a]) (h₀ := X.base) I.ok.mod.kin hm.kp hall ?_ hpl hst
  refine thn (ha.run pos pins s1 σ H1 _ I1 q) fun us s2 ⟨vs, H2, I2, r, q2⟩ => ?_
  refine thn (hkw.run pos pins s2 σ H2 _ I2 q2) fun ws s3 ⟨zs, H3, I3, rz, l1, l2, q3⟩ => ⟨I3.kIn, ?_⟩
  rw [hks]
  exact run_g (us := .ref a :: us) (vs := .ref a :: vs) OK hr hgd B hx I3 (.cons rfl r) rz l1 l2 q3
theorem pe_Mk0 {pl : Sem Bool} (hM : ∀ M ∈ Ms, MtM g X m ks M) (hx : Passes (L2.CX X.prog X.w) X E) (he : PE X o ta) (hkw : PK X kws tk)
    (hall : (backToKw pos (keywordEach kws X.env)).all (·.1.isSome) = true := by rfl) (hks : (backToKw pos (keywordEach kws X.env)).filterMap (·.1) = ks := by rfl)
    (hpl : ((backTo pos (starEach [] X.env)).any (·.1) || (backToKw pos (keywordEach kws X.env)).any (·.1.isNone)) = false := by rfl)
    (ht : eval (.Call (.Attribute o m apos) [] kws pos) X.env = (do
      let ov ← eval o X.env; standAt apos.atName
      let (f, first) ← holding [ov] (getMethod ov m pl); callWith pos f first (backTo pos (starEach [] X.env)) (backToKw pos (keywordEach kws X.env))) := by rfl) :
    PE X (.Call (.Attribute o m apos) [] kws pos) (zM X.K m ks.length E Ms ta tNil tk) := by
  refine ⟨fun pins s σ H Q I h => ?_⟩
  refine PySem.W.methodCall_KW (pl := pl) (thn (he.run pins s σ H _ I h) fun u s1 ⟨x, H1, I1, rx, M, a, dx, fs, hm0, ex, ea, l, q⟩ => ?_) ht
  subst ex
  obtain rfl : u = Value.ref a := rx
  have M1 := hM M hm0
  obtain ⟨k, f, d, ps, hm, F, hb, hr, hgd⟩ := M1.ex
  obtain ⟨fd, FD, OK⟩ := F.ex
  obtain ⟨gg, B⟩ := hb _ _ _ FD
  refine getmeth_ok I1 ea M1.cl hm l ?_
  refine PySem.W.callWith_KW0 (first := [.ref a]) (h₀ := X.base) I.ok.mod.kin hm.kp hall ?_ hpl
  refine thn (hkw.run pos pins s1 σ H1 _ I1 q) fun ws s3 ⟨zs, H3, I3, rz, l1, l2, q3⟩ => ⟨I3.kIn, ?_⟩
  rw [hks]
  exact run_g (us := [.ref a]) (vs := [.ref a]) OK hr hgd B hx I3 (.cons rfl .nil) rz l1 l2 q3
end
section
variable {K : PySem.W.Frag} {m : Str} {kn : Nat} {E : XK} {Ms : List MA} {ta : TE} {t tk : TA} {σ : L2.St} {H : Hp} {Q : VK} {a dx : Addr} {fs : List (Str × V)}
theorem i_M (h : ta σ H fun x H1 => zM1 K m kn E Ms t tk x σ H1 Q) : zM K m kn E Ms ta t tk σ H Q := h
/-- the receiver's class is the i-th -/
theorem i_Mi (i : Nat) {M : MA} (h : H a = some (.ins M.C dx fs)) (l : fs.lookup m = none) (hi : Ms[i]? = some M)
    (q : t σ H fun vs H2 => tk σ H2 fun zs H3 => (V.ref a :: vs).length = M.n ∧ zs.length = kn ∧ M.sp (M.gV K (.ref a :: vs) zs) H3 Q E) : zM1 K m kn E Ms t tk (.ref a) σ H Q :=
  ⟨M, a, dx, fs, List.mem_of_getElem? hi, rfl, h, l, q⟩
end
/-! ### facts of classes -/
/-- x's m is the def that y's m is -/
def fxM (x m y : Str) : Fx := fun K => He.eqO (PySem.W.findIn K (.ref (He.ga K x)) m) (some (some (.ref (He.ma K (He.ga K y) m)))) && (PySem.W.isFn K (.ref (He.ma K (He.ga K y) m)) && PySem.W.keepIn K (.ref (He.ma K (He.ga K y) m)))
theorem fxM_ok {K : PySem.W.Frag} {x m y : Str} (h : fxM x m y K = true) : Meth K (He.ga K x) m (He.ma K (He.ga K y) m) := by
  obtain ⟨c1, c⟩ := He.ba h
  obtain ⟨c2, c3⟩ := He.ba c
  exact ⟨He.eqO_ok c1, c2, c3⟩
/-- x's m, read off the class, is its def -/
def fxC (x m : Str) : Fx := fun K => PySem.W.readsIn K (He.ga K x) (.type "type") && (He.eqO (PySem.W.specialIn K (.ref (He.ga K x)) "__getattribute__") (some (some (.builtin "type.__getattribute__"))) &&
  ((match PySem.W.findCls K (.ref (He.ga K x)) (.type "type") m with
    | some (.val (.ref f)) => decide (f = He.ma K (He.ga K x) m)
    | _ => false) && PySem.W.keepIn K (.ref (He.ma K (He.ga K x) m))))
structure CFn (K : PySem.W.Frag) (C : Addr) (m : Str) (f : Addr) : Prop where
  rd : ClX.CRead K C (.type "type")
  at_ : PySem.W.findCls K (.ref C) (.type "type") m = some (.val (.ref f))
  kp : PySem.W.keepIn K (.ref f) = true
theorem fxC_ok {K : PySem.W.Frag} {x m : Str} (h : fxC x m K = true) : CFn K (He.ga K x) m (He.ma K (He.ga K x) m) := by
  obtain ⟨c1, c⟩ := He.ba h
  obtain ⟨c2, c⟩ := He.ba c
  obtain ⟨c3, c4⟩ := He.ba c
  refine ⟨⟨c1, He.eqO_ok c2⟩, ?_, c4⟩
  split at c3
  · rename_i f e
    rw [e, of_decide_eq_true c3]
  · cases c3
section
variable {g : Prop} {X : Cx} {k n : Nat} {f C : Addr} {d : He.DefD} {ps : List Str} {gV : PySem.W.Frag → List V → List V → List V} {sp : Sp} {E : XK} {x m : Str} {p apos pos : Pos} {e : Expr} {es : List Expr} {t : TA}
/-- C.m(e, ..) -/
theorem pe_cm {pl : Sem Bool} (F : Pr g X.prog X.w X.K X.mg X.base k f d ps sp) (hr : Room k X.A) (hgd : Gd g X.A) (hg : Gl X x) (hm : X.mg x = some (.ref C)) (c : CFn X.K C m f) (hb : Bd d ps n [] gV) (hx : Passes (L2.CX X.prog X.w) X E)
    (ha : PA X (e :: es) t) (hdb : (x == ("__debug__" : Str)) = false := by decide)
    (hst : starEach (e :: es) X.env = (false, eval e X.env) :: starEach es X.env := by rfl) (hpl : (backTo pos (starEach es X.env)).any (·.1) = false := by rfl)
    (ht : eval (.Call (.Attribute (.Name x p) m apos) (e :: es) [] pos) X.env = (do
      let ov ← eval (.Name x p) X.env; standAt apos.atName
      let (f, first) ← holding [ov] (getMethod ov m pl); callWith pos f first (backTo pos (starEach (e :: es) X.env)) (backToKw pos (keywordEach [] X.env))) := by rfl) :
    PE X (.Call (.Attribute (.Name x p) m apos) (e :: es) [] pos) (zCall X.K n 0 gV sp E t tNil) := by
  obtain ⟨fd, FD, OK⟩ := F.ex
  obtain ⟨gg, B⟩ := hb _ _ _ FD
  refine ⟨fun pins s σ H Q I h => ?_⟩
  refine PySem.W.methodCall_KW (pl := pl) (thn ((pe_glob (v := .ref C) hg hm rfl hdb).run pins s σ H (fun v H1 => v = .ref C ∧ H1 = H) I ⟨rfl, rfl⟩) fun u s1 ⟨v, H1, I1, rx, ev, eh⟩ => ?_) ht
  subst ev eh
  obtain rfl : u = Value.ref C := rx
  refine PySem.W.method_cls I1.kIn c.rd.ga ?_
  refine PySem.W.cls_value I1.kIn c.rd.rd c.at_ (handed_of (v := .ref f) rfl) ?_
  have I2 : Inv X pins σ H1 { s1 with toks := s1.toks + 1 } := I1.tok _
  refine PySem.W.callWith_K (first := []) (h₀ := X.base) I.ok.mod.kin c.kp ?_ hst hpl
  refine thn (ha.run pos pins _ σ H1 _ I2 h) fun us s2 ⟨vs, H2, I3, r, l1, l2, q2⟩ => ⟨I3.kIn, ?_⟩
  exact run_g (ws := []) (zs := []) (ks := []) OK hr hgd B hx I3 r .nil l1 l2 q2
end
/-! ### new instances -/
structure Made (H : Hp) (x dx C : Addr) (H' : Hp) : Prop where
  fr : H x = none
  fd : H dx = none
  ne : dx ≠ x
  eq : H' = upd (upd H dx (.own x)) x (.ins C dx [])
section
variable {H H' : Hp} {x dx C a : Addr} {u : HO}
theorem Made.at (n : Made H x dx C H') : H' x = some (.ins C dx []) := by rw [n.eq]; exact upd_same
theorem Made.get (n : Made H x dx C H') (h : H a = some u) : H' a = some u := by rw [n.eq, upd_ne (ne_of_none h n.fr), upd_ne (ne_of_none h n.fd)]; exact h
theorem Made.same (n : Made H x dx C H') : Same H H' := fun _ _ h => n.get h
end
section
variable {K : PySem.W.Frag} {C : Addr} {n m : Nat} {gV : PySem.W.Frag → List V → List V → List V} {sp : Sp} {E : XK} {t tk : TA} {σ : L2.St} {H : Hp} {Q : VK}
def zMk1 (K : PySem.W.Frag) (C : Addr) (n m : Nat) (gV : PySem.W.Frag → List V → List V → List V) (sp : Sp) (E : XK) (vs zs : List V) (H2 : Hp) (Q : VK) : Prop :=
  vs.length + 1 = n ∧ zs.length = m ∧ ∀ x dx H3, Made H2 x dx C H3 → sp (gV K (.ref x :: vs) zs) H3 (fun v H4 => v = .non ∧ Q (.ref x) H4) E
theorem i_make (h : t σ H fun vs H1 => tk σ H1 fun zs H2 => zMk1 K C n m gV sp E vs zs H2 Q) : zMake K C n m gV sp E t tk σ H Q := by
  show t σ H _
  refine cast (congrArg (t σ H) (funext fun vs => funext fun H1 => congrArg (tk σ H1) (funext fun zs => funext fun H2 => propext ⟨?_, ?_⟩))) h
  · rintro ⟨a, b, c⟩
    exact ⟨a, b, fun x dx f1 f2 ne => c x dx _ ⟨f1, f2, ne, rfl⟩⟩
  · rintro ⟨a, b, c⟩
    exact ⟨a, b, fun x dx H3 z => z.eq ▸ c x dx z.fr z.fd z.ne⟩
theorem i_mk1 {vs zs : List V} (e1 : vs.length + 1 = n) (e2 : zs.length = m) (h : ∀ x dx H3, Made H x dx C H3 → sp (gV K (.ref x :: vs) zs) H3 (fun v H4 => v = .non ∧ Q (.ref x) H4) E) : zMk1 K C n m gV sp E vs zs H Q := ⟨e1, e2, h⟩
end
/-! ### fields -/
section
variable {K : PySem.W.Frag} {ta tv : TE} {f : Str} {nx bk ct : L2.St → Hp → Prop} {rt : VK} {σ : L2.St} {H : Hp} {Q : VK} {a C dx : Addr} {fs : List (Str × V)} {x y v : V}
def zFld1 (K : PySem.W.Frag) (f : Str) (x y : V) (nx : L2.St → Hp → Prop) (σ : L2.St) (H2 : Hp) : Prop := ∃ a C dx fs, x = .ref a ∧ H2 a = some (.ins C dx fs) ∧ Cls K C ∧ NoAttr K C f ∧ fs.length < 1000 ∧ nx σ (upd H2 a (.ins C dx (putF f y fs)))
theorem i_fldS (h : tv σ H fun y H1 => ta σ H1 fun x H2 => zFld1 K f x y nx σ H2) : zFld K ta tv f nx rt bk ct σ H := h
theorem i_fldS1 (h : H a = some (.ins C dx fs)) (c : Cls K C) (n : NoAttr K C f) (l : fs.length.blt 1000 = true) (k : ∀ H', Up H a (.ins C dx (putF f y fs)) H' → nx σ H') : zFld1 K f (.ref a) y nx σ H := ⟨a, C, dx, fs, rfl, h, c, n, by simpa [Nat.blt_eq] using l, k _ ⟨⟨_, h⟩, rfl⟩⟩
def tFld1 (K : PySem.W.Frag) (f : Str) (x : V) (H1 : Hp) (Q : VK) : Prop := ∃ a C dx fs v, x = .ref a ∧ H1 a = some (.ins C dx fs) ∧ Cls K C ∧ NoAttr K C f ∧ fs.lookup f = some v ∧ Q v H1
theorem i_fld (h : ta σ H fun x H1 => tFld1 K f x H1 Q) : tFld K ta f σ H Q := h
theorem i_fld1 (h : H a = some (.ins C dx fs)) (c : Cls K C) (n : NoAttr K C f) (l : fs.lookup f = some v) (q : Q v H) : tFld1 K f (.ref a) H Q := ⟨a, C, dx, fs, v, rfl, h, c, n, l, q⟩
end
/-! ### binding with defaults and keywords -/
/-- those at the places idx -/
def gP {α : Type} (idx : List Nat) (l : List α) : List α := idx.filterMap fun i => l[i]?
theorem vals_at {xs : List V} {us : List Value} (r : Vals xs us) (i : Nat) : (xs[i]? = none ∧ us[i]? = none) ∨ ∃ x u, xs[i]? = some x ∧ us[i]? = some u ∧ RelV x u := by
  cases e : xs[i]? with
  | none =>
    refine .inl ⟨rfl, ?_⟩
    rw [List.getElem?_eq_none_iff] at e ⊢
    rw [← r.length]
    exact e
  | some x =>
    obtain ⟨u, eu, ru⟩ := r.get e
    exact .inr ⟨x, u, rfl, eu, ru⟩
theorem gP_rel {xs : List V} {us : List Value} (r : Vals xs us) : ∀ idx : List Nat, Vals (gP idx xs) (gP idx us)
  | [] => .nil
  | i :: idx => by
    unfold gP
    rw [List.filterMap_cons, List.filterMap_cons]
    rcases vals_at r i with ⟨e1, e2⟩ | ⟨x, u, e1, e2, ru⟩
    · rw [e1, e2]; exact gP_rel r idx
    · rw [e1, e2]; exact .cons ru (gP_rel r idx)
section
variable {d : He.DefD} {ps : List Str} {n : Nat} {ks : List Str}
/-- no defaults at all, but keywords -/
theorem Bd.a (idx : List Nat) (hd : d.dfl = []) (h : ∀ (kV doc pm : Value) (an : Option Addr) (cdv ct : Value) (us ws : List Value), us.length = n → ws.length = ks.length →
      bindArgs (PySem.W.fnOf d.name d.qual d.params d.body d.scope .none kV doc pm an cdv ct) ⟨us, ks.zip ws⟩ = pure (ps.zip (gP idx (us ++ ws)))) : Bd d ps n ks (fun _ vs zs => gP idx (vs ++ zs)) := by
  intro K f fd F
  have e1 : d.dvs K = [] := by unfold He.DefD.dvs; rw [hd]; rfl
  rw [e1] at F
  obtain ⟨oc, od, dV, kV, doc, pm, an, cdv, ct, osl, rfl, lk, hcd, hD, hK⟩ := F.ex
  rcases hD with ⟨_, rfl⟩ | ⟨e, _⟩
  · exact ⟨_, ⟨fun s us ws X l1 l2 => BindsTo.of_looks fun M => PySem.W.Looks.of_pure (h kV doc pm an cdv ct us ws l1 l2), fun r1 r2 => gP_rel (r1.append r2) idx⟩⟩
  · exact absurd rfl e
/-- keyword-only defaults; ms: those that lack -/
theorem Bd.b (ms : List (Str × He.Dv)) (idx : List Nat) (hd : d.dfl = []) (hk : d.kwd ≠ []) (hms : ∀ q ∈ ms, q ∈ d.kwd)
    (h : ∀ (D : Addr) (doc pm : Value) (an : Option Addr) (cdv ct : Value) (us mv ws : List Value), us.length = n → mv.length = ms.length → ws.length = ks.length →
      KwChain D ((ms.map (·.1)).zip mv) (bindArgs (PySem.W.fnOf d.name d.qual d.params d.body d.scope .none (.ref D) doc pm an cdv ct) ⟨us, ks.zip ws⟩) (ps.zip (gP idx (us ++ (mv ++ ws))))) :
    Bd d ps n ks (fun K vs zs => gP idx (vs ++ (ms.map (fun q => q.2.v K) ++ zs))) := by
  intro K f fd F
  have e1 : d.dvs K = [] := by unfold He.DefD.dvs; rw [hd]; rfl
  rw [e1] at F
  have e2 : ((ms.map fun q => (q.1, q.2.v K)).map (·.1)) = ms.map (·.1) := by rw [List.map_map]; rfl
  have e3 : ((ms.map fun q => (q.1, q.2.v K)).map (·.2)) = ms.map fun q => q.2.v K := by rw [List.map_map]; rfl
  obtain ⟨mv, B⟩ := F.kbinds0 (ps := ps) n ks (ms.map fun q => (q.1, q.2.v K)) (fun us mv ws => gP idx (us ++ (mv ++ ws))) (by
      unfold He.DefD.kws
      intro e
      exact hk (List.map_eq_nil_iff.mp e)) (fun q hq => by
      obtain ⟨m, hm, rfl⟩ := List.mem_map.mp hq
      exact List.mem_map_of_mem (hms m hm)) (fun r1 r2 r3 => gP_rel (r1.append (r2.append r3)) idx)
      (fun D doc pm an cdv ct us mv ws l1 l2 l3 => by rw [e2]; exact h D doc pm an cdv ct us mv ws l1 (by rw [l2, List.length_map]) l3)
  rw [e3] at B
  exact ⟨_, B⟩
/-- defaults and keyword-only ones -/
theorem Bd.c (ms : List (Str × He.Dv)) (idx : List Nat) (hd : d.dfl ≠ []) (hk : d.kwd ≠ []) (hms : ∀ q ∈ ms, q ∈ d.kwd)
    (h : ∀ (T D : Addr) (doc pm : Value) (an : Option Addr) (cdv ct : Value) (us its mv ws : List Value), us.length = n → its.length = d.dfl.length → mv.length = ms.length → ws.length = ks.length →
      ∃ k, bindArgs (PySem.W.fnOf d.name d.qual d.params d.body d.scope (.ref T) (.ref D) doc pm an cdv ct) ⟨us, ks.zip ws⟩ = seqItems? (.ref T) >>= k ∧ KwChain D ((ms.map (·.1)).zip mv) (k (some its.toArray)) (ps.zip (gP idx (us ++ (its ++ (mv ++ ws)))))) :
    Bd d ps n ks (fun K vs zs => gP idx (vs ++ (d.dfl.map (fun q => q.v K) ++ (ms.map (fun q => q.2.v K) ++ zs)))) := by
  intro K f fd F
  have e2 : ((ms.map fun q => (q.1, q.2.v K)).map (·.1)) = ms.map (·.1) := by rw [List.map_map]; rfl
  have e3 : ((ms.map fun q => (q.1, q.2.v K)).map (·.2)) = ms.map fun q => q.2.v K := by rw [List.map_map]; rfl
  obtain ⟨its, mv, B⟩ := F.kbinds (ps := ps) n ks (ms.map fun q => (q.1, q.2.v K)) (fun us its mv ws => gP idx (us ++ (its ++ (mv ++ ws)))) (by
      unfold He.DefD.dvs
      intro e
      exact hd (List.map_eq_nil_iff.mp e)) (by
      unfold He.DefD.kws
      intro e
      exact hk (List.map_eq_nil_iff.mp e)) (fun q hq => by
      obtain ⟨m, hm, rfl⟩ := List.mem_map.mp hq
      exact List.mem_map_of_mem (hms m hm)) (fun r1 r2 r3 r4 => gP_rel (r1.append (r2.append (r3.append r4))) idx)
      (fun T D doc pm an cdv ct us its mv ws l1 l2 l3 l4 => by
        rw [e2]
        exact h T D doc pm an cdv ct us its mv ws l1 (by rw [l2]; unfold He.DefD.dvs; rw [List.length_map]) (by rw [l3, List.length_map]) l4)
  rw [e3] at B
  exact ⟨_, B⟩
end
end Z
namespace Z
open PySem PySem.Spec PyProof.Rows L2
section
variable {X : Cx} {K : PySem.W.Frag}
theorem pe_fldK (K : PySem.W.Frag) (h : X.K = K) {e : Expr} {f : Str} {pos : Pos} {ta : TE} (he : PE X e ta) (hb : attributeBase e f X.env (eval e X.env) = eval e X.env) : PE X (.Attribute e f pos) (tFld K ta f) := h ▸ pe_fld he hb
variable {g : Prop} {m : Str} {ks : List Str} {Ms : List MA} {E : XK} {o e : Expr} {es : List Expr} {kws : List Keyword} {ta : TE} {t tk : TA} {apos pos : Pos}
theorem pe_MK {pl : Sem Bool} (K : PySem.W.Frag) (h : X.K = K) (hM : ∀ M ∈ Ms, MtM g X m [] M) (hx : Passes (L2.CX X.prog X.w) X E) (he : PE X o ta) (ha : PA X (e :: es) t)
    (hst : starEach (e :: es) X.env = (false, eval e X.env) :: starEach es X.env := by rfl) (hpl : (backTo pos (starEach es X.env)).any (·.1) = false := by rfl)
    (ht : eval (.Call (.Attribute o m apos) (e :: es) [] pos) X.env = (do
      let ov ← eval o X.env; standAt apos.atName
      let (f, first) ← holding [ov] (getMethod ov m pl); callWith pos f first (backTo pos (starEach (e :: es) X.env)) (backToKw pos (keywordEach [] X.env))) := by rfl) :
    PE X (.Call (.Attribute o m apos) (e :: es) [] pos) (zM K m 0 E Ms ta t tNil) := h ▸ pe_M hM hx he ha hst hpl ht
theorem pe_M0K {pl : Sem Bool} (K : PySem.W.Frag) (h : X.K = K) (hM : ∀ M ∈ Ms, MtM g X m [] M) (hx : Passes (L2.CX X.prog X.w) X E) (he : PE X o ta)
    (ht : eval (.Call (.Attribute o m apos) [] [] pos) X.env = (do
      let ov ← eval o X.env; standAt apos.atName
      let (f, first) ← holding [ov] (getMethod ov m pl); callWith pos f first (backTo pos (starEach [] X.env)) (backToKw pos (keywordEach [] X.env))) := by rfl) :
    PE X (.Call (.Attribute o m apos) [] [] pos) (zM K m 0 E Ms ta tNil tNil) := h ▸ pe_M0 hM hx he ht
theorem pe_MkK {pl : Sem Bool} (K : PySem.W.Frag) (h : X.K = K) (hM : ∀ M ∈ Ms, MtM g X m ks M) (hx : Passes (L2.CX X.prog X.w) X E) (he : PE X o ta) (ha : PA X (e :: es) t) (hkw : PK X kws tk)
    (hall : (backToKw pos (keywordEach kws X.env)).all (·.1.isSome) = true := by rfl) (hks : (backToKw pos (keywordEach kws X.env)).filterMap (·.1) = ks := by rfl)
    (hst : starEach (e :: es) X.env = (false, eval e X.env) :: starEach es X.env := by rfl)
    (hpl : ((backTo pos (starEach (e :: es) X.env)).any (·.1) || (backToKw pos (keywordEach kws X.env)).any (·.1.isNone)) = false := by rfl)
    (ht : eval (.Call (.Attribute o m apos) (e :: es) kws pos) X.env = (do
      let ov ← eval o X.env; standAt apos.atName
      let (f, first) ← holding [ov] (getMethod ov m pl); callWith pos f first (backTo pos (starEach (e :: es) X.env)) (backToKw pos (keywordEach kws X.env))) := by rfl) :
    PE X (.Call (.Attribute o m apos) (e :: es) kws pos) (zM K m ks.length E Ms ta t tk) := h ▸ pe_Mk hM hx he ha hkw hall hks hst hpl ht
theorem pe_Mk0K {pl : Sem Bool} (K : PySem.W.Frag) (h : X.K = K) (hM : ∀ M ∈ Ms, MtM g X m ks M) (hx : Passes (L2.CX X.prog X.w) X E) (he : PE X o ta) (hkw : PK X kws tk)
    (hall : (backToKw pos (keywordEach kws X.env)).all (·.1.isSome) = true := by rfl) (hks : (backToKw pos (keywordEach kws X.env)).filterMap (·.1) = ks := by rfl)
    (hpl : ((backTo pos (starEach [] X.env)).any (·.1) || (backToKw pos (keywordEach kws X.env)).any (·.1.isNone)) = false := by rfl)
    (ht : eval (.Call (.Attribute o m apos) [] kws pos) X.env = (do
      let ov ← eval o X.env; standAt apos.atName
      let (f, first) ← holding [ov] (getMethod ov m pl); callWith pos f first (backTo pos (starEach [] X.env)) (backToKw pos (keywordEach kws X.env))) := by rfl) :
    PE X (.Call (.Attribute o m apos) [] kws pos) (zM K m ks.length E Ms ta tNil tk) := h ▸ pe_Mk0 hM hx he hkw hall hks hpl ht
theorem pi_zipK (K : PySem.W.Frag) (h : X.K = K) {e e2 : Expr} {ta : TA} {p pos tpos : Pos} {elts : List Expr} {kk : Nat} (hg : Gl X "zip") (hm : X.mg "zip" = none) (ha : PA X [e, e2] ta)
    (hs : starEach [e, e2] X.env = (false, eval e X.env) :: starEach [e2] X.env := by rfl) (hpl : (backTo pos (starEach [e2] X.env)).any (·.1) = false := by rfl) :
    PI X (.Tuple elts kk tpos) (.Call (.Name "zip" p) [e, e2] [] pos) (RZ.iZipA K ta) := h ▸ RZ.pi_zipA hg hm ha hs hpl
end
section
variable {K : PySem.W.Frag} {ta tb tc : TE} {r r' : R2} {σ : L2.St} {H : Hp} {Q : VK}
theorem i_chain (h : ta σ H fun x H1 => tb σ H1 fun y H2 => r x y H2 fun z H3 => ∃ k, z = .bl k ∧ (if k = true then tc σ H3 fun w' H4 => r' y w' H4 Q else Q (.bl false) H3)) : tChain r r' ta tb tc σ H Q := h
theorem i_notV (h : ta σ H fun x H1 => ∃ c, x = .bl c ∧ Q (.bl (!c)) H1) : tNotV ta σ H Q := h
theorem ifNT {A B : Prop} (b : B) : if (!true) = true then A else B := ifF rfl b
theorem ifNF {A B : Prop} (a : A) : if (!false) = true then A else B := ifT rfl a
/-! ### zip of two lists, of two tuples -/
def zZiA (K : PySem.W.Frag) (vs : List V) (H1 : Hp) (R : It → Hp → Prop) : Prop := ∃ a b xs ys, vs = [.ref a, .ref b] ∧ ((SqL K H1 a xs ∧ SqL K H1 b ys ∧ R (Itz K a b) H1) ∨ (SqT K H1 a xs ∧ SqT K H1 b ys ∧ R (RZ.ItzT K a b) H1))
theorem i_zipA {t : TA} {R : It → Hp → Prop} (h : t σ H fun vs H1 => zZiA K vs H1 R) : RZ.iZipA K t σ H R := h
theorem i_zipAL {a b : Addr} {xs ys : List V} {R : It → Hp → Prop} (h : SqL K H a xs) (h2 : SqL K H b ys) (q : R (Itz K a b) H) : zZiA K [V.ref a, V.ref b] H R := ⟨a, b, xs, ys, rfl, .inl ⟨h, h2, q⟩⟩
theorem i_zipAT {a b : Addr} {xs ys : List V} {R : It → Hp → Prop} (h : H a = some (.tup xs)) (h2 : H b = some (.tup ys)) (q : R (RZ.ItzT K a b) H) : zZiA K [V.ref a, V.ref b] H R := ⟨a, b, xs, ys, rfl, .inr ⟨SqT.of h, SqT.of h2, q⟩⟩
variable {g : TG} {tt : TT} {te : TE} {vs : List Nat} {a b : Addr} {xs ys : List V}
/-- over zip(tuple, tuple), as far as the shorter one goes -/
theorem comp_zipT (n : Nat) (hn : n = min xs.length ys.length) (G : Nat → List V → Hp → Prop) (h0 : ∀ D H', New H D (.lst []) H' → G 0 [] H') (hl : ∀ i acc H, i ≤ n → G i acc H → SqT K H a xs ∧ SqT K H b ys)
    (hs : ∀ D i acc x y T H2 H2', H D = none → xs[i]? = some x → ys[i]? = some y → H2 D = some (.lst acc) → G i acc H2 → New H2 T (.tup [x, y]) H2' → g (.ref T) (wipe σ vs) H2' fun σ2 H3 => wipe σ2 vs = wipe σ vs ∧ tt σ2 H3 fun b H4 =>
      if b = true then te σ2 H4 fun y H5 => zEnd D (G (i + 1)) y H5 else zSkip D (G (i + 1)) H4)
    (hd : ∀ D acc H2, H D = none → H2 D = some (.lst acc) → G n acc H2 → Q (.ref D) H2) : zComp (RZ.ItzT K a b) g tt te vs σ H Q := by
  refine comp_by n G h0 (fun i acc H hi p => ⟨xs, ys, xs[i]'(by omega), ys[i]'(by omega), (hl i acc H (Nat.le_of_lt hi) p).1, (hl i acc H (Nat.le_of_lt hi) p).2, by simp, by simp⟩)
    (fun acc H p => ⟨xs, ys, (hl _ acc H (Nat.le_refl _) p).1, (hl _ acc H (Nat.le_refl _) p).2, by omega⟩) (fun D i acc x H2 H' fD hi hD p y => ?_) hd
  obtain ⟨T, v, u, rfl, fT, rfl, y1, y2⟩ := y
  have q := hl i acc H2 (Nat.le_of_lt hi) p
  exact hs D i acc v u T H2 _ fD (y1 xs q.1) (y2 ys q.2) hD p ⟨fT, rfl⟩
end
end Z
namespace Z
open PySem PySem.Spec PyProof.Rows L2
theorem fr_made {H H1 H2 : Hp} {p dx C : Addr} (y : Made H1 p dx C H2) (x : Same H H1) : Same H H2 := x.trans y.same
theorem fresh_made {H H1 H2 : Hp} {p dx C : Addr} (n : Made H1 p dx C H2) (s : Same H H1) : H p = none := free_back s n.fr
theorem Made.nei {H H' : Hp} {x dx C a : Addr} {u : HO} (n : Made H x dx C H') (h : H a = some u) : a ≠ x := ne_of_none h n.fr
end Z
namespace Z
open PySem PySem.Spec PyProof.Rows L2
theorem upd_upd {H : Hp} {a : Addr} {o u : HO} : upd (upd H a o) a u = upd H a u := by
  funext b
  by_cases e : b = a
  · subst e; rw [upd_same, upd_same]
  · rw [upd_ne e, upd_ne e, upd_ne e]
end Z
namespace Z
open PySem PySem.Spec PyProof.Rows L2
/-! ### what is walked: a list or a tuple -/
def zItS (K : PySem.W.Frag) (x : V) (H1 : Hp) (R : It → Hp → Prop) : Prop := ∃ a, x = .ref a ∧ (((∃ xs, SqL K H1 a xs) ∧ R (Itl K a) H1) ∨ ((∃ xs, SqT K H1 a xs) ∧ R (Itt K a) H1))
def iSeqS (K : PySem.W.Frag) (tl : TE) : TI := fun σ H R => tl σ H fun x H1 => zItS K x H1 R
theorem pi_seq {X : Cx} {tg l : Expr} {tl : TE} (hl : PE X l tl) : PI X tg l (iSeqS X.K tl) := by
  refine ⟨fun pins s σ H R I h => ?_⟩
  refine thn (hl.run pins s σ H _ I h) fun v s1 ⟨x, H1, I1, r1, q1⟩ => ?_
  obtain ⟨a, e, q⟩ := q1
  subst e
  cases r1
  rcases q with ⟨⟨xs, hq⟩, q⟩ | ⟨⟨xs, hq⟩, q⟩
  · obtain ⟨its, rv, p, hz⟩ := I1.list hq
    refine wpAny_pyIter_list p.isList ?_
    refine ⟨s1.heap.objs.size, [s1.heap.objs.size], _, _, H1, rfl, I1.kept (t' := s1.toks) fun b o e => Heap.get?_push_of_some _ e, turn_list a _, ⟨_, Heap.get?_push_size _ rfl, rfl, rfl⟩, fun b hb => ?_, q⟩
    have e : b = s1.heap.objs.size := by simpa using hb
    subst e
    exact I1.fpOk (Nat.le_refl _) (I1.hok.fresh (Nat.le_refl _))
  · obtain ⟨its, rv, p, hz⟩ := I1.tuple hq
    refine wpAny_pyIter_tuple (show s1.heap.IsTuple a its.toArray from p) ?_
    refine ⟨s1.heap.objs.size, [s1.heap.objs.size], _, _, H1, rfl, I1.kept (t' := s1.toks) fun b o e => Heap.get?_push_of_some _ e, turn_tuple a _, ⟨_, Heap.get?_push_size _ rfl, rfl, rfl⟩, fun b hb => ?_, q⟩
    have e : b = s1.heap.objs.size := by simpa using hb
    subst e
    exact I1.fpOk (Nat.le_refl _) (I1.hok.fresh (Nat.le_refl _))
theorem pi_seqK {X : Cx} (K : PySem.W.Frag) (h : X.K = K) {tg l : Expr} {tl : TE} (hl : PE X l tl) : PI X tg l (iSeqS K tl) := h ▸ pi_seq hl
section
variable {K : PySem.W.Frag} {tl : TE} {σ : L2.St} {H : Hp} {R : It → Hp → Prop} {a : Addr} {xs : List V}
theorem i_iSeqS (h : tl σ H fun x H1 => zItS K x H1 R) : iSeqS K tl σ H R := h
theorem i_sL (h : H a = some (.lst xs)) (q : R (Itl K a) H) : zItS K (.ref a) H R := ⟨a, rfl, .inl ⟨⟨xs, SqL.of h⟩, q⟩⟩
theorem i_sQ (h : SqL K H a xs) (q : R (Itl K a) H) : zItS K (.ref a) H R := ⟨a, rfl, .inl ⟨⟨xs, h⟩, q⟩⟩
theorem i_sT (h : H a = some (.tup xs)) (q : R (Itt K a) H) : zItS K (.ref a) H R := ⟨a, rfl, .inr ⟨⟨xs, SqT.of h⟩, q⟩⟩
end
end Z

/-! Z: data that stands while some objects change. -/
namespace Z
open PySem PySem.Spec PyProof.Rows L2

/-- all but L stands -/
def ButL (L : List Addr) (H H' : Hp) : Prop := ∀ b u, b ∉ L → H b = some u → H' b = some u
/-- L's places are taken -/
def Al (L : List Addr) (H : Hp) : Prop := ∀ b ∈ L, ∃ u, H b = some u
section
variable {L : List Addr} {H H1 H2 H' : Hp} {p D a : Addr} {o u : HO}
theorem ButL.refl : ButL L H H := fun _ _ _ h => h
theorem ButL.trans (x : ButL L H H1) (y : ButL L H1 H2) : ButL L H H2 := fun b u n h => y b u n (x b u n h)
theorem ButL.ofSame (x : Same H H1) : ButL L H H1 := fun b u _ h => x b u h
theorem ButL.ofBut (x : But a H H1) (m : a ∈ L) : ButL L H H1 := fun b u n h => x.get (fun e => n (e ▸ m)) h
theorem ButL.ofUp (x : Up H D o H1) (m : D ∈ L) : ButL L H H1 := .ofBut x.but m
theorem ButL.same (x : ButL L H H1) (y : Same H1 H2) : ButL L H H2 := x.trans (.ofSame y)
theorem ButL.new (x : ButL L H H1) (y : New H1 p o H2) : ButL L H H2 := x.trans (.ofSame y.same)
theorem ButL.but (x : ButL L H H1) (y : But a H1 H2) (m : a ∈ L) : ButL L H H2 := x.trans (.ofBut y m)
theorem ButL.up (x : ButL L H H1) (y : Up H1 D o H2) (m : D ∈ L) : ButL L H H2 := x.trans (.ofUp y m)
theorem ButL.upn (x : ButL L H H1) (y : Up H1 D o H2) (f : H D = none) : ButL L H H2 := fun b u n h => y.get (ne_of_none h f) (x b u n h)
theorem ButL.butn (x : ButL L H H1) (y : But D H1 H2) (f : H D = none) : ButL L H H2 := fun b u n h => y.get (ne_of_none h f) (x b u n h)
theorem ButL.butL {L' : List Addr} (x : ButL L H H1) (y : ButL L' H1 H2) (f : ∀ b ∈ L', b ∈ L ∨ H b = none) : ButL L H H2 := fun b u n h => y b u (fun m => by
  rcases f b m with z | z
  · exact n z
  · rw [h] at z; cases z) (x b u n h)
theorem ButL.toSame (x : ButL L H H1) (f : ∀ b ∈ L, H b = none) : Same H H1 := fun b u h => x b u (fun m => by rw [f b m] at h; cases h) h
theorem ButL.toBut (x : ButL L H H1) (f : ∀ b ∈ L, b = a ∨ H b = none) : But a H H1 := ⟨fun b u n h => x b u (fun m => by
  rcases f b m with z | z
  · exact n z
  · rw [h] at z; cases z) h⟩
theorem Al.nin (x : Al L H) (f : H p = none) : p ∉ L := fun m => by
  obtain ⟨u, h⟩ := x p m
  rw [f] at h; cases h
theorem Al.same (x : Al L H) (s : Same H H1) : Al L H1 := fun b m => by
  obtain ⟨u, h⟩ := x b m
  exact ⟨u, s _ _ h⟩
theorem Al.up (x : Al L H) (s : Up H D o H1) : Al L H1 := fun b m => by
  obtain ⟨u, h⟩ := x b m
  by_cases e : b = D
  · subst e; exact ⟨_, s.at⟩
  · exact ⟨u, s.get e h⟩
theorem Al.but (x : Al L H) (s : But a H H1) (h : H1 a = some o) : Al L H1 := fun b m => by
  obtain ⟨u, hb⟩ := x b m
  by_cases e : b = a
  · subst e; exact ⟨_, h⟩
  · exact ⟨u, s.get e hb⟩
theorem Al.nil : Al [] H := fun _ m => by cases m
theorem Al.cons (h : H a = some o) (x : Al L H) : Al (a :: L) H := fun b m => by
  rcases List.mem_cons.mp m with rfl | m
  · exact ⟨_, h⟩
  · exact x b m
end
/-! ### data that keeps off L -/
mutual
def DA (L : List Addr) (H : Hp) : V → PyData → Prop
  | v, .none => v = .non
  | v, .bool b => v = .bl b
  | v, .int i => v = .int i
  | v, .str x => v = .str x
  | v, .list l => ∃ p vs, v = .ref p ∧ p ∉ L ∧ H p = some (.lst vs) ∧ DAs L H vs l
  | v, .tuple l => ∃ p vs, v = .ref p ∧ p ∉ L ∧ H p = some (.tup vs) ∧ DAs L H vs l
  | _, .dict _ => False
def DAs (L : List Addr) (H : Hp) : List V → List PyData → Prop
  | vs, [] => vs = []
  | vs, d :: ds => ∃ v r, vs = v :: r ∧ DA L H v d ∧ DAs L H r ds
end
section
variable {K : PySem.W.Frag} {L L' : List Addr} {H H' : Hp} {p : Addr} {v : V} {vs ws : List V} {d : PyData} {ds es : List PyData} {ns : List Int}
mutual
theorem DA.dp : ∀ {v : V} {d : PyData}, DA L H v d → Dp K H v d
  | _, .none, h => by simp only [DA] at h; subst h; exact .non
  | _, .bool b, h => by simp only [DA] at h; subst h; exact .bl b
  | _, .int i, h => by simp only [DA] at h; subst h; exact .int i
  | _, .str x, h => by simp only [DA] at h; subst h; exact .str x
  | _, .list l, h => by
    simp only [DA] at h
    obtain ⟨p, vs, rfl, _, h, a⟩ := h
    exact dp_lst h (DAs.dp a)
  | _, .tuple l, h => by
    simp only [DA] at h
    obtain ⟨p, vs, rfl, _, h, a⟩ := h
    exact dp_tup h (DAs.dp a)
  | _, .dict _, h => by simp only [DA] at h
theorem DAs.dp : ∀ {vs : List V} {ds : List PyData}, DAs L H vs ds → DpAll K H vs ds
  | _, [], h => by simp only [DAs] at h; subst h; exact .nil
  | _, d :: ds, h => by
    simp only [DAs] at h
    obtain ⟨v, r, rfl, h, a⟩ := h
    exact .cons (DA.dp h) (DAs.dp a)
end
mutual
theorem DA.mono (b : ButL L H H') : ∀ {v : V} {d : PyData}, DA L H v d → DA L H' v d
  | _, .none, h => by simpa only [DA] using h
  | _, .bool b, h => by simpa only [DA] using h
  | _, .int i, h => by simpa only [DA] using h
  | _, .str x, h => by simpa only [DA] using h
  | _, .list l, h => by
    simp only [DA] at h ⊢
    obtain ⟨p, vs, rfl, n, h, a⟩ := h
    exact ⟨p, vs, rfl, n, b _ _ n h, DAs.mono b a⟩
  | _, .tuple l, h => by
    simp only [DA] at h ⊢
    obtain ⟨p, vs, rfl, n, h, a⟩ := h
    exact ⟨p, vs, rfl, n, b _ _ n h, DAs.mono b a⟩
  | _, .dict _, h => by simp only [DA] at h
theorem DAs.mono (b : ButL L H H') : ∀ {vs : List V} {ds : List PyData}, DAs L H vs ds → DAs L H' vs ds
  | _, [], h => by simpa only [DAs] using h
  | _, d :: ds, h => by
    simp only [DAs] at h ⊢
    obtain ⟨v, r, rfl, h, a⟩ := h
    exact ⟨v, r, rfl, DA.mono b h, DAs.mono b a⟩
end
mutual
theorem DA.less (s : ∀ b ∈ L', b ∈ L) : ∀ {v : V} {d : PyData}, DA L H v d → DA L' H v d
  | _, .none, h => by simpa only [DA] using h
  | _, .bool b, h => by simpa only [DA] using h
  | _, .int i, h => by simpa only [DA] using h
  | _, .str x, h => by simpa only [DA] using h
  | _, .list l, h => by
    simp only [DA] at h ⊢
    obtain ⟨p, vs, rfl, n, h, a⟩ := h
    exact ⟨p, vs, rfl, fun m => n (s _ m), h, DAs.less s a⟩
  | _, .tuple l, h => by
    simp only [DA] at h ⊢
    obtain ⟨p, vs, rfl, n, h, a⟩ := h
    exact ⟨p, vs, rfl, fun m => n (s _ m), h, DAs.less s a⟩
  | _, .dict _, h => by simp only [DA] at h
theorem DAs.less (s : ∀ b ∈ L', b ∈ L) : ∀ {vs : List V} {ds : List PyData}, DAs L H vs ds → DAs L' H vs ds
  | _, [], h => by simpa only [DAs] using h
  | _, d :: ds, h => by
    simp only [DAs] at h ⊢
    obtain ⟨v, r, rfl, h, a⟩ := h
    exact ⟨v, r, rfl, DA.less s h, DAs.less s a⟩
end
theorem DA.same (s : Same H H') (h : DA L H v d) : DA L H' v d := h.mono (.ofSame s)
theorem DAs.same (s : Same H H') (h : DAs L H vs ds) : DAs L H' vs ds := h.mono (.ofSame s)
theorem DAs.nil : DAs L H [] [] := by simp only [DAs]
theorem DAs.cons (h : DA L H v d) (a : DAs L H vs ds) : DAs L H (v :: vs) (d :: ds) := by
  simp only [DAs]
  exact ⟨v, vs, rfl, h, a⟩
theorem DAs.app : ∀ {vs : List V} {ds : List PyData}, DAs L H vs ds → DAs L H ws es → DAs L H (vs ++ ws) (ds ++ es)
  | _, [], h, g => by simp only [DAs] at h; subst h; exact g
  | _, d :: ds, h, g => by
    simp only [DAs] at h
    obtain ⟨v, r, rfl, h, a⟩ := h
    exact .cons h (a.app g)
theorem DAs.snoc (a : DAs L H vs ds) (h : DA L H v d) : DAs L H (vs ++ [v]) (ds ++ [d]) := a.app (.cons h .nil)
theorem DAs.ints : ∀ ns : List Int, DAs L H (ns.map V.int) (ns.map PyData.int)
  | [] => .nil
  | n :: ns => .cons (by simp only [DA]) (DAs.ints ns)
theorem DAs.len : ∀ {vs : List V} {ds : List PyData}, DAs L H vs ds → vs.length = ds.length
  | _, [], h => by simp only [DAs] at h; subst h; rfl
  | _, d :: ds, h => by
    simp only [DAs] at h
    obtain ⟨v, r, rfl, h, a⟩ := h
    rw [List.length_cons, List.length_cons, a.len]
theorem DAs.get : ∀ {vs : List V} {ds : List PyData} {i : Nat} {d : PyData}, DAs L H vs ds → ds[i]? = some d → ∃ v, vs[i]? = some v ∧ DA L H v d
  | _, [], _, _, h, e => by simp at e
  | _, d :: ds, 0, _, h, e => by
    simp only [DAs] at h
    obtain ⟨v, r, rfl, h, a⟩ := h
    cases e
    exact ⟨v, rfl, h⟩
  | _, d :: ds, i + 1, _, h, e => by
    simp only [DAs] at h
    obtain ⟨v, r, rfl, h, a⟩ := h
    exact a.get (i := i) (by simpa using e)
theorem DAs.ints_eq : ∀ {ns : List Int} {vs : List V}, DAs L H vs (ns.map PyData.int) → vs = ns.map V.int
  | [], _, h => by simpa only [List.map_nil, DAs] using h
  | n :: ns, _, h => by
    simp only [List.map_cons, DAs, DA] at h
    obtain ⟨v, r, rfl, rfl, a⟩ := h
    rw [DAs.ints_eq a]; rfl
theorem DA.lst (n : p ∉ L) (h : H p = some (.lst vs)) (a : DAs L H vs ds) : DA L H (.ref p) (.list ds) := by
  simp only [DA]
  exact ⟨p, vs, rfl, n, h, a⟩
theorem DA.tup (n : p ∉ L) (h : H p = some (.tup vs)) (a : DAs L H vs ds) : DA L H (.ref p) (.tuple ds) := by
  simp only [DA]
  exact ⟨p, vs, rfl, n, h, a⟩
theorem DA.of_lst (h : DA L H v (.list ds)) : ∃ p vs, v = .ref p ∧ p ∉ L ∧ H p = some (.lst vs) ∧ DAs L H vs ds := by
  simpa only [DA] using h
theorem DA.of_tup (h : DA L H v (.tuple ds)) : ∃ p vs, v = .ref p ∧ p ∉ L ∧ H p = some (.tup vs) ∧ DAs L H vs ds := by
  simpa only [DA] using h
theorem DA.of_int {i : Int} (h : DA L H v (.int i)) : v = .int i := by simpa only [DA] using h
theorem DA.of_ints (h : DA L H v (.list (ns.map PyData.int))) : ∃ p, v = .ref p ∧ p ∉ L ∧ H p = some (.lst (ns.map V.int)) := by
  obtain ⟨p, vs, rfl, n, h, a⟩ := h.of_lst
  exact ⟨p, rfl, n, a.ints_eq ▸ h⟩
theorem DA.ints (n : p ∉ L) (h : H p = some (.lst (ns.map V.int))) : DA L H (.ref p) (.list (ns.map PyData.int)) := .lst n h (.ints ns)
end
/-! ### tuples: + and slices -/
section
variable {K : PySem.W.Frag} {H : Hp} {Q : VK} {p q : Addr} {v : V} {xs ys : List V} {m : Nat}
theorem i_addT1 (h1 : H p = some (.tup [v])) (h2 : H q = some (.tup ys)) (z : ys.length ≤ 1000000) (k : ∀ r H', Same H H' → H' r = some (.tup (v :: ys)) → Q (.ref r) H') : rAdd K (.ref p) (.ref q) H Q :=
  .inr (.inr (.inr (by
    refine ⟨p, q, [v], ys, rfl, rfl, SqT.of h1, SqT.of h2, by rw [sizeLine_eq, List.length_singleton]; omega, fun e => ?_, fun _ e => ?_, fun _ _ r f => ?_⟩
    · cases e
    · subst e; exact k p H (Same.refl _) h1
    · exact k r _ (fun b o e => by rw [upd_ne (ne_of_none e f)]; exact e) upd_same)))
theorem i_slT (h : H p = some (.tup xs)) (hm : m ≤ xs.length) (k : ∀ r H', Same H H' → H' r = some (.tup (xs.take m)) → Q (.ref r) H') : rSlU K (.ref p) none (some (m : Int)) H Q := by
  have e : cutV xs none (some (m : Int)) = xs.take m := by
    unfold cutV
    rw [HT.sIx_none, HT.sIx_nat, Nat.min_eq_left hm]
    simp
  refine .inr ⟨p, xs, rfl, SqT.of h, fun ⟨_, w⟩ => ?_, fun _ r f => k r _ (fun b o e => by rw [upd_ne (ne_of_none e f)]; exact e) (by rw [upd_same, e])⟩
  rw [HT.sIx_nat, Nat.min_eq_left hm] at w
  exact k p H (Same.refl _) (by rw [w, List.take_length]; exact h)
end
end Z
namespace Z
open PySem PySem.Spec PyProof.Rows L2
/-! ### comprehensions whose invariant knows the list's own place -/
section
variable {K : PySem.W.Frag} {H : Hp} {a : Addr} {xs : List V} {g : TG} {tt : TT} {te : TE} {vs : List Nat} {σ : L2.St} {Q : VK} {n : Nat} {lo : Int}
theorem comp_byD {J : It} (n : Nat) (G : Addr → Nat → List V → Hp → Prop) (h0 : ∀ D H', New H D (.lst []) H' → G D 0 [] H')
    (hgo : ∀ D i acc H, i < n → G D i acc H → J.go i H) (hst : ∀ D acc H, G D n acc H → J.stop n H)
    (hs : ∀ D i acc x H2 H', H D = none → i < n → H2 D = some (.lst acc) → G D i acc H2 → J.yld i H2 x H' → g x (wipe σ vs) H' fun σ2 H3 => wipe σ2 vs = wipe σ vs ∧ tt σ2 H3 fun b H4 =>
      if b = true then te σ2 H4 fun y H5 => zEnd D (G D (i + 1)) y H5 else zSkip D (G D (i + 1)) H4)
    (hd : ∀ D acc H2, H D = none → H2 D = some (.lst acc) → G D n acc H2 → Q (.ref D) H2) : zComp J g tt te vs σ H Q := by
  intro D fD
  refine ⟨fun i m H2 => m = n - i ∧ i ≤ n ∧ ∃ acc, H2 D = some (.lst acc) ∧ G D i acc H2, ⟨n, rfl, Nat.zero_le _, [], upd_same, h0 D _ ⟨fD, rfl⟩⟩, ?_⟩
  rintro i m H2 ⟨rfl, hi, acc, hD, p⟩
  by_cases hlt : i < n
  · exact .inr ⟨hgo D i acc H2 hlt p, fun H6 => ∃ acc, H6 D = some (.lst acc) ∧ G D (i + 1) acc H6, fun H' p' => ⟨n - (i + 1), by omega, rfl, hlt, p'⟩, fun x H' y => hs D i acc x H2 H' fD hlt hD p y⟩
  · have e : i = n := by omega
    subst e
    exact .inl ⟨hst D acc H2 p, hd D acc H2 fD hD p⟩
theorem comp_listD (G : Addr → Nat → List V → Hp → Prop) (h0 : ∀ D H', New H D (.lst []) H' → G D 0 [] H') (hl : ∀ D i acc H, i ≤ xs.length → G D i acc H → SqL K H a xs)
    (hs : ∀ D i acc x H2, H D = none → xs[i]? = some x → H2 D = some (.lst acc) → G D i acc H2 → g x (wipe σ vs) H2 fun σ2 H3 => wipe σ2 vs = wipe σ vs ∧ tt σ2 H3 fun b H4 =>
      if b = true then te σ2 H4 fun y H5 => zEnd D (G D (i + 1)) y H5 else zSkip D (G D (i + 1)) H4)
    (hd : ∀ D acc H2, H D = none → H2 D = some (.lst acc) → G D xs.length acc H2 → Q (.ref D) H2) : zComp (Itl K a) g tt te vs σ H Q := by
  refine comp_byD xs.length G h0 (fun D i acc H hi p => ⟨xs, xs[i], hl D i acc H (Nat.le_of_lt hi) p, by simp [hi]⟩) (fun D acc H p => ⟨xs, hl D _ acc H (Nat.le_refl _) p, Nat.le_refl _⟩) (fun D i acc x H2 H' fD hi hD p y => ?_) hd
  obtain ⟨e, y⟩ := y
  subst e
  exact hs D i acc x _ fD (y xs (hl D i acc _ (Nat.le_of_lt hi) p)) hD p
theorem comp_range0D (G : Addr → Nat → List V → Hp → Prop) (h0 : ∀ D H', New H D (.lst []) H' → G D 0 [] H')
    (hs : ∀ D i acc H2, H D = none → i < n → H2 D = some (.lst acc) → G D i acc H2 → g (.int (i : Nat)) (wipe σ vs) H2 fun σ2 H3 => wipe σ2 vs = wipe σ vs ∧ tt σ2 H3 fun b H4 =>
      if b = true then te σ2 H4 fun y H5 => zEnd D (G D (i + 1)) y H5 else zSkip D (G D (i + 1)) H4)
    (hd : ∀ D acc H2, H D = none → H2 D = some (.lst acc) → G D n acc H2 → Q (.ref D) H2) : zComp (Itr 0 n) g tt te vs σ H Q := by
  refine comp_byD n G h0 (fun D i acc H hi p => hi) (fun D acc H p => Nat.le_refl _) (fun D i acc x H2 H' fD hi hD p y => ?_) hd
  obtain ⟨e, y⟩ := y
  subst e y
  rw [Int.zero_add]
  exact hs D i acc _ fD hi hD p
end
/-! data off D :: L is off L, and stands when D is changed -/
section
variable {L : List Addr} {H H' : Hp} {D : Addr} {o : HO} {v : V} {vs : List V} {d : PyData} {ds : List PyData}
theorem DA.up (h : DA L H v d) (u : Up H D o H') (m : D ∈ L) : DA L H' v d := h.mono (.ofUp u m)
theorem DAs.up (h : DAs L H vs ds) (u : Up H D o H') (m : D ∈ L) : DAs L H' vs ds := h.mono (.ofUp u m)
theorem DA.drop (h : DA (D :: L) H v d) : DA L H v d := h.less fun _ m => List.mem_cons_of_mem _ m
theorem DAs.drop (h : DAs (D :: L) H vs ds) : DAs L H vs ds := h.less fun _ m => List.mem_cons_of_mem _ m
end
end Z
namespace Z
open PySem PySem.Spec PyProof.Rows L2
section
variable {c : TT} {ta tb : TE} {σ : L2.St} {H : Hp} {Q : VK} {t u : TZ} {nx bk ct : L2.St → Hp → Prop} {rt : VK}
/-- both ways of a conditional expression join -/
theorem i_ifEG (R : V → Hp → Prop) (k : ∀ v H', R v H' → Q v H') (h : ∀ Q' : VK, (∀ v H', R v H' → Q' v H') → c σ H fun b H1 => if b = true then ta σ H1 Q' else tb σ H1 Q') : tIf c ta tb σ H Q := h Q k
/-- both ways of an if join -/
theorem i_ifG (R : L2.St → Hp → Prop) (k : ∀ σ' H', R σ' H' → nx σ' H') (h : ∀ nx' : L2.St → Hp → Prop, (∀ σ' H', R σ' H' → nx' σ' H') → zIf c t u nx' rt bk ct σ H) : zIf c t u nx rt bk ct σ H := h nx k
end
/-! ### lists of lists of ints -/
theorem lay_rows : ∀ rows : List (List Int), PyData.canLayAll0 (rows.map fun r => .list (r.map PyData.int)) = true
  | [] => rfl
  | r :: rows => by
    simp only [List.map_cons, PyData.canLayAll0, Bool.and_eq_true]
    exact ⟨lay_ints r, lay_rows rows⟩
theorem depth_rows : ∀ rows : List (List Int), PyData.depthAll (rows.map fun r => .list (r.map PyData.int)) ≤ 1
  | [] => by simp only [List.map_nil, PyData.depthAll]; omega
  | r :: rows => by
    simp only [List.map_cons, PyData.depthAll, PyData.depth, depth_ints]
    have := depth_rows rows
    omega
theorem shaped_rows (rows : List (List Int)) : SeqAt.shaped (.list (rows.map fun r => .list (r.map PyData.int))) = true := by
  unfold SeqAt.shaped
  rw [Bool.and_eq_true, decide_eq_true_eq]
  refine ⟨by simp only [PyData.canLay0]; exact lay_rows rows, ?_⟩
  simp only [PyData.depth]
  have := depth_rows rows
  omega
theorem atI_snoc {α : Type} (xs : List α) (a : α) : atI (xs ++ [a]) (-1) = some a := atI_last _ _
end Z

/-! Z: isinstance of own classes, sorted, more of tuples. -/
namespace Z
open PySem PySem.Spec PyProof.Rows L2
/-! ### isinstance of instances of own classes -/
structure InsF (K : PySem.W.Frag) (C : Addr) : Prop where
  ha : PySem.W.findIn K (.ref C) "__class__" = some (some (.builtin "object.__class__"))
  hn : PySem.W.specialIn K (.builtin "object.__class__") "__get__" = some (some (.builtin "getset_descriptor.__get__"))
  htk : PySem.W.takesIn K (.builtin "object.__class__") = some true
  hm : PySem.W.mroIn K C (.type "object") = some true
def fxIns (c : Str) : Fx := fun K => He.eqO (PySem.W.findIn K (.ref (He.ga K c)) "__class__") (some (some (.builtin "object.__class__"))) && (He.eqO (PySem.W.specialIn K (.builtin "object.__class__") "__get__") (some (some (.builtin "getset_descriptor.__get__"))) &&
  (decide (PySem.W.takesIn K (.builtin "object.__class__") = some true) && decide (PySem.W.mroIn K (He.ga K c) (.type "object") = some true)))
theorem fxIns_ok {K : PySem.W.Frag} {c : Str} (h : fxIns c K = true) : InsF K (He.ga K c) := by
  obtain ⟨c1, h⟩ := He.ba h
  obtain ⟨c2, h⟩ := He.ba h
  obtain ⟨c3, c4⟩ := He.ba h
  exact ⟨He.eqO_ok c1, He.eqO_ok c2, of_decide_eq_true c3, of_decide_eq_true c4⟩
/-- is an instance of c one of D? -/
def fxKit (c D : Str) (b : Bool) : Fx := fun K => decide (PySem.W.kitOne K (.ref (He.ga K c)) (.ref (He.ga K D)) = some b)
theorem fxKit_ok {K : PySem.W.Frag} {c D : Str} {b : Bool} (h : fxKit c D b K = true) : PySem.W.kitOne K (.ref (He.ga K c)) (.ref (He.ga K D)) = some b := of_decide_eq_true h
/-- is a thing of the built-in type c one of D? -/
def fxKitB (c : String) (D : Str) (b : Bool) : Fx := fun K => decide (PySem.W.kitOne K (.type c) (.ref (He.ga K D)) = some b)
theorem fxKitB_ok {K : PySem.W.Frag} {c : String} {D : Str} {b : Bool} (h : fxKitB c D b K = true) : PySem.W.kitOne K (.type c) (.ref (He.ga K D)) = some b := of_decide_eq_true h
section
variable {K : PySem.W.Frag} {H : Hp} {Q : VK} {p D C dx : Addr} {b : Bool} {fs : List (Str × V)} {x : V} {a : String}
theorem i_isiC (h : H p = some (.ins C dx fs)) (c : Cls K C) (f : InsF K C) (k : PySem.W.kitOne K (.ref C) (.ref D) = some b) (q : Q (.bl b) H) : rIsi K [V.ref p, .ref D] H Q :=
  ⟨.ref p, .ref D, .ref C, .ref D, b, rfl, .own D, .base (.ins h c f.ha f.hn f.htk f.hm), k, q⟩
theorem i_isiB (t : TyX K H x (.type a)) (k : PySem.W.kitOne K (.type a) (.ref D) = some b) (q : Q (.bl b) H) : rIsi K [x, .ref D] H Q := ⟨x, .ref D, .type a, .ref D, b, rfl, .own D, t, k, q⟩
end
theorem Made.nei' {H H' : Hp} {x dx C a : Addr} {u : HO} (n : Made H x dx C H') (h : H a = some u) : x ≠ a := (ne_of_none h n.fr).symm
theorem i_dnew {σ : L2.St} {H : Hp} {Q : VK} (h : ∀ p H', New H p (.dK []) H' → Q (.ref p) H') : tDNewK σ H Q := fun p f => h p _ ⟨f, rfl⟩
/-! ### comprehensions within comprehensions -/
theorem lookup_kmap (f : Str → NameKind → NameKind) (x : Str) : ∀ l : List (Str × NameKind), (l.map fun y => (y.1, f y.1 y.2)).lookup x = (l.lookup x).map (f x)
  | [] => rfl
  | (n, k) :: r => by
    rw [List.map_cons, List.lookup_cons, List.lookup_cons]
    cases e : x == n with
    | true => simp only [Option.map_some]; rw [eq_of_beq e]
    | false => exact lookup_kmap f x r
theorem relabel_names (scope : Scope) (env : Env) : (relabel scope env).names = scope.names.map fun y => (y.1, if (y.2 == .free && env.scope.kind == .function && env.kindOf y.1 == some .cell) then .cell else y.2) := by
  unfold relabel
  simp only
  refine List.map_congr_left fun y _ => ?_
  obtain ⟨n, k⟩ := y
  simp only
  split <;> rfl
theorem relabel_free {scope : Scope} {env : Env} {x : Str} (h : (match scope.names.lookup x with
    | some .cell => true
    | some .free => true
    | _ => false) = true) : (match (relabel scope env).names.lookup x with
    | some .cell => true
    | some .free => true
    | _ => false) = true := by
  rw [relabel_names, lookup_kmap (fun n k => if (k == .free && env.scope.kind == .function && env.kindOf n == some .cell) then .cell else k)]
  cases e : scope.names.lookup x with
  | none => rw [e] at h; cases h
  | some k =>
    rw [e] at h
    simp only [Option.map_some]
    cases k <;> first
      | (cases h; done)
      | rfl
      | (split
         · rename_i q
           split at q <;> first
             | rfl
             | cases q
         · rfl
         · rename_i q1 q2
           exfalso
           revert q1 q2
           split <;> simp)
theorem blkC_relabel {N : List Str} {scope' scope : Scope} {env : Env} {own : List (Str × Nat)} (h : blkC N scope' scope own = true) : blkC N (relabel scope' env) scope own = true := by
  unfold blkC at h ⊢
  rw [Bool.and_eq_true] at h ⊢
  refine ⟨h.1, ?_⟩
  rw [List.all_eq_true] at *
  intro y hy
  have q := h.2 y hy
  split at q
  · exact relabel_free q
  · exact q
  · exact q
  · rfl
theorem blkOk_in {X : Cx} {s : Shared} {H : Hp} {scope' scope : Scope} {cl : List (Str × Addr)} {C : Addr} {fp : List Addr} {N : List Str} {own : List (Str × Nat)} (h : blkC N scope' scope own = true) :
    BlkOk N (X.blk s H scope' (compEnvC scope' cl C X.env) fp).env.scope scope own := blkOk_by (sc := relabel scope' X.env) (blkC_relabel h)
/-! ### sorted of ints -/
theorem csortedK {X : Cx} (K : PySem.W.Frag) (h : X.K = K) : CallR X (.builtin "sorted") (rSortedI K) := h ▸ cr_sortedI
theorem i_sortedI {K : PySem.W.Frag} {H : Hp} {Q : VK} {p : Addr} {ns : List Int} (h : H p = some (.lst (ns.map V.int))) (k : ∀ (ns' : List Int) r H', New H r (.lst (ns'.map V.int)) H' → ns'.Perm ns → ns'.Pairwise (· ≤ ·) → Q (.ref r) H') : rSortedI K [V.ref p] H Q :=
  ⟨p, ns, rfl, SqL.of h, fun ns' r pm sr f => k ns' r _ ⟨f, rfl⟩ pm sr⟩
/-! ### tuples -/
section
variable {K : PySem.W.Frag} {H : Hp} {Q : VK} {p : Addr} {xs : List V} {m : Nat}
theorem i_slTd (h : H p = some (.tup xs)) (hm : m ≤ xs.length) (k : ∀ r H', Same H H' → H' r = some (.tup (xs.drop m)) → Q (.ref r) H') : rSlU K (.ref p) (some (m : Int)) none H Q := by
  have e : cutV xs (some (m : Int)) none = xs.drop m := by
    unfold cutV
    rw [HT.sIx_none, HT.sIx_nat, Nat.min_eq_left hm, List.take_of_length_le (by rw [List.length_drop]; omega)]
  refine .inr ⟨p, xs, rfl, SqT.of h, fun ⟨w, _⟩ => ?_, fun _ r f => k r _ (fun b o e => by rw [upd_ne (ne_of_none e f)]; exact e) (by rw [upd_same, e])⟩
  rw [HT.sIx_nat, Nat.min_eq_left hm] at w
  exact k p H (Same.refl _) (by rw [w, List.drop_zero]; exact h)
/-- t[1:] -/
theorem i_slT1 (h : H p = some (.tup xs)) (k : ∀ r H', Same H H' → H' r = some (.tup (xs.drop 1)) → Q (.ref r) H') : rSlU K (.ref p) (some 1) none H Q := by
  have e : cutV xs (some 1) none = xs.drop 1 := by
    unfold cutV
    rw [HT.sIx_none, show HT.sIx xs.length 0 (some 1) = min 1 xs.length from HT.sIx_nat _ _ 1]
    cases xs with
    | nil => rfl
    | cons a b => simp
  refine .inr ⟨p, xs, rfl, SqT.of h, fun ⟨w, _⟩ => ?_, fun _ r f => k r _ (fun b o e => by rw [upd_ne (ne_of_none e f)]; exact e) (by rw [upd_same, e])⟩
  rw [show HT.sIx xs.length 0 (some 1) = min 1 xs.length from HT.sIx_nat _ _ 1] at w
  exact k p H (Same.refl _) (by
    have : xs.length = 0 := by omega
    rw [List.length_eq_zero_iff.mp this] at h ⊢
    exact h)
end
section
variable {K : PySem.W.Frag} {H : Hp} {a : Addr} {xs : List V} {g : TG} {tt : TT} {te : TE} {vs : List Nat} {σ : L2.St} {Q : VK}
theorem comp_tupD (G : Addr → Nat → List V → Hp → Prop) (h0 : ∀ D H', New H D (.lst []) H' → G D 0 [] H') (hl : ∀ D i acc H, i ≤ xs.length → G D i acc H → SqT K H a xs)
    (hs : ∀ D i acc x H2, H D = none → xs[i]? = some x → H2 D = some (.lst acc) → G D i acc H2 → g x (wipe σ vs) H2 fun σ2 H3 => wipe σ2 vs = wipe σ vs ∧ tt σ2 H3 fun b H4 =>
      if b = true then te σ2 H4 fun y H5 => zEnd D (G D (i + 1)) y H5 else zSkip D (G D (i + 1)) H4)
    (hd : ∀ D acc H2, H D = none → H2 D = some (.lst acc) → G D xs.length acc H2 → Q (.ref D) H2) : zComp (Itt K a) g tt te vs σ H Q := by
  refine comp_byD xs.length G h0 (fun D i acc H hi p => ⟨xs, xs[i], hl D i acc H (Nat.le_of_lt hi) p, by simp [hi]⟩) (fun D acc H p => ⟨xs, hl D _ acc H (Nat.le_refl _) p, Nat.le_refl _⟩) (fun D i acc x H2 H' fD hi hD p y => ?_) hd
  obtain ⟨e, y⟩ := y
  subst e
  exact hs D i acc x _ fD (y xs (hl D i acc _ (Nat.le_of_lt hi) p)) hD p
end
end Z
namespace Z
open PySem PySem.Spec PyProof.Rows L2
/-! ### calls of a value that is one of some defs -/
structure FAx where
  f : Addr
  n : Nat
  gV : PySem.W.Frag → List V → List V → List V
  sp : Sp
abbrev FtM (g : Prop) (X : Cx) (ks : List Str) (M : FAx) : Prop := ∃ (k : Nat) (d : He.DefD) (ps : List Str), Pr g X.prog X.w X.K X.mg X.base k M.f d ps M.sp ∧ Bd d ps M.n ks M.gV ∧ Room k X.A ∧ Gd g X.A
section
variable {g : Prop} {X : Cx} {ks : List Str}
theorem ft_nil : ∀ M ∈ ([] : List FAx), FtM g X ks M := fun _ h => by cases h
theorem ft_cons {f : Addr} {n k : Nat} {d : He.DefD} {ps : List Str} {gV : PySem.W.Frag → List V → List V → List V} {sp : Sp} {Fs : List FAx} (F : Pr g X.prog X.w X.K X.mg X.base k f d ps sp) (b : Bd d ps n ks gV) (hr : Room k X.A) (hgd : Gd g X.A)
    (r : ∀ M ∈ Fs, FtM g X ks M) : ∀ M ∈ (⟨f, n, gV, sp⟩ : FAx) :: Fs, FtM g X ks M := fun M hM => by
  rcases List.mem_cons.mp hM with rfl | hM
  · exact ⟨k, d, ps, F, b, hr, hgd⟩
  · exact r M hM
end
/-- the reading, behind the callee -/
def zV1 (K : PySem.W.Frag) (kn : Nat) (E : XK) (Fs : List FAx) (t tk : TA) (x : V) (σ : L2.St) (H1 : Hp) (Q : VK) : Prop :=
  ∃ M : FAx, M ∈ Fs ∧ x = .ref M.f ∧ t σ H1 fun vs H2 => tk σ H2 fun zs H3 => vs.length = M.n ∧ zs.length = kn ∧ M.sp (M.gV K vs zs) H3 Q E
def zV (K : PySem.W.Frag) (kn : Nat) (E : XK) (Fs : List FAx) (tf : TE) (t tk : TA) : TE := fun σ H Q => tf σ H fun x H1 => zV1 K kn E Fs t tk x σ H1 Q
section
variable {g : Prop} {X : Cx} {ks : List Str} {Fs : List FAx} {E : XK} {o e : Expr} {es : List Expr} {kws : List Keyword} {tf : TE} {t tk : TA} {pos : Pos}
theorem pe_V (K : PySem.W.Frag) (hK : X.K = K) (hF : ∀ M ∈ Fs, FtM g X [] M) (hx : Passes (L2.CX X.prog X.w) X E) (he : PE X o tf) (ha : PA X (e :: es) t)
    (hst : starEach (e :: es) X.env = (false, eval e X.env) :: starEach es X.env := by rfl) (hpl : (backTo pos (starEach es X.env)).any (·.1) = false := by rfl)
    (ht : eval (.Call o (e :: es) [] pos) X.env = (do callWith pos (← eval o X.env) [] (backTo pos (starEach (e :: es) X.env)) (backToKw pos (keywordEach [] X.env))) := by rfl) :
    PE X (.Call o (e :: es) [] pos) (zV K 0 E Fs tf t tNil) := by
  subst hK
  refine ⟨fun pins s σ H Q I h => ?_⟩
  refine Call_ (thn (he.run pins s σ H _ I h) fun u s1 ⟨x, H1, I1, rx, M, hm, ex, q⟩ => ?_) ht
  subst ex
  obtain rfl : u = Value.ref M.f := rx
  obtain ⟨k, d, ps, F, hb, hr, hgd⟩ := hF M hm
  obtain ⟨fd, FD, OK⟩ := F.ex
  obtain ⟨gg, B⟩ := hb _ _ _ FD
  refine PySem.W.callWith_K (h₀ := X.base) I.ok.mod.kin FD.kp ?_ hst hpl
  refine thn (ha.run pos pins s1 σ H1 _ I1 q) fun us s2 ⟨vs, H2, I2, r, l1, l2, q2⟩ => ⟨I2.kIn, ?_⟩
  exact run_g (ws := []) (zs := []) (ks := []) OK hr hgd B hx I2 r .nil l1 l2 q2
end
section
variable {K : PySem.W.Frag} {kn : Nat} {E : XK} {Fs : List FAx} {tf : TE} {t tk : TA} {σ : L2.St} {H : Hp} {Q : VK} {f : Addr}
theorem i_V (h : tf σ H fun x H1 => zV1 K kn E Fs t tk x σ H1 Q) : zV K kn E Fs tf t tk σ H Q := h
theorem i_Vi (i : Nat) {M : FAx} (hi : Fs[i]? = some M) (q : t σ H fun vs H2 => tk σ H2 fun zs H3 => vs.length = M.n ∧ zs.length = kn ∧ M.sp (M.gV K vs zs) H3 Q E) : zV1 K kn E Fs t tk (.ref M.f) σ H Q :=
  ⟨M, List.mem_of_getElem? hi, rfl, q⟩
end
end Z

/-! Z: what is raised: calls that let it out, raise, try .. except. -/
namespace Z
open PySem PySem.Spec PyProof.Rows L2
def zCallS (K : PySem.W.Frag) (n m : Nat) (gV : PySem.W.Frag → List V → List V → List V) (sp : Sp) (W : WX) (t tk : TA) : TE := fun σ H Q =>
  t σ H fun vs H1 => tk σ H1 fun zs H2 => vs.length = n ∧ zs.length = m ∧ sp (gV K vs zs) H2 Q (WE W σ)
def zMakeS (K : PySem.W.Frag) (C : Addr) (n m : Nat) (gV : PySem.W.Frag → List V → List V → List V) (sp : Sp) (W : WX) (t tk : TA) : TE := fun σ H Q =>
  t σ H fun vs H1 => tk σ H1 fun zs H2 => vs.length + 1 = n ∧ zs.length = m ∧ ∀ x dx, H2 x = none → H2 dx = none → dx ≠ x →
    sp (gV K (.ref x :: vs) zs) (upd (upd H2 dx (.own x)) x (.ins C dx [])) (fun v H3 => v = .non ∧ Q (.ref x) H3) (WE W σ)
def zM1S (K : PySem.W.Frag) (m : Str) (kn : Nat) (W : WX) (Ms : List MA) (t tk : TA) (x : V) (σ : L2.St) (H1 : Hp) (Q : VK) : Prop :=
  ∃ (M : MA) (a dx : Addr) (fs : List (Str × V)), M ∈ Ms ∧ x = .ref a ∧ H1 a = some (.ins M.C dx fs) ∧ fs.lookup m = none ∧ t σ H1 fun vs H2 => tk σ H2 fun zs H3 => (V.ref a :: vs).length = M.n ∧ zs.length = kn ∧ M.sp (M.gV K (.ref a :: vs) zs) H3 Q (WE W σ)
def zMS (K : PySem.W.Frag) (m : Str) (kn : Nat) (W : WX) (Ms : List MA) (ta : TE) (t tk : TA) : TE := fun σ H Q => ta σ H fun x H1 => zM1S K m kn W Ms t tk x σ H1 Q
def zV1S (K : PySem.W.Frag) (kn : Nat) (W : WX) (Fs : List FAx) (t tk : TA) (x : V) (σ : L2.St) (H1 : Hp) (Q : VK) : Prop :=
  ∃ M : FAx, M ∈ Fs ∧ x = .ref M.f ∧ t σ H1 fun vs H2 => tk σ H2 fun zs H3 => vs.length = M.n ∧ zs.length = kn ∧ M.sp (M.gV K vs zs) H3 Q (WE W σ)
def zVS (K : PySem.W.Frag) (kn : Nat) (W : WX) (Fs : List FAx) (tf : TE) (t tk : TA) : TE := fun σ H Q => tf σ H fun x H1 => zV1S K kn W Fs t tk x σ H1 Q
section
variable {X : Cx} {g : Prop} {k n : Nat} {f C : Addr} {d : He.DefD} {ps ks : List Str} {gV : PySem.W.Frag → List V → List V → List V} {sp : Sp} {E : XK} {W : WX} {x m : Str} {p pos apos : Pos} {e o : Expr} {es : List Expr} {kws : List Keyword} {ta tf : TE} {t tk : TA} {Ms : List MA} {Fs : List FAx}
theorem run_gS {fd : FuncData} {gg : List Value → List Value → List Value} {gW : List V → List V → List V} {pins : List (Addr × Obj)} {σ : L2.St} {H : Hp} {s : Shared} {Q : VK} {us ws : List Value} {vs zs : List V}
    (F : FnG g X.prog X.w X.K X.mg X.base k f fd ps sp) (hr : Room k X.A) (hgd : Gd g X.A) (hb : KBn X.K fd ps n ks gg gW) (hx : PassesAt (L2.CX X.prog X.w) X σ E)
    (I : Inv X pins σ H s) (r : Vals vs us) (rz : Vals zs ws) (l1 : vs.length = n) (l2 : zs.length = ks.length) (h : sp (gW vs zs) H Q E) :
    wpAny (model X.prog X.w) X.A (call (.ref f) us (ks.zip ws)) (EP X pins σ Q) X.xe s := by
  refine wpAny_call (codeAny_mono (F.run X.A X.stack s H ⟨us, ks.zip ws⟩ (gg us ws) (gW vs zs) Q E hr hgd I.env0 (hb.to s us ws I.kIn (r.length.symm.trans l1) (rz.length.symm.trans l2)) (hb.rel r rz) h) fun z s' hq => ?_)
  match z, hq with
  | .error e, hq => exact hx pins H s e s' I hq
  | .ok (.ret u), hq => exact I.after hq
  | .ok .next, hq => exact False.elim hq
  | .ok .brk, hq => exact False.elim hq
  | .ok .cont, hq => exact False.elim hq

theorem pe_fkS (F : Pr g X.prog X.w X.K X.mg X.base k f d ps sp) (hr : Room k X.A) (hgd : Gd g X.A) (hg : Gl X x) (hm : X.mg x = some (.ref f)) (hb : Bd d ps n ks gV) (hx : Takes X W)
    (ha : PA X (e :: es) t) (hkw : PK X kws tk) (hall : (backToKw pos (keywordEach kws X.env)).all (·.1.isSome) = true := by rfl)
    (hks : (backToKw pos (keywordEach kws X.env)).filterMap (·.1) = ks := by rfl) (hdb : (x == ("__debug__" : Str)) = false := by decide)
    (he : starEach (e :: es) X.env = (false, eval e X.env) :: starEach es X.env := by rfl)
    (hpl : ((backTo pos (starEach (e :: es) X.env)).any (·.1) || (backToKw pos (keywordEach kws X.env)).any (·.1.isNone)) = false := by rfl) :
    PE X (.Call (.Name x p) (e :: es) kws pos) (zCallS X.K n ks.length gV sp W t tk) := by
  obtain ⟨fd, FD, OK⟩ := F.ex
  obtain ⟨gg, B⟩ := hb _ _ _ FD
  refine ⟨fun pins s σ H Q I h => ?_⟩
  refine wpAny_Call_Name_kw (ld_glob I hg hm ?_ hdb)
  refine PySem.W.callWith_KW (h₀ := X.base) I.ok.mod.kin FD.kp hall ?_ hpl he
  refine thn (ha.run pos pins s σ H _ I h) fun us s1 ⟨vs, H1, I1, r, q⟩ => ?_
  refine thn (hkw.run pos pins s1 σ H1 _ I1 q) fun ws s2 ⟨zs, H2, I2, rz, l1, l2, q2⟩ => ⟨I2.kIn, ?_⟩
  rw [hks]
  exact run_gS OK hr hgd B (passAt hx _) I2 r rz l1 l2 q2
theorem pe_fk0S (F : Pr g X.prog X.w X.K X.mg X.base k f d ps sp) (hr : Room k X.A) (hgd : Gd g X.A) (hg : Gl X x) (hm : X.mg x = some (.ref f)) (hb : Bd d ps n ks gV) (hx : Takes X W)
    (hkw : PK X kws tk) (hall : (backToKw pos (keywordEach kws X.env)).all (·.1.isSome) = true := by rfl)
    (hks : (backToKw pos (keywordEach kws X.env)).filterMap (·.1) = ks := by rfl) (hdb : (x == ("__debug__" : Str)) = false := by decide)
    (hpl : ((backTo pos (starEach [] X.env)).any (·.1) || (backToKw pos (keywordEach kws X.env)).any (·.1.isNone)) = false := by rfl) :
    PE X (.Call (.Name x p) [] kws pos) (zCallS X.K n ks.length gV sp W tNil tk) := by
  obtain ⟨fd, FD, OK⟩ := F.ex
  obtain ⟨gg, B⟩ := hb _ _ _ FD
  refine ⟨fun pins s σ H Q I h => ?_⟩
  refine wpAny_Call_Name_kw (ld_glob I hg hm ?_ hdb)
  refine PySem.W.callWith_KW0 (h₀ := X.base) I.ok.mod.kin FD.kp hall ?_ hpl
  refine thn (hkw.run pos pins s σ H _ I h) fun ws s2 ⟨zs, H2, I2, rz, l1, l2, q2⟩ => ⟨I2.kIn, ?_⟩
  rw [hks]
  exact run_gS (us := []) (vs := []) OK hr hgd B (passAt hx _) I2 .nil rz l1 l2 q2
theorem pe_fS (F : Pr g X.prog X.w X.K X.mg X.base k f d ps sp) (hr : Room k X.A) (hgd : Gd g X.A) (hg : Gl X x) (hm : X.mg x = some (.ref f)) (hb : Bd d ps n [] gV) (hx : Takes X W)
    (ha : PA X (e :: es) t) (hdb : (x == ("__debug__" : Str)) = false := by decide) (he : starEach (e :: es) X.env = (false, eval e X.env) :: starEach es X.env := by rfl)
    (hpl : (backTo pos (starEach es X.env)).any (·.1) = false := by rfl) : PE X (.Call (.Name x p) (e :: es) [] pos) (zCallS X.K n 0 gV sp W t tNil) := by
  obtain ⟨fd, FD, OK⟩ := F.ex
  obtain ⟨gg, B⟩ := hb _ _ _ FD
  refine ⟨fun pins s σ H Q I h => ?_⟩
  refine wpAny_Call_Name_kw (ld_glob I hg hm ?_ hdb)
  refine PySem.W.callWith_K (h₀ := X.base) I.ok.mod.kin FD.kp ?_ he hpl
  refine thn (ha.run pos pins s σ H _ I h) fun us s1 ⟨vs, H1, I1, r, l1, l2, q⟩ => ⟨I1.kIn, ?_⟩
  exact run_gS (ws := []) (zs := []) (ks := []) OK hr hgd B (passAt hx _) I1 r .nil l1 l2 q
theorem pe_f0S (F : Pr g X.prog X.w X.K X.mg X.base k f d ps sp) (hr : Room k X.A) (hgd : Gd g X.A) (hg : Gl X x) (hm : X.mg x = some (.ref f)) (hb : Bd d ps n [] gV) (hx : Takes X W)
    (hdb : (x == ("__debug__" : Str)) = false := by decide) : PE X (.Call (.Name x p) [] [] pos) (zCallS X.K n 0 gV sp W tNil tNil) := by
  obtain ⟨fd, FD, OK⟩ := F.ex
  obtain ⟨gg, B⟩ := hb _ _ _ FD
  refine ⟨fun pins s σ H Q I ⟨l1, l2, q⟩ => ?_⟩
  refine wpAny_Call_Name_kw (ld_glob I hg hm ?_ hdb)
  exact PySem.W.callWith_K0 I.kIn FD.kp (run_gS (us := []) (vs := []) (ws := []) (zs := []) (ks := []) OK hr hgd B (passAt hx _) I .nil .nil l1 l2 q)

theorem run_mkS {fd : FuncData} {gg : List Value → List Value → List Value} {gW : List V → List V → List V} {pins : List (Addr × Obj)} {σ : L2.St} {H : Hp} {s : Shared} {Q : VK} {us ws : List Value} {vs zs : List V}
    (M : L2.Mk X.K C f) (F : FnG g X.prog X.w X.K X.mg X.base k f fd ps sp) (hr : Room (k + 1) X.A) (hgd : Gd g X.A) (hb : KBn X.K fd ps n ks gg gW) (hx : PassesAt (L2.CX X.prog X.w) X σ E)
    (I : Inv X pins σ H s) (r : Vals vs us) (rz : Vals zs ws) (l1 : vs.length + 1 = n) (l2 : zs.length = ks.length)
    (h : ∀ x dx, H x = none → H dx = none → dx ≠ x → sp (gW (.ref x :: vs) zs) (upd (upd H dx (.own x)) x (.ins C dx [])) (fun v H2 => v = .non ∧ Q (.ref x) H2) E) :
    wpAny (model X.prog X.w) X.A (call (.ref C) us (ks.zip ws)) (EP X pins σ Q) X.xe s := by
  have q0 := h (s.heap.objs.size + 1) s.heap.objs.size (I.hok.fresh (Nat.le_succ _)) (I.hok.fresh (Nat.le_refl _)) (Nat.ne_of_lt (Nat.lt_succ_self _))
  have J := Inv.made (C := C) I
  have rs : Vals (V.ref (s.heap.objs.size + 1) :: vs) (Value.ref (s.heap.objs.size + 1) :: us) := .cons rfl r
  have ln : (Value.ref (s.heap.objs.size + 1) :: us).length = n := by rw [List.length_cons, ← r.length]; exact l1
  refine wpAny_call (make_map (f := f) I.kIn M.makes M.init (beq_iff_eq.mp M.fn) (codeAny_mono (F.run _ X.stack _ _ ⟨Value.ref (s.heap.objs.size + 1) :: us, ks.zip ws⟩ (gg (Value.ref (s.heap.objs.size + 1) :: us) ws) _ _ E
    (hr.make C us (ks.zip ws)) (hgd.make C us (ks.zip ws)) (J.env0.make C us (ks.zip ws)) (hb.to _ (Value.ref (s.heap.objs.size + 1) :: us) ws J.kIn ln (rz.length.symm.trans l2)) (hb.rel rs rz) q0) fun z s' hq => ?_))
  match z, hq with
  | .error e, hq => exact hx pins _ _ e s' J hq
  | .ok (.ret u), hq =>
    obtain ⟨v, H', I3, rv, ev, q3⟩ := J.after hq
    subst ev
    exact ⟨rv, ⟨V.ref (s.heap.objs.size + 1), H', I3, rfl, q3⟩⟩
  | .ok .next, hq => exact False.elim hq
  | .ok .brk, hq => exact False.elim hq
  | .ok .cont, hq => exact False.elim hq
section
variable (M : L2.Mk X.K C f) (F : Pr g X.prog X.w X.K X.mg X.base k f d ps sp) (hr : Room (k + 1) X.A) (hgd : Gd g X.A) (hg : Gl X x) (hm : X.mg x = some (.ref C)) (hx : Takes X W)
include M F hr hgd hg hm hx
theorem pe_newS (hb : Bd d ps n [] gV) (ha : PA X (e :: es) t) (hdb : (x == ("__debug__" : Str)) = false := by decide) (he : starEach (e :: es) X.env = (false, eval e X.env) :: starEach es X.env := by rfl)
    (hpl : (backTo pos (starEach es X.env)).any (·.1) = false := by rfl) : PE X (.Call (.Name x p) (e :: es) [] pos) (zMakeS X.K C n 0 gV sp W t tNil) := by
  obtain ⟨fd, FD, OK⟩ := F.ex
  obtain ⟨gg, B⟩ := hb _ _ _ FD
  refine ⟨fun pins s σ H Q I h => ?_⟩
  refine wpAny_Call_Name_kw (ld_glob I hg hm ?_ hdb)
  refine PySem.W.callWith_K (h₀ := X.base) I.ok.mod.kin M.kp ?_ he hpl
  refine thn (ha.run pos pins s σ H _ I h) fun us s1 ⟨vs, H1, I1, r, l1, l2, q⟩ => ⟨I1.kIn, ?_⟩
  exact run_mkS (ws := []) (zs := []) (ks := []) M OK hr hgd B (passAt hx _) I1 r .nil l1 l2 q
theorem pe_new0S (hb : Bd d ps n [] gV) (hdb : (x == ("__debug__" : Str)) = false := by decide) : PE X (.Call (.Name x p) [] [] pos) (zMakeS X.K C n 0 gV sp W tNil tNil) := by
  obtain ⟨fd, FD, OK⟩ := F.ex
  obtain ⟨gg, B⟩ := hb _ _ _ FD
  refine ⟨fun pins s σ H Q I ⟨l1, l2, q⟩ => ?_⟩
  refine wpAny_Call_Name_kw (ld_glob I hg hm ?_ hdb)
  exact PySem.W.callWith_K0 I.kIn M.kp (run_mkS (us := []) (vs := []) (ws := []) (zs := []) (ks := []) M OK hr hgd B (passAt hx _) I .nil .nil l1 l2 q)
theorem pe_newkS (hb : Bd d ps n ks gV) (ha : PA X (e :: es) t) (hkw : PK X kws tk)
    (hall : (backToKw pos (keywordEach kws X.env)).all (·.1.isSome) = true := by rfl) (hks : (backToKw pos (keywordEach kws X.env)).filterMap (·.1) = ks := by rfl) (hdb : (x == ("__debug__" : Str)) = false := by decide)
    (he : starEach (e :: es) X.env = (false, eval e X.env) :: starEach es X.env := by rfl)
    (hpl : ((backTo pos (starEach (e :: es) X.env)).any (·.1) || (backToKw pos (keywordEach kws X.env)).any (·.1.isNone)) = false := by rfl) :
    PE X (.Call (.Name x p) (e :: es) kws pos) (zMakeS X.K C n ks.length gV sp W t tk) := by
  obtain ⟨fd, FD, OK⟩ := F.ex
  obtain ⟨gg, B⟩ := hb _ _ _ FD
  refine ⟨fun pins s σ H Q I h => ?_⟩
  refine wpAny_Call_Name_kw (ld_glob I hg hm ?_ hdb)
  refine PySem.W.callWith_KW (h₀ := X.base) I.ok.mod.kin M.kp hall ?_ hpl he
  refine thn (ha.run pos pins s σ H _ I h) fun us s1 ⟨vs, H1, I1, r, q⟩ => ?_
  refine thn (hkw.run pos pins s1 σ H1 _ I1 q) fun ws s2 ⟨zs, H2, I2, rz, l1, l2, q2⟩ => ⟨I2.kIn, ?_⟩
  rw [hks]
  exact run_mkS M OK hr hgd B (passAt hx _) I2 r rz l1 l2 q2
theorem pe_newk0S (hb : Bd d ps n ks gV) (hkw : PK X kws tk)
    (hall : (backToKw pos (keywordEach kws X.env)).all (·.1.isSome) = true := by rfl) (hks : (backToKw pos (keywordEach kws X.env)).filterMap (·.1) = ks := by rfl) (hdb : (x == ("__debug__" : Str)) = false := by decide)
    (hpl : ((backTo pos (starEach [] X.env)).any (·.1) || (backToKw pos (keywordEach kws X.env)).any (·.1.isNone)) = false := by rfl) :
    PE X (.Call (.Name x p) [] kws pos) (zMakeS X.K C n ks.length gV sp W tNil tk) := by
  obtain ⟨fd, FD, OK⟩ := F.ex
  obtain ⟨gg, B⟩ := hb _ _ _ FD
  refine ⟨fun pins s σ H Q I h => ?_⟩
  refine wpAny_Call_Name_kw (ld_glob I hg hm ?_ hdb)
  refine PySem.W.callWith_KW0 (h₀ := X.base) I.ok.mod.kin M.kp hall ?_ hpl
  refine thn (hkw.run pos pins s σ H _ I h) fun ws s2 ⟨zs, H2, I2, rz, l1, l2, q2⟩ => ⟨I2.kIn, ?_⟩
  rw [hks]
  exact run_mkS (us := []) (vs := []) M OK hr hgd B (passAt hx _) I2 .nil rz l1 l2 q2
end
theorem pe_MS {pl : Sem Bool} (hM : ∀ M ∈ Ms, MtM g X m [] M) (hx : Takes X W) (he : PE X o ta) (ha : PA X (e :: es) t)
    (hst : starEach (e :: es) X.env = (false, eval e X.env) :: starEach es X.env := by rfl) (hpl : (backTo pos (starEach es X.env)).any (·.1) = false := by rfl)
    (ht : eval (.Call (.Attribute o m apos) (e :: es) [] pos) X.env = (do
      let ov ← eval o X.env; standAt apos.atName
      let (f, first) ← holding [ov] (getMethod ov m pl); callWith pos f first (backTo pos (starEach (e :: es) X.env)) (backToKw pos (keywordEach [] X.env))) := by rfl) :
    PE X (.Call (.Attribute o m apos) (e :: es) [] pos) (zMS X.K m 0 W Ms ta t tNil) := by
  refine ⟨fun pins s σ H Q I h => ?_⟩
  refine PySem.W.methodCall_KW (pl := pl) (thn (he.run pins s σ H _ I h) fun u s1 ⟨x, H1, I1, rx, M, a, dx, fs, hm0, ex, ea, l, q⟩ => ?_) ht
  subst ex
  obtain rfl : u = Value.ref a := rx
  have M1 := hM M hm0
  obtain ⟨k, f, d, ps, hm, F, hb, hr, hgd⟩ := M1.ex
  obtain ⟨fd, FD, OK⟩ := F.ex
  obtain ⟨gg, B⟩ := hb _ _ _ FD
  refine getmeth_ok I1 ea M1.cl hm l ?_
  refine PySem.W.callWith_K (first := [.ref a]) (h₀ := X.base) I.ok.mod.kin hm.kp ?_ hst hpl
  refine thn (ha.run pos pins s1 σ H1 _ I1 q) fun us s2 ⟨vs, H2, I2, r, l1, l2, q2⟩ => ⟨I2.kIn, ?_⟩
  exact run_gS (us := .ref a :: us) (vs := .ref a :: vs) (ws := []) (zs := []) (ks := []) OK hr hgd B (passAt hx _) I2 (.cons rfl r) .nil l1 l2 q2
theorem pe_M0S {pl : Sem Bool} (hM : ∀ M ∈ Ms, MtM g X m [] M) (hx : Takes X W) (he : PE X o ta)
    (ht : eval (.Call (.Attribute o m apos) [] [] pos) X.env = (do
      let ov ← eval o X.env; standAt apos.atName
      let (f, first) ← holding [ov] (getMethod ov m pl); callWith pos f first (backTo pos (starEach [] X.env)) (backToKw pos (keywordEach [] X.env))) := by rfl) :
    PE X (.Call (.Attribute o m apos) [] [] pos) (zMS X.K m 0 W Ms ta tNil tNil) := by
  refine ⟨fun pins s σ H Q I h => ?_⟩
  refine PySem.W.methodCall_KW (pl := pl) (thn (he.run pins s σ H _ I h) fun u s1 ⟨x, H1, I1, rx, M, a, dx, fs, hm0, ex, ea, l, l1, l2, q⟩ => ?_) ht
  subst ex
  obtain rfl : u = Value.ref a := rx
  have M1 := hM M hm0
  obtain ⟨k, f, d, ps, hm, F, hb, hr, hgd⟩ := M1.ex
  obtain ⟨fd, FD, OK⟩ := F.ex
  obtain ⟨gg, B⟩ := hb _ _ _ FD
  refine getmeth_ok I1 ea M1.cl hm l ?_
  exact PySem.W.callWith_K0 (first := [.ref a]) I1.kIn hm.kp (run_gS (us := [.ref a]) (vs := [.ref a]) (ws := []) (zs := []) (ks := []) OK hr hgd B (passAt hx _) I1 (.cons rfl .nil) .nil l1 l2 q)
theorem pe_MkS {pl : Sem Bool} (hM : ∀ M ∈ Ms, MtM g X m ks M) (hx : Takes X W) (he : PE X o ta) (ha : PA X (e :: es) t) (hkw : PK X kws tk)
    (hall : (backToKw pos (keywordEach kws X.env)).all (·.1.isSome) = true := by rfl) (hks : (backToKw pos (keywordEach kws X.env)).filterMap (·.1) = ks := by rfl)
    (hst : starEach (e :: es) X.env = (false, eval e X.env) :: starEach es X.env := by rfl)
    (hpl : ((backTo pos (starEach (e :: es) X.env)).any (·.1) || (backToKw pos (keywordEach kws X.env)).any (·.1.isNone)) = false := by rfl)
    (ht : eval (.Call (.Attribute o m apos) (e :: es) kws pos) X.env = (do
      let ov ← eval o X.env; standAt apos.atName
      let (f, first) ← holding [ov] (getMethod ov m pl); callWith pos f first (backTo pos (starEach (e :: es) X.env)) (backToKw pos (keywordEach kws X.env))) := by rfl) :
    PE X (.Call (.Attribute o m apos) (e :: es) kws pos) (zMS X.K m ks.length W Ms ta t tk) := by
  refine ⟨fun pins s σ H Q I h => ?_⟩
  refine PySem.W.methodCall_KW (pl := pl) (thn (he.run pins s σ H _ I h) fun u s1 ⟨x, H1, I1, rx, M, a, dx, fs, hm0, ex, ea, l, q⟩ => ?_) ht
  subst ex
  obtain rfl : u = Value.ref a := rx
  have M1 := hM M hm0
  obtain ⟨k, f, d, ps, hm, F, hb, hr, hgd⟩ := M1.ex
  obtain ⟨fd, FD, OK⟩ := F.ex
  obtain ⟨gg, B⟩ := hb _ _ _ FD
  refine getmeth_ok I1 ea M1.cl hm l ?_
  refine PySem.W.callWith_KW (first := [.ref a]) (h₀ := X.base) I.ok.mod.kin hm.kp hall ?_ hpl hst
  refine thn (ha.run pos pins s1 σ H1 _ I1 q) fun us s2 ⟨vs, H2, I2, r, q2⟩ => ?_
  refine thn (hkw.run pos pins s2 σ H2 _ I2 q2) fun ws s3 ⟨zs, H3, I3, rz, l1, l2, q3⟩ => ⟨I3.kIn, ?_⟩
  rw [hks]
  exact run_gS (us := .ref a :: us) (vs := .ref a :: vs) OK hr hgd B (passAt hx _) I3 (.cons rfl r) rz l1 l2 q3
theorem pe_Mk0S {pl : Sem Bool} (hM : ∀ M ∈ Ms, MtM g X m ks M) (hx : Takes X W) (he : PE X o ta) (hkw : PK X kws tk)
    (hall : (backToKw pos (keywordEach kws X.env)).all (·.1.isSome) = true := by rfl) (hks : (backToKw pos (keywordEach kws X.env)).filterMap (·.1) = ks := by rfl)
    (hpl : ((backTo pos (starEach [] X.env)).any (·.1) || (backToKw pos (keywordEach kws X.env)).any (·.1.isNone)) = false := by rfl)
    (ht : eval (.Call (.Attribute o m apos) [] kws pos) X.env = (do
      let ov ← eval o X.env; standAt apos.atName
      let (f, first) ← holding [ov] (getMethod ov m pl); callWith pos f first (backTo pos (starEach [] X.env)) (backToKw pos (keywordEach kws X.env))) := by rfl) :
    PE X (.Call (.Attribute o m apos) [] kws pos) (zMS X.K m ks.length W Ms ta tNil tk) := by
  refine ⟨fun pins s σ H Q I h => ?_⟩
  refine PySem.W.methodCall_KW (pl := pl) (thn (he.run pins s σ H _ I h) fun u s1 ⟨x, H1, I1, rx, M, a, dx, fs, hm0, ex, ea, l, q⟩ => ?_) ht
  subst ex
  obtain rfl : u = Value.ref a := rx
  have M1 := hM M hm0
  obtain ⟨k, f, d, ps, hm, F, hb, hr, hgd⟩ := M1.ex
  obtain ⟨fd, FD, OK⟩ := F.ex
  obtain ⟨gg, B⟩ := hb _ _ _ FD
  refine getmeth_ok I1 ea M1.cl hm l ?_
  refine PySem.W.callWith_KW0 (first := [.ref a]) (h₀ := X.base) I.ok.mod.kin hm.kp hall ?_ hpl
  refine thn (hkw.run pos pins s1 σ H1 _ I1 q) fun ws s3 ⟨zs, H3, I3, rz, l1, l2, q3⟩ => ⟨I3.kIn, ?_⟩
  rw [hks]
  exact run_gS (us := [.ref a]) (vs := [.ref a]) OK hr hgd B (passAt hx _) I3 (.cons rfl .nil) rz l1 l2 q3

theorem pe_MKS {pl : Sem Bool} (K : PySem.W.Frag) (h : X.K = K) (hM : ∀ M ∈ Ms, MtM g X m [] M) (hx : Takes X W) (he : PE X o ta) (ha : PA X (e :: es) t)
    (hst : starEach (e :: es) X.env = (false, eval e X.env) :: starEach es X.env := by rfl) (hpl : (backTo pos (starEach es X.env)).any (·.1) = false := by rfl)
    (ht : eval (.Call (.Attribute o m apos) (e :: es) [] pos) X.env = (do
      let ov ← eval o X.env; standAt apos.atName
      let (f, first) ← holding [ov] (getMethod ov m pl); callWith pos f first (backTo pos (starEach (e :: es) X.env)) (backToKw pos (keywordEach [] X.env))) := by rfl) :
    PE X (.Call (.Attribute o m apos) (e :: es) [] pos) (zMS K m 0 W Ms ta t tNil) := h ▸ pe_MS hM hx he ha hst hpl ht
theorem pe_M0KS {pl : Sem Bool} (K : PySem.W.Frag) (h : X.K = K) (hM : ∀ M ∈ Ms, MtM g X m [] M) (hx : Takes X W) (he : PE X o ta)
    (ht : eval (.Call (.Attribute o m apos) [] [] pos) X.env = (do
      let ov ← eval o X.env; standAt apos.atName
      let (f, first) ← holding [ov] (getMethod ov m pl); callWith pos f first (backTo pos (starEach [] X.env)) (backToKw pos (keywordEach [] X.env))) := by rfl) :
    PE X (.Call (.Attribute o m apos) [] [] pos) (zMS K m 0 W Ms ta tNil tNil) := h ▸ pe_M0S hM hx he ht
theorem pe_MkKS {pl : Sem Bool} (K : PySem.W.Frag) (h : X.K = K) (hM : ∀ M ∈ Ms, MtM g X m ks M) (hx : Takes X W) (he : PE X o ta) (ha : PA X (e :: es) t) (hkw : PK X kws tk)
    (hall : (backToKw pos (keywordEach kws X.env)).all (·.1.isSome) = true := by rfl) (hks : (backToKw pos (keywordEach kws X.env)).filterMap (·.1) = ks := by rfl)
    (hst : starEach (e :: es) X.env = (false, eval e X.env) :: starEach es X.env := by rfl)
    (hpl : ((backTo pos (starEach (e :: es) X.env)).any (·.1) || (backToKw pos (keywordEach kws X.env)).any (·.1.isNone)) = false := by rfl)
    (ht : eval (.Call (.Attribute o m apos) (e :: es) kws pos) X.env = (do
      let ov ← eval o X.env; standAt apos.atName
      let (f, first) ← holding [ov] (getMethod ov m pl); callWith pos f first (backTo pos (starEach (e :: es) X.env)) (backToKw pos (keywordEach kws X.env))) := by rfl) :
    PE X (.Call (.Attribute o m apos) (e :: es) kws pos) (zMS K m ks.length W Ms ta t tk) := h ▸ pe_MkS hM hx he ha hkw hall hks hst hpl ht
theorem pe_Mk0KS {pl : Sem Bool} (K : PySem.W.Frag) (h : X.K = K) (hM : ∀ M ∈ Ms, MtM g X m ks M) (hx : Takes X W) (he : PE X o ta) (hkw : PK X kws tk)
    (hall : (backToKw pos (keywordEach kws X.env)).all (·.1.isSome) = true := by rfl) (hks : (backToKw pos (keywordEach kws X.env)).filterMap (·.1) = ks := by rfl)
    (hpl : ((backTo pos (starEach [] X.env)).any (·.1) || (backToKw pos (keywordEach kws X.env)).any (·.1.isNone)) = false := by rfl)
    (ht : eval (.Call (.Attribute o m apos) [] kws pos) X.env = (do
      let ov ← eval o X.env; standAt apos.atName
      let (f, first) ← holding [ov] (getMethod ov m pl); callWith pos f first (backTo pos (starEach [] X.env)) (backToKw pos (keywordEach kws X.env))) := by rfl) :
    PE X (.Call (.Attribute o m apos) [] kws pos) (zMS K m ks.length W Ms ta tNil tk) := h ▸ pe_Mk0S hM hx he hkw hall hks hpl ht

theorem pe_VS (K : PySem.W.Frag) (hK : X.K = K) (hF : ∀ M ∈ Fs, FtM g X [] M) (hx : Takes X W) (he : PE X o tf) (ha : PA X (e :: es) t)
    (hst : starEach (e :: es) X.env = (false, eval e X.env) :: starEach es X.env := by rfl) (hpl : (backTo pos (starEach es X.env)).any (·.1) = false := by rfl)
    (ht : eval (.Call o (e :: es) [] pos) X.env = (do callWith pos (← eval o X.env) [] (backTo pos (starEach (e :: es) X.env)) (backToKw pos (keywordEach [] X.env))) := by rfl) :
    PE X (.Call o (e :: es) [] pos) (zVS K 0 W Fs tf t tNil) := by
  subst hK
  refine ⟨fun pins s σ H Q I h => ?_⟩
  refine Call_ (thn (he.run pins s σ H _ I h) fun u s1 ⟨x, H1, I1, rx, M, hm, ex, q⟩ => ?_) ht
  subst ex
  obtain rfl : u = Value.ref M.f := rx
  obtain ⟨k, d, ps, F, hb, hr, hgd⟩ := hF M hm
  obtain ⟨fd, FD, OK⟩ := F.ex
  obtain ⟨gg, B⟩ := hb _ _ _ FD
  refine PySem.W.callWith_K (h₀ := X.base) I.ok.mod.kin FD.kp ?_ hst hpl
  refine thn (ha.run pos pins s1 σ H1 _ I1 q) fun us s2 ⟨vs, H2, I2, r, l1, l2, q2⟩ => ⟨I2.kIn, ?_⟩
  exact run_gS (ws := []) (zs := []) (ks := []) OK hr hgd B (passAt hx _) I2 r .nil l1 l2 q2
end
/-! readings -/
section
variable {K : PySem.W.Frag} {m : Str} {n kn mn : Nat} {gV : PySem.W.Frag → List V → List V → List V} {sp : Sp} {W : WX} {Ms : List MA} {Fs : List FAx} {ta tf : TE} {t tk : TA} {σ : L2.St} {H : Hp} {Q : VK} {a dx C f : Addr} {fs : List (Str × V)}
theorem i_callS (h : t σ H fun vs H1 => tk σ H1 fun zs H2 => vs.length = n ∧ zs.length = mn ∧ sp (gV K vs zs) H2 Q (WE W σ)) : zCallS K n mn gV sp W t tk σ H Q := h
theorem i_MS (h : ta σ H fun x H1 => zM1S K m kn W Ms t tk x σ H1 Q) : zMS K m kn W Ms ta t tk σ H Q := h
theorem i_MiS (i : Nat) {M : MA} (h : H a = some (.ins M.C dx fs)) (l : fs.lookup m = none) (hi : Ms[i]? = some M)
    (q : t σ H fun vs H2 => tk σ H2 fun zs H3 => (V.ref a :: vs).length = M.n ∧ zs.length = kn ∧ M.sp (M.gV K (.ref a :: vs) zs) H3 Q (WE W σ)) : zM1S K m kn W Ms t tk (.ref a) σ H Q :=
  ⟨M, a, dx, fs, List.mem_of_getElem? hi, rfl, h, l, q⟩
theorem i_VS (h : tf σ H fun x H1 => zV1S K kn W Fs t tk x σ H1 Q) : zVS K kn W Fs tf t tk σ H Q := h
theorem i_ViS (i : Nat) {M : FAx} (hi : Fs[i]? = some M) (q : t σ H fun vs H2 => tk σ H2 fun zs H3 => vs.length = M.n ∧ zs.length = kn ∧ M.sp (M.gV K vs zs) H3 Q (WE W σ)) : zV1S K kn W Fs t tk (.ref M.f) σ H Q :=
  ⟨M, List.mem_of_getElem? hi, rfl, q⟩
def zMk1S (K : PySem.W.Frag) (C : Addr) (n m : Nat) (gV : PySem.W.Frag → List V → List V → List V) (sp : Sp) (W : WX) (σ : L2.St) (vs zs : List V) (H2 : Hp) (Q : VK) : Prop :=
  vs.length + 1 = n ∧ zs.length = m ∧ ∀ x dx H3, Made H2 x dx C H3 → sp (gV K (.ref x :: vs) zs) H3 (fun v H4 => v = .non ∧ Q (.ref x) H4) (WE W σ)
theorem i_makeS (h : t σ H fun vs H1 => tk σ H1 fun zs H2 => zMk1S K C n mn gV sp W σ vs zs H2 Q) : zMakeS K C n mn gV sp W t tk σ H Q := by
  show t σ H _
  refine cast (congrArg (t σ H) (funext fun vs => funext fun H1 => congrArg (tk σ H1) (funext fun zs => funext fun H2 => propext ⟨?_, ?_⟩))) h
  · rintro ⟨a, b, c⟩
    exact ⟨a, b, fun x dx f1 f2 ne => c x dx _ ⟨f1, f2, ne, rfl⟩⟩
  · rintro ⟨a, b, c⟩
    exact ⟨a, b, fun x dx H3 z => z.eq ▸ c x dx z.fr z.fd z.ne⟩
theorem i_mk1S {vs zs : List V} (e1 : vs.length + 1 = n) (e2 : zs.length = mn) (h : ∀ x dx H3, Made H x dx C H3 → sp (gV K (.ref x :: vs) zs) H3 (fun v H4 => v = .non ∧ Q (.ref x) H4) (WE W σ)) : zMk1S K C n mn gV sp W σ vs zs H Q := ⟨e1, e2, h⟩
end
/-- a def's own way out -/
abbrev wo (E : XK) : WX := fun cls d _ H => E cls d H
/-! ### raise -/
def VE : List Value := [.type "ValueError", .type "Exception", .type "BaseException", .type "object"]
def RE : List Value := [.type "RuntimeError", .type "Exception", .type "BaseException", .type "object"]
/-- X may be raised: a class without own __init__, over ValueError -/
def fxExc (x : Str) : Fx := fun K => PySem.W.excIn K (He.ga K x) VE "ValueError.__new__" && (PySem.W.keepIn K (.ref (He.ga K x)) && (decide (PySem.W.subIn K (.ref (He.ga K x)) (.type "BaseException") = some true) && decide (PySem.W.typeIn K (.ref (He.ga K x)) = some (.type "type"))))
def fxExcR (x : Str) : Fx := fun K => PySem.W.excIn K (He.ga K x) RE "RuntimeError.__new__" && (PySem.W.keepIn K (.ref (He.ga K x)) && (decide (PySem.W.subIn K (.ref (He.ga K x)) (.type "BaseException") = some true) && decide (PySem.W.typeIn K (.ref (He.ga K x)) = some (.type "type"))))
def zRaise (t : L2.St → Hp → XK → Prop) (W : WX) : TZ := fun _ _ _ _ σ H => t σ H fun cls d H' => W cls d σ H'
def mkOwn (C : Addr) : L2.St → Hp → XK → Prop := fun _ H Q => Q (.ref C) none H
section
variable {X : Cx} {W : WX} {x m : Str} {j : Nat} {p p2 pos pos2 : Pos} {C : Addr}
theorem z_raise0 (hc : X.calm = true) (tk : Takes X W) (f : fxExc x X.K = true) (gC : X.mg x = some (.ref (He.ga X.K x))) (hg : Gl X x) (hdb : (x == ("__debug__" : Str)) = false := by decide) :
    PS X (.Raise (some (.Call (.Name x p) [.Constant (.str m) j p2] [] pos)) none pos2) (zS (zRaise (mkOwn (He.ga X.K x)) W)) := by
  obtain ⟨f1, f⟩ := He.ba f
  obtain ⟨f2, f⟩ := He.ba f
  obtain ⟨f3, f4⟩ := He.ba f
  exact ps_raise hc tk (pmk_own PySem.F.excBase_ValueError f1 gC f2 (raises_own (of_decide_eq_true f3) (of_decide_eq_true f4)) hg hdb)
theorem z_raise0R (hc : X.calm = true) (tk : Takes X W) (f : fxExcR x X.K = true) (gC : X.mg x = some (.ref (He.ga X.K x))) (hg : Gl X x) (hdb : (x == ("__debug__" : Str)) = false := by decide) :
    PS X (.Raise (some (.Call (.Name x p) [.Constant (.str m) j p2] [] pos)) none pos2) (zS (zRaise (mkOwn (He.ga X.K x)) W)) := by
  obtain ⟨f1, f⟩ := He.ba f
  obtain ⟨f2, f⟩ := He.ba f
  obtain ⟨f3, f4⟩ := He.ba f
  exact ps_raise hc tk (pmk_own PySem.F.excBase_RuntimeError f1 gC f2 (raises_own (of_decide_eq_true f3) (of_decide_eq_true f4)) hg hdb)
theorem i_raise0 {nx bk ct : L2.St → Hp → Prop} {rt : VK} {σ : L2.St} {H : Hp} (h : W (.ref C) none σ H) : zRaise (mkOwn C) W nx rt bk ct σ H := h
end
/-! ### try .. except X as e -/
def zTryAs (K : PySem.W.Frag) (c : Value) (i : Nat) (tb : WX → TZ) (ts : Addr → Value → Option Addr → TZ) (Wout : WX) : TZ := fun nx rt bk ct σ H =>
  tb (wAs K c i (fun a cls d => zS (ts a cls d)) Wout ⟨nx, rt, bk, ct⟩) nx rt bk ct σ H
section
variable {X : Cx} {x n : Str} {c : Value} {i : Nat} {body suite : List Stmt} {b₀ : Stmt} {np pos pos' : Pos} {tb : WX → TZ} {ts : Addr → Value → Option Addr → TZ} {Wout : WX}
theorem z_try_as (hs : X.stack = X.env :: X.outer) (hf : X.env.frame = some X.env.locals) (hN : X.N.Nodup) (hi : X.N[i]? = some n) (hln : X.env.kindOf n = some .local) (hc : Names X x c) (tk : Takes X Wout)
    (hb : ∀ (W : WX) (pn : List (Addr × Obj)) (xe : Value → Shared → Prop), Takes (X.tr pn xe) W → PassesOwn (model X.prog X.w) X.A X.env xe → PSs (X.tr pn xe) body (zS (tb W)))
    (hsu : ∀ (a : Addr) (oe : Obj) (cls : Value) (d : Option Addr) (pn : List (Addr × Obj)), Zc cls d oe → (∃ vs, oe.data = .fields vs) → PSs (X.suite a ((a, oe) :: pn)) (b₀ :: suite) (zS (ts a cls d))) :
    PS X (.Try body [.ExceptHandler (some (.Name x np)) (some n) (b₀ :: suite) pos'] [] [] pos) (zS (zTryAs X.K c i tb ts Wout)) :=
  ps_try_as (tb := fun W => zS (tb W)) (ts := fun a cls d => zS (ts a cls d)) hs hf hN hi hln hc tk hb hsu
theorem names_g {X : Cx} {x : Str} {c : Value} (hg : Gl X x) (h : X.mg x = some c) (hd : (x == ("__debug__" : Str)) = false := by decide) : Names X x c := ⟨hg, hd, .inl h⟩
end
section
variable {K : PySem.W.Frag} {c cls : Value} {i : Nat} {tb : WX → TZ} {ts : Addr → Value → Option Addr → TZ} {Wout : WX} {nx bk ct : L2.St → Hp → Prop} {rt : VK} {σ : L2.St} {H : Hp} {d : Option Addr}
theorem i_tryAs (h : tb (wAs K c i (fun a cls d => zS (ts a cls d)) Wout ⟨nx, rt, bk, ct⟩) nx rt bk ct σ H) : zTryAs K c i tb ts Wout nx rt bk ct σ H := h
/-- caught -/
theorem i_catch (e : PySem.W.exmOne K cls c = some true) (h : ∀ a, H a = none → ts a cls d (fun σ' H' => nx (σ'.set i none) H') rt (fun σ' H' => bk (σ'.set i none) H') (fun σ' H' => ct (σ'.set i none) H') (σ.set i (some (.ref a))) H) :
    wAs K c i (fun a cls d => zS (ts a cls d)) Wout ⟨nx, rt, bk, ct⟩ cls d σ H := ⟨true, e, fun _ => h, fun z => by cases z⟩
theorem i_miss (e : PySem.W.exmOne K cls c = some false) (h : Wout cls d σ H) : wAs K c i (fun a cls d => zS (ts a cls d)) Wout ⟨nx, rt, bk, ct⟩ cls d σ H := ⟨false, e, (fun z => by cases z), fun _ => h⟩
end
def fxExm (x c : Str) (b : Bool) : Fx := fun K => decide (PySem.W.exmOne K (.ref (He.ga K x)) (.ref (He.ga K c)) = some b)
theorem fxExm_ok {K : PySem.W.Frag} {x c : Str} {b : Bool} (h : fxExm x c b K = true) : PySem.W.exmOne K (.ref (He.ga K x)) (.ref (He.ga K c)) = some b := of_decide_eq_true h
/-! ### isinstance of what is caught -/
structure ExC (K : PySem.W.Frag) (D : Addr) : Prop where
  hcl : (PySem.W.clsIn K D).isSome = true
  hga : PySem.W.findIn K (.ref D) "__getattribute__" = some (some (.builtin "BaseException.__getattribute__"))
  hgt : PySem.W.findIn K (.ref D) "__getattr__" = some none
  hsub : PySem.W.subIn K (.ref D) (.type "BaseException") = some true
  ha : PySem.W.findIn K (.ref D) "__class__" = some (some (.builtin "object.__class__"))
  hn : PySem.W.specialIn K (.builtin "object.__class__") "__get__" = some (some (.builtin "getset_descriptor.__get__"))
  htk : PySem.W.takesIn K (.builtin "object.__class__") = some true
  hm : PySem.W.mroIn K D (.type "object") = some true
def fxExC (x : Str) : Fx := fun K => (PySem.W.clsIn K (He.ga K x)).isSome && (He.eqO (PySem.W.findIn K (.ref (He.ga K x)) "__getattribute__") (some (some (.builtin "BaseException.__getattribute__"))) && (He.eqO (PySem.W.findIn K (.ref (He.ga K x)) "__getattr__") (some none) &&
  (decide (PySem.W.subIn K (.ref (He.ga K x)) (.type "BaseException") = some true) && (He.eqO (PySem.W.findIn K (.ref (He.ga K x)) "__class__") (some (some (.builtin "object.__class__"))) &&
  (He.eqO (PySem.W.specialIn K (.builtin "object.__class__") "__get__") (some (some (.builtin "getset_descriptor.__get__"))) && (decide (PySem.W.takesIn K (.builtin "object.__class__") = some true) && decide (PySem.W.mroIn K (He.ga K x) (.type "object") = some true)))))))
theorem fxExC_ok {K : PySem.W.Frag} {x : Str} (h : fxExC x K = true) : ExC K (He.ga K x) := by
  obtain ⟨c1, h⟩ := He.ba h
  obtain ⟨c2, h⟩ := He.ba h
  obtain ⟨c3, h⟩ := He.ba h
  obtain ⟨c4, h⟩ := He.ba h
  obtain ⟨c5, h⟩ := He.ba h
  obtain ⟨c6, h⟩ := He.ba h
  obtain ⟨c7, c8⟩ := He.ba h
  exact ⟨c1, He.eqO_ok c2, He.eqO_ok c3, of_decide_eq_true c4, He.eqO_ok c5, He.eqO_ok c6, of_decide_eq_true c7, of_decide_eq_true c8⟩
/-- the exception's dict, if any, stands -/
def DOk (d : Option Addr) (H : Hp) : Prop := d = none ∨ ∃ dd fs, d = some dd ∧ H dd = some (.xd fs)
def rIsE (K : PySem.W.Frag) (cls : Value) (d : Option Addr) (a : Addr) : List V → Hp → VK → Prop := fun xs H Q => ∃ (D : Addr) (c : V) (cv : Value) (b : Bool), xs = [.ref a, c] ∧ cls = .ref D ∧ ExC K D ∧ DOk d H ∧ ClsV c cv ∧ PySem.W.kitOne K (.ref D) cv = some b ∧ Q (.bl b) H
def rIsET (K : PySem.W.Frag) (cls : Value) (d : Option Addr) (a : Addr) : List V → Hp → VK → Prop := fun xs H Q => ∃ (D tp : Addr) (cs : List V) (us : List Value) (b : Bool), xs = [.ref a, .ref tp] ∧ cls = .ref D ∧ ExC K D ∧ DOk d H ∧ H tp = some (.tup cs) ∧ Paired ClsV cs us ∧ PySem.W.kitAny K (.ref D) us = some b ∧ Q (.bl b) H
section
variable {X : Cx} {a : Addr} {oe : Obj} {cls : Value} {d : Option Addr} {pn : List (Addr × Obj)}
theorem inst_of {D : Addr} {pins : List (Addr × Obj)} {σ : L2.St} {H : Hp} {s : Shared} (I : Inv (X.suite a ((a, oe) :: pn)) pins σ H s) (hz : Zc (.ref D) d oe) (hf : ∃ vs, oe.data = .fields vs) (hd : DOk d H) : ∃ od, PySem.W.InstAt s.heap a oe D od := by
  obtain ⟨hget, _⟩ := I.pin (a, oe) (List.mem_append.mpr (.inl List.mem_cons_self))
  obtain ⟨vs, hv⟩ := hf
  have no : PySem.W.notCls oe = true := by unfold PySem.W.notCls; rw [hv] <;> rfl
  rcases hd with rfl | ⟨dd, fs, rfl, e⟩
  · exact ⟨none, hget, hz.1, no, by rw [hz.2]; trivial⟩
  · have hx : ObjOk X.prog X.w H s.heap dd (.xd fs) := I.hok dd _ e
    obtain ⟨mA, hns, hr⟩ := hx
    obtain ⟨od, ho, hl⟩ := lookIn_ns hns
    exact ⟨some od, hget, hz.1, no, by rw [hz.2]; exact ho⟩
theorem cisiE (K : PySem.W.Frag) (hK : X.K = K) (hz : Zc cls d oe) (hf : ∃ vs, oe.data = .fields vs) : CallR (X.suite a ((a, oe) :: pn)) (.builtin "isinstance") (rIsE K cls d a) := by
  subst hK
  intro pins s σ H xs us Q I r h
  obtain ⟨D, c, cv, b, rfl, rfl, C, hd, hc, e, q⟩ := h
  obtain ⟨u1, u2, rfl, r1, r2⟩ := vals2 r
  have e2 := hc.eq r2
  subst e2
  obtain rfl : u1 = Value.ref a := r1
  obtain ⟨od, J⟩ := inst_of I hz hf hd
  exact PySem.W.kia_one (PySem.W.kitx_exc C.hcl C.hga C.hgt C.hsub C.ha C.hn C.htk C.hm) I.kIn J e (fun z => nomatch z) fun tk => ⟨.bl b, H, I.kept (t' := tk) fun _ _ z => z, rfl, q⟩
theorem cisiET (K : PySem.W.Frag) (hK : X.K = K) (hz : Zc cls d oe) (hf : ∃ vs, oe.data = .fields vs) : CallR (X.suite a ((a, oe) :: pn)) (.builtin "isinstance") (rIsET K cls d a) := by
  subst hK
  intro pins s σ H xs us Q I r h
  obtain ⟨D, tp, cs, cus, b, rfl, rfl, C, hd, ht, hc, e, q⟩ := h
  obtain ⟨u1, u2, rfl, r1, r2⟩ := vals2 r
  obtain rfl : u1 = Value.ref a := r1
  obtain rfl : u2 = Value.ref tp := r2
  obtain ⟨od, J⟩ := inst_of I hz hf hd
  obtain ⟨its, rv, ⟨⟨cls', dd, data, sl⟩, ho, hcc, n, hdd⟩, hs⟩ := I.tuple (SqT.of ht)
  simp only at hcc hdd
  subst hcc hdd
  obtain rfl := ClsV.all hc rv
  exact PySem.W.kia_tup (PySem.W.kitx_exc C.hcl C.hga C.hgt C.hsub C.ha C.hn C.htk C.hm) I.kIn J ho e (fun z => nomatch z) fun tk => ⟨.bl b, H, I.kept (t' := tk) fun _ _ z => z, rfl, q⟩
end
section
variable {K : PySem.W.Frag} {a D T : Addr} {cls : Value} {d : Option Addr} {H : Hp} {Q : VK} {b : Bool} {n : String}
theorem i_isE (C : ExC K D) (hd : DOk d H) (e : PySem.W.kitOne K (.ref D) (.ref T) = some b) (q : Q (.bl b) H) : rIsE K (.ref D) d a [V.ref a, .ref T] H Q := ⟨D, .ref T, .ref T, b, rfl, rfl, C, hd, .own T, e, q⟩
theorem i_isEB (C : ExC K D) (hd : DOk d H) (e : PySem.W.kitOne K (.ref D) (.type n) = some b) (q : Q (.bl b) H) : rIsE K (.ref D) d a [V.ref a, .ty n] H Q := ⟨D, .ty n, .type n, b, rfl, rfl, C, hd, .ty n, e, q⟩
end
def fxKitT (x : Str) (n : String) (b : Bool) : Fx := fun K => decide (PySem.W.kitOne K (.ref (He.ga K x)) (.type n) = some b)
theorem fxKitT_ok {K : PySem.W.Frag} {x : Str} {n : String} {b : Bool} (h : fxKitT x n b K = true) : PySem.W.kitOne K (.ref (He.ga K x)) (.type n) = some b := of_decide_eq_true h
end Z

/-! Z: is None, pop, more. -/
namespace Z
open PySem PySem.Spec PyProof.Rows L2
def rIsN : R2 := fun x y H Q => y = .non ∧ Q (.bl (decide (x = .non))) H
def rIsNn : R2 := fun x y H Q => y = .non ∧ Q (.bl (!decide (x = .non))) H
theorem opIs {X : Cx} : OpR X (compareOp .Is) rIsN := op_isN
theorem opIsNot {X : Cx} : OpR X (compareOp .IsNot) rIsNn := op_notN
section
variable {K : PySem.W.Frag} {H : Hp} {Q : VK} {p : Addr} {xs : List V} {v : V} {i : Int} {a : Str}
theorem i_isR (q : Q (.bl false) H) : rIsN (.ref p) .non H Q := ⟨rfl, q⟩
theorem i_isN (q : Q (.bl true) H) : rIsN .non .non H Q := ⟨rfl, q⟩
theorem i_isI (q : Q (.bl false) H) : rIsN (.int i) .non H Q := ⟨rfl, q⟩
theorem i_isnR (q : Q (.bl true) H) : rIsNn (.ref p) .non H Q := ⟨rfl, q⟩
theorem i_isnN (q : Q (.bl false) H) : rIsNn .non .non H Q := ⟨rfl, q⟩
theorem i_isnI (q : Q (.bl true) H) : rIsNn (.int i) .non H Q := ⟨rfl, q⟩
theorem i_popAt {j : Nat} (h : H p = some (.lst xs)) (e : xs[j]? = some v) (z : xs.length ≤ 1000000) (k : ∀ H', Up H p (.lst (xs.eraseIdx j)) H' → Q v H') : rPopAt (.ref p) [.int (j : Nat)] H Q := by
  have hl := (List.getElem?_eq_some_iff.mp e).1
  exact ⟨p, xs, j, j, v, rfl, rfl, h, by omega, by omega, (ixN_seq (ixN_nat hl)).1, e, k _ ⟨⟨_, h⟩, rfl⟩⟩
theorem i_pop0 (h : H p = some (.lst (v :: xs))) (z : xs.length ≤ 100000) (k : ∀ H', Up H p (.lst xs) H' → Q v H') : rPopAt (.ref p) [.int 0] H Q :=
  i_popAt (j := 0) h rfl (by rw [List.length_cons]; omega) k
end
section
variable {K : PySem.W.Frag} {m : Str} {kn : Nat} {W : WX} {Ms : List MA} {Fs : List FAx} {ta tf : TE} {t tk : TA} {σ : L2.St} {H : Hp} {Q : VK}
theorem i_MSo (h : ta σ H fun x H1 => zM1 K m kn (WE W σ) Ms t tk x σ H1 Q) : zMS K m kn W Ms ta t tk σ H Q := h
theorem i_VSo (h : tf σ H fun x H1 => zV1 K kn (WE W σ) Fs t tk x σ H1 Q) : zVS K kn W Fs tf t tk σ H Q := h
end
section
variable {K : PySem.W.Frag} {kn : Nat} {E : XK} {Fs : List FAx} {t tk : TA} {σ : L2.St} {H : Hp} {Q : VK} {x : V}
theorem i_Vg (R : V → Hp → Prop) (k : ∀ v H', R v H' → Q v H') (h : ∀ Q' : VK, (∀ v H', R v H' → Q' v H') → zV1 K kn E Fs t tk x σ H Q') : zV1 K kn E Fs t tk x σ H Q := h Q k
end
/-! guards for the search: a step to H' is known -/
theorem gN {H H' : Hp} {p a : Addr} {o u : HO} (n : New H p o H') (x : H' a = some u) : H' a = some u := x
theorem gM {H H' : Hp} {p dx C a : Addr} {u : HO} (n : Made H p dx C H') (x : H' a = some u) : H' a = some u := x
theorem gU {H H' : Hp} {p a : Addr} {o u : HO} (n : Up H p o H') (x : H' a = some u) : H' a = some u := x
theorem gsN {H H' H0 : Hp} {p : Addr} {o : HO} (n : New H p o H') (x : Same H0 H') : Same H0 H' := x
theorem gsM {H H' H0 : Hp} {p dx C : Addr} (n : Made H p dx C H') (x : Same H0 H') : Same H0 H' := x
theorem gsU {H H' H0 : Hp} {p : Addr} {o : HO} (n : Up H p o H') (x : Same H0 H') : Same H0 H' := x
theorem gbN {H H' H0 : Hp} {p a : Addr} {o : HO} (n : New H p o H') (x : But a H0 H') : But a H0 H' := x
theorem gbM {H H' H0 : Hp} {p dx C a : Addr} (n : Made H p dx C H') (x : But a H0 H') : But a H0 H' := x
theorem gbU {H H' H0 : Hp} {p a : Addr} {o : HO} (n : Up H p o H') (x : But a H0 H') : But a H0 H' := x
/-! one look at the heap, then by the object's kind -/
def ixA : HO → Int → Option V
  | .lst xs, i => atI xs i
  | .tup xs, i => atI xs i
  | _, _ => none
theorem i_ixA {K : PySem.W.Frag} {H : Hp} {Q : VK} {p : Addr} {o : HO} {i : Int} {v : V} (h : H p = some o) (e : ixA o i = some v) (q : Q v H) : rIx K (.ref p) (.int i) H Q := by
  cases o with
  | lst xs => exact i_ixL h e q
  | tup xs => exact i_ixT h e q
  | _ => cases e
def lenA : HO → Option Nat
  | .lst xs => some xs.length
  | .tup xs => some xs.length
  | _ => none
theorem i_lenA {K : PySem.W.Frag} {H : Hp} {Q : VK} {p : Addr} {o : HO} {n : Nat} (h : H p = some o) (e : lenA o = some n) (q : Q (.int (n : Nat)) H) : rLenU K [V.ref p] H Q := by
  cases o with
  | lst xs => exact i_lenL h (Option.some.inj e ▸ q)
  | tup xs => exact i_lenT h (Option.some.inj e ▸ q)
  | _ => cases e
theorem len_lm {ns : List Int} : lenA (.lst (ns.map V.int)) = some ns.length := by simp [lenA]
theorem len_tm {ns : List Int} : lenA (.tup (ns.map V.int)) = some ns.length := by simp [lenA]
/-- what is walked -/
inductive SeqA : HO → Bool → Prop where
  | l (xs : List V) : SeqA (.lst xs) true
  | t (xs : List V) : SeqA (.tup xs) false
theorem i_sA {K : PySem.W.Frag} {H : Hp} {a : Addr} {o : HO} {b : Bool} {R : It → Hp → Prop} (h : H a = some o) (e : SeqA o b) (q : R (if b = true then Itl K a else Itt K a) H) : zItS K (.ref a) H R := by
  cases e with
  | l xs => exact i_sL h q
  | t xs => exact i_sT h q
end Z

/-! Z: xs[::k]. -/
namespace Z
open PySem PySem.Spec PyProof.Rows L2
/-- every k-th -/
def stepped {α : Type} (k : Nat) (xs : List α) : List α := gP ((List.range ((xs.length + k - 1) / k)).map fun i => k * i) xs
theorem bounds_step (k n : Nat) (hk : 1 ≤ k) : sliceBounds none none (some (k : Int)) n = (0, (n : Int), (k : Int)) := by
  unfold sliceBounds
  simp
  omega
theorem range_step (k n : Nat) (hk : 1 ≤ k) : sliceRange 0 (n : Int) (k : Int) = (List.range ((n + k - 1) / k)).map fun i => k * i := by
  unfold sliceRange
  simp only
  rw [if_pos (by omega)]
  by_cases h : n = 0
  · subst h
    rw [if_neg (by omega)]
    have : (0 + k - 1) / k = 0 := Nat.div_eq_of_lt (by omega)
    rw [this]; rfl
  · rw [if_pos (by omega)]
    have e : (((n : Int) - 0 + (k : Int) - 1) / (k : Int)).toNat = (n + k - 1) / k := by
      rw [show ((n : Int) - 0 + (k : Int) - 1) = ((n + k - 1 : Nat) : Int) by omega, ← Int.natCast_ediv]
      exact Int.toNat_natCast _
    rw [e]
    refine List.map_congr_left fun i _ => ?_
    rw [Int.zero_add]
    have : (k : Int) * (i : Int) = ((k * i : Nat) : Int) := by simp
    rw [this]
    exact Int.toNat_natCast _
theorem pick_step (items : List Value) (k : Nat) (hk : 1 ≤ k) : slicePick items.toArray none none (some (k : Int)) = (stepped k items).toArray := by
  unfold slicePick
  rw [bounds_step _ _ hk]
  simp only [List.size_toArray]
  rw [range_step _ _ hk]
  unfold stepped gP
  congr 1
  refine congrArg (fun f => List.filterMap f _) (funext fun x => ?_)
  exact List.getElem?_toArray
theorem gP_len {α : Type} (idx : List Nat) (l : List α) : (gP idx l).length ≤ idx.length := List.length_filterMap_le _ _
theorem stepped_len {α : Type} (k : Nat) (xs : List α) (hk : 1 ≤ k) : (stepped k xs).length ≤ xs.length := by
  refine Nat.le_trans (gP_len _ _) ?_
  rw [List.length_map, List.length_range]
  have : (xs.length + k - 1) / k ≤ xs.length := by
    by_cases h : xs.length = 0
    · rw [h, Nat.div_eq_of_lt (by omega)]; omega
    · refine Nat.div_le_of_le_mul ?_
      have : k * xs.length ≥ 1 * xs.length + (k - 1) := by
        have e : k = (k - 1) + 1 := by omega
        rw [e, Nat.add_mul]
        have : (k - 1) * 1 ≤ (k - 1) * xs.length := Nat.mul_le_mul_left _ (by omega)
        omega
      omega
  exact this
/-- xs[::k] -/
def zSlK (K : PySem.W.Frag) (x : V) (o : Option Int) (H2 : Hp) (Q : VK) : Prop := ∃ (a : Addr) (xs : List V) (m : Nat), x = .ref a ∧ o = some (m : Int) ∧ 1 ≤ m ∧ SqL K H2 a xs ∧ ∀ p H', New H2 p (.lst (stepped m xs)) H' → Q (.ref p) H'
def tSlK (K : PySem.W.Frag) (te ts : TE) : TE := fun σ H Q => te σ H fun x H1 => ts σ H1 fun y H2 => ∃ i, y = .int i ∧ zSlK K x (some i) H2 Q
theorem stepped_rel {xs : List V} {us : List Value} (r : Vals xs us) (m : Nat) : Vals (stepped m xs) (stepped m us) := by
  unfold stepped
  rw [r.length]
  exact gP_rel r _
theorem pe_slK {X : Cx} (K : PySem.W.Frag) (hK : X.K = K) {e se : Expr} {te ts : TE} {p3 pos : Pos} (he : PE X e te) (hs : PE X se ts)
    (ht : ∀ (l r : Value) (ops : List Value), subscripted (.Slice none none (some se) p3) false l r = operate [l, r] (getItem l r) := by intros; with_unfolding_all rfl)
    (hg : ∀ (l r : Value), letTemporaryGo e l r = pure () := by intros; with_unfolding_all rfl) : PE X (.Subscript e (.Slice none none (some se) p3) pos) (tSlK K te ts) := by
  subst hK
  refine ⟨fun pins s σ H Q I h => ?_⟩
  refine Subscript_ (thn (he.run pins s σ H _ I h) fun v s1 ⟨x, H1, I1, r1, q1⟩ => ?_)
  refine wpAny_Slice (thn (po_none.run pins s1 σ H1 (fun o H2 => o = none ∧ H2 = H1) I1 ⟨rfl, rfl⟩) fun vl s2 ⟨l, H2, I2, pl, el, e2⟩ => ?_)
  subst el e2
  refine thn (po_none.run pins s2 σ H2 (fun o H3 => o = none ∧ H3 = H2) I2 ⟨rfl, rfl⟩) fun vu s3 ⟨u, H3, I3, pu, eu, e3⟩ => ?_
  subst eu e3
  have hpo : PO X (some se) (tPart ts) := po_some hs
  refine thn (hpo.run pins s3 σ H3 (fun o H4 => zSlK X.K x o H4 Q) I3 q1) fun vs s4 ⟨o, H4, I4, ps, q⟩ => ?_
  obtain ⟨a, xs, m, ex, eo, hm, hx, q⟩ := q
  subst ex eo
  obtain rfl : v = Value.ref a := r1
  have I5 : Inv X pins σ H4 { s4 with heap := s4.heap.push { cls := .type "slice", data := .fields #[vl, vu, vs] } } := I4.kept (t' := s4.toks) fun b ob z => Heap.get?_push_of_some _ z
  obtain ⟨its, r, hl, hz⟩ := I5.list hx
  have hlen := r.length
  show wpAny _ _ (subscriptTail e (.Slice none none (some se) p3) (.ref a) (.ref s4.heap.objs.size)) _ _ _
  refine tail_any (ops := [.ref a, .ref s4.heap.objs.size]) hl.isList.typeIs PySem.slot_list_getitem.lookup ?_ (ht _ _ [])
  refine wpAny_getItem_list_slice hl.isList (Heap.IsSliceOf.new _ vl vu vs) pl pu ps (fun z => by have := Option.some.inj z; omega) ?_ (by rw [List.size_toArray]; omega)
  rw [pick_step _ _ hm]
  refine ⟨.ref _, _, I5.laid (t' := s4.toks) (o := .lst (stepped m xs)) (fun b ob z => Heap.get?_push_of_some _ z) (Nat.le_refl _) ?_, rfl, q _ _ ⟨I5.hok.fresh (Nat.le_refl _), rfl⟩⟩
  exact ⟨Nat.le_trans (stepped_len m xs hm) hz, _, 0, stepped_rel r m, Heap.get?_push_size _ rfl⟩
section
variable {K : PySem.W.Frag} {te ts : TE} {σ : L2.St} {H : Hp} {Q : VK} {p : Addr} {xs : List V} {m : Nat} {G : Int → Prop} {i : Int}
theorem i_slK (h : te σ H fun x H1 => ts σ H1 fun y H2 => ∃ i, y = .int i ∧ zSlK K x (some i) H2 Q) : tSlK K te ts σ H Q := h
theorem i_slKL (h : H p = some (.lst xs)) (hm : 1 ≤ m) (k : ∀ r H', New H r (.lst (stepped m xs)) H' → Q (.ref r) H') : zSlK K (.ref p) (some (m : Int)) H Q := ⟨p, xs, m, rfl, rfl, hm, SqL.of h, k⟩
end
theorem gP_map {α β : Type} (f : α → β) (idx : List Nat) (l : List α) : gP idx (l.map f) = (gP idx l).map f := by
  unfold gP
  rw [List.map_filterMap]
  refine congrArg (fun h => List.filterMap h idx) (funext fun i => ?_)
  rw [List.getElem?_map]
theorem stepped_map {α β : Type} (f : α → β) (k : Nat) (xs : List α) : stepped k (xs.map f) = (stepped k xs).map f := by
  unfold stepped
  rw [gP_map, List.length_map]
section
variable {K : PySem.W.Frag} {σ : L2.St} {H : Hp} {Q : VK} {R : It → Hp → Prop} {g : TG} {tb : TZ} {nx : L2.St → Hp → Prop} {rt : VK} {n : Nat} {lo c : Int}
def zR3 (vs : List V) (H1 : Hp) (R : It → Hp → Prop) : Prop := ∃ i j c n, vs = [V.int i, V.int j, V.int c] ∧ RgC i j c n ∧ R (Itc i c n) H1
theorem i_rng3 {ta : TA} (h : ta σ H fun vs H1 => zR3 vs H1 R) : iRng3 ta σ H R := h
/-- for x in range(lo, hi, c) -/
theorem loop_step (Pv : Nat → L2.St → Hp → Prop) (h0 : Pv 0 σ H) (hs : ∀ i σ H, i < n → Pv i σ H → g (.int (lo + (i : Nat) * c)) σ H fun σ2 H2 => tb (Pv (i + 1)) rt nx (Pv (i + 1)) σ2 H2) (hd : ∀ σ H, Pv n σ H → nx σ H) :
    zLoop (Itc lo c n) g tb nx rt σ H := by
  refine loop_by n Pv h0 (fun i σ H hi p => hi) (fun σ H p => Nat.le_refl _) (fun i x σ H H' hi p y => ?_) hd
  obtain ⟨e, y⟩ := y
  subst e y
  exact hs i σ _ hi p
end
/-- range(0, n * c, c) -/
theorem rgc0 {n c : Nat} (hc : 1 ≤ c) (hn : n * c < 1073741824) (hc2 : c < 1073741824) : RgC 0 ((n * c : Nat) : Int) (c : Nat) n := by
  have sz : Builtin.Range.rangeSize 0 ((n * c : Nat) : Int) (c : Nat) = (n : Nat) := by
    unfold Builtin.Range.rangeSize
    rw [if_pos (by omega)]
    by_cases h : n = 0
    · subst h; simp
    · have : 1 ≤ n * c := Nat.mul_pos (by omega) (by omega)
      rw [if_pos (by omega)]
      obtain ⟨m, rfl⟩ : ∃ m, n = m + 1 := ⟨n - 1, by omega⟩
      have e : (((m + 1) * c : Nat) : Int) - 0 - 1 = ((c - 1 : Nat) : Int) + (c : Nat) * (m : Nat) := by
        rw [Nat.add_mul, Nat.one_mul, Nat.mul_comm m c]
        rw [show ((c - 1 : Nat) : Int) = (c : Nat) - 1 by omega]
        have : (((c * m : Nat)) : Int) = (c : Nat) * (m : Nat) := by simp
        omega
      rw [e, Int.add_mul_ediv_left _ _ (by omega), Int.ediv_eq_zero_of_lt (by omega) (by omega)]
      omega
  refine ⟨by omega, by omega, ?_, sz⟩
  unfold Builtin.Range.small
  rw [sz]
  have : n ≤ n * c := Nat.le_mul_of_pos_right n (by omega)
  rw [if_pos (by omega : ((c : Nat) : Int) > 0)]
  generalize n * c = m at *
  simp only [Builtin.Range.rangeFitsLong, Bool.and_eq_true, Bool.or_eq_true, decide_eq_true_eq, beq_iff_eq]
  omega
theorem i_rng3L {R : It → Hp → Prop} {H : Hp} {n c : Nat} (hc : 1 ≤ c) (hn : n * c < 1073741824) (hc2 : c < 1073741824) (q : R (Itc 0 (c : Nat) n) H) : zR3 [V.int 0, V.int ((n * c : Nat) : Int), V.int (c : Nat)] H R := ⟨_, _, _, _, rfl, rgc0 hc hn hc2, q⟩
theorem cut_lm {xs : List V} {l m : Nat} (hm : l + m ≤ xs.length) : cutV xs (some (l : Int)) (some ((l : Int) + (m : Int))) = (xs.drop l).take m := by
  unfold cutV
  rw [← Int.natCast_add, HT.sIx_nat, HT.sIx_nat, Nat.min_eq_left hm, Nat.min_eq_left (show l ≤ xs.length by omega), Nat.add_sub_cancel_left]
section
variable {K : PySem.W.Frag} {H : Hp} {Q : VK} {p : Addr} {xs : List V} {l m : Nat}
/-- xs[l:l + m], within -/
theorem i_slLM (h : H p = some (.lst xs)) (hm : l + m ≤ xs.length) (k : ∀ r H', New H r (.lst ((xs.drop l).take m)) H' → Q (.ref r) H') : rSlU K (.ref p) (some (l : Int)) (some ((l + m : Nat) : Int)) H Q := by
  have e : cutV xs (some (l : Int)) (some ((l + m : Nat) : Int)) = (xs.drop l).take m := by
    unfold cutV
    rw [HT.sIx_nat, HT.sIx_nat, Nat.min_eq_left hm, Nat.min_eq_left (show l ≤ xs.length by omega), Nat.add_sub_cancel_left]
  exact i_slL h fun r H' n => k r H' (e ▸ n)
theorem i_slLt (h : H p = some (.lst xs)) (k : ∀ r H', New H r (.lst (xs.take m)) H' → Q (.ref r) H') : rSlU K (.ref p) none (some (m : Int)) H Q := by
  have e : cutV xs none (some (m : Int)) = xs.take m := by
    unfold cutV
    rw [HT.sIx_none, HT.sIx_nat, List.drop_zero, Nat.sub_zero]
    by_cases c : m ≤ xs.length
    · rw [Nat.min_eq_left c]
    · rw [Nat.min_eq_right (by omega), List.take_length, List.take_of_length_le (by omega)]
  exact i_slL h fun r H' n => k r H' (e ▸ n)
theorem i_slLd (h : H p = some (.lst xs)) (k : ∀ r H', New H r (.lst (xs.drop m)) H' → Q (.ref r) H') : rSlU K (.ref p) (some (m : Int)) none H Q := by
  have e : cutV xs (some (m : Int)) none = xs.drop m := by
    unfold cutV
    rw [HT.sIx_none, HT.sIx_nat]
    by_cases c : m ≤ xs.length
    · rw [Nat.min_eq_left c, List.take_of_length_le (by rw [List.length_drop]; omega)]
    · rw [Nat.min_eq_right (by omega), List.drop_length, List.drop_of_length_le (by omega), List.take_nil]
  exact i_slL h fun r H' n => k r H' (e ▸ n)
end
end Z

/-! Z: dicts by texts, what is in what, join, own == and len. -/
namespace Z
open PySem PySem.Spec PyProof.Rows L2
theorem hu1 {A : Around} (h : A.units + 64 < cLine) : A.units + 1 < cLine := by omega
/-! ### in -/
def rInW (K : PySem.W.Frag) : R2 := fun x y H Q => (∃ (c : Nat) (z : Str), x = .str ⟨#[c]⟩ ∧ y = .str z ∧ Q (.bl (decide (c ∈ z.cps.toList))) H) ∨ rIn K false x y H Q ∨ rInD K x y H Q
def rNInW (K : PySem.W.Frag) : R2 := fun x y H Q => (∃ (c : Nat) (z : Str), x = .str ⟨#[c]⟩ ∧ y = .str z ∧ Q (.bl (!decide (c ∈ z.cps.toList))) H) ∨ rIn K true x y H Q ∨ rNotInD K x y H Q
theorem opIn {X : Cx} {k : Nat} (K : PySem.W.Frag) (h : X.K = K) (hr : Room k X.A) : OpR X (compareOp .In) (rInW K) := h ▸ op_in_sign.or (op_in_seq.or (op_inD (by have := hr.un; omega)))
theorem opNotIn {X : Cx} {k : Nat} (K : PySem.W.Frag) (h : X.K = K) (hr : Room k X.A) : OpR X (compareOp .NotIn) (rNInW K) := h ▸ op_notIn_sign.or (op_notIn_seq.or (op_notInD (by have := hr.un; omega)))
theorem inV_str (a : Str) : ∀ ys : List Str, inV (.str a) (ys.map V.str) = decide (a ∈ ys)
  | [] => rfl
  | y :: ys => by
    have ih := inV_str a ys
    have e : inV (.str a) ((y :: ys).map V.str) = ((y == a) || inV (.str a) (ys.map V.str)) := rfl
    rw [e, ih]
    by_cases h : y = a
    · subst h; simp
    · simp [h, Ne.symm h]
theorem flat_strs (ys : List Str) : (ys.map V.str).all flatV = true := by
  rw [List.all_eq_true]
  intro v hv
  obtain ⟨y, _, rfl⟩ := List.mem_map.mp hv
  rfl
section
variable {K : PySem.W.Frag} {H : Hp} {Q : VK} {a : Str} {ys : List Str} {p : Addr} {c : Nat} {z : Str} {x y : V} {d : PyData} {ds : List PyData}
theorem i_inS (q : Q (.bl (decide (c ∈ z.cps.toList))) H) : rInW K (.str ⟨#[c]⟩) (.str z) H Q := .inl ⟨c, z, rfl, rfl, q⟩
theorem i_ninS (q : Q (.bl (!decide (c ∈ z.cps.toList))) H) : rNInW K (.str ⟨#[c]⟩) (.str z) H Q := .inl ⟨c, z, rfl, rfl, q⟩
theorem i_inL (h : H p = some (.lst (ys.map V.str))) (q : Q (.bl (decide (a ∈ ys))) H) : rInW K (.str a) (.ref p) H Q :=
  .inr (.inl ⟨p, _, rfl, .inl (SqL.of h), rfl, flat_strs ys, by rw [inV_str]; exact q⟩)
theorem i_ninL (h : H p = some (.lst (ys.map V.str))) (q : Q (.bl (!decide (a ∈ ys))) H) : rNInW K (.str a) (.ref p) H Q :=
  .inr (.inl ⟨p, _, rfl, .inl (SqL.of h), rfl, flat_strs ys, by rw [inV_str]; exact q⟩)
theorem i_inT (ys : List Str) (h : H p = some (.tup (ys.map V.str))) (q : Q (.bl (decide (a ∈ ys))) H) : rInW K (.str a) (.ref p) H Q :=
  .inr (.inl ⟨p, _, rfl, .inr (SqT.of h), rfl, flat_strs ys, by rw [inV_str]; exact q⟩)
theorem i_inDp (h1 : Dp K H x d) (h2 : Dp K H y (.list ds)) (s1 : SeqAt.shaped d = true) (s2 : SeqAt.shaped (.list ds) = true) (q : Q (.bl (ds.any fun z => PyData.eqv z d)) H) : rInW K x y H Q :=
  .inr (.inr ⟨d, ds, h1, h2, s1, s2, q⟩)
end
/-! ### dicts -/
section
variable {X : Cx} {K : PySem.W.Frag} {td ty tk tv : TE} {σ : L2.St} {H : Hp} {Q : VK} {p : Addr} {kvs : List (Key × V)} {k : Str} {v x y : V} {t : TZ} {nx bk ct : L2.St → Hp → Prop} {rt : VK} {QB : Bool → Hp → Prop}
def zDG (x y : V) (H : Hp) (Q : VK) : Prop := ∃ a v, x = .ref a ∧ DGet H a y (some v) ∧ Q v H
theorem i_dget (h : td σ H fun x H1 => ty σ H1 fun y H2 => zDG x y H2 Q) : tDGet td ty σ H Q := h
theorem i_dgK (h : H p = some (.dK kvs)) (e : valV kvs (.inr k) = some v) (q : Q v H) : zDG (.ref p) (.str k) H Q := ⟨p, v, rfl, e ▸ DGet.k (k := .inr k) h, q⟩
theorem i_dgF {od : Obj} (h : H p = some (.frz od (.dK kvs))) (e : valV kvs (.inr k) = some v) (q : Q v H) : zDG (.ref p) (.str k) H Q := ⟨p, v, rfl, .inl ⟨kvs, .inr k, .inr ⟨od, h⟩, rfl, e.symm⟩, q⟩
def zDI (x y : V) (H : Hp) (Q : VK) : Prop := ∃ a o, x = .ref a ∧ DGet H a y o ∧ Q (.bl o.isSome) H
theorem i_din (h : ty σ H fun y H1 => td σ H1 fun x H2 => zDI x y H2 Q) : tDIn ty td σ H Q := h
theorem i_diK (h : H p = some (.dK kvs)) (q : Q (.bl (valV kvs (.inr k)).isSome) H) : zDI (.ref p) (.str k) H Q := ⟨p, _, rfl, DGet.k (k := .inr k) h, q⟩
def zDN (x y : V) (H : Hp) (Q : VK) : Prop := ∃ a o, x = .ref a ∧ DGet H a y o ∧ Q (.bl (!o.isSome)) H
theorem i_dnin (h : ty σ H fun y H1 => td σ H1 fun x H2 => zDN x y H2 Q) : tDNotIn ty td σ H Q := h
theorem i_dnK (h : H p = some (.dK kvs)) (q : Q (.bl (!(valV kvs (.inr k)).isSome)) H) : zDN (.ref p) (.str k) H Q := ⟨p, _, rfl, DGet.k (k := .inr k) h, q⟩
theorem i_setD {QH : Hp → Prop} (h : H p = some (.dK kvs)) (z : kvs.length < sizeLine) (q : ∀ H', Up H p (.dK (putK kvs (.inr k) v)) H' → QH H') : rSetD (.ref p) (.str k) v H QH :=
  ⟨p, _, rfl, DPut.k (k := .inr k) h z, q _ ⟨⟨_, h⟩, rfl⟩⟩
/-- a display -/
def zDisp (p : Addr) (ps : List (V × V)) (H2 : Hp) (Q : VK) : Prop := H2 p = some (.dK []) ∧ ∃ kvs : List (Key × V), ps = kvs.map (fun kv => (kV kv.1, kv.2)) ∧ kvs.length ≤ 15 ∧ ∀ H', Up H2 p (.dK (mergeK [] kvs)) H' → Q (.ref p) H'
theorem i_disp {trs : List (TE × TE)} (h : ∀ p H1, New H p (.dK []) H1 → tPairs trs σ H1 fun ps H2 => zDisp p ps H2 Q) : tDisp trs σ H Q := by
  intro p f
  refine cast (congrArg (tPairs trs σ _) (funext fun ps => funext fun H2 => propext ⟨?_, ?_⟩)) (h p _ ⟨f, rfl⟩)
  · rintro ⟨e, kvs, a, b, c⟩
    exact ⟨e, kvs, a, b, c _ ⟨⟨_, e⟩, rfl⟩⟩
  · rintro ⟨e, kvs, a, b, c⟩
    exact ⟨e, kvs, a, b, fun H' u => u.eq ▸ c⟩
theorem i_pnil {R : List (V × V) → Hp → Prop} (h : R [] H) : tPairs [] σ H R := h
theorem i_pcons {r : List (TE × TE)} {R : List (V × V) → Hp → Prop} (h : tk σ H fun x H1 => tv σ H1 fun y H2 => tPairs r σ H2 fun ps H3 => R ((x, y) :: ps) H3) : tPairs ((tk, tv) :: r) σ H R := h
/-! a dict that is walked is locked meanwhile -/
def zLock (t : TZ) : TZ := fun nx rt bk ct σ H => ∃ d u, H d = some u ∧ Mut (some u) ∧ ∀ od, t (fun σ' H' => H' d = some (.frz od u) ∧ nx σ' (upd H' d u)) (fun v H' => H' d = some (.frz od u) ∧ rt v (upd H' d u)) (fun σ' H' => H' d = some (.frz od u) ∧ bk σ' (upd H' d u)) (fun σ' H' => H' d = some (.frz od u) ∧ ct σ' (upd H' d u)) σ (upd H d (.frz od u))
theorem z_lock {st : Stmt} (h : PS X st (zS t)) : PS X st (zS (zLock t)) := ps_lock h
theorem i_lock (p : Addr) (h : H p = some (.dK kvs)) (q : ∀ od H1, Up H p (.frz od (.dK kvs)) H1 → t (fun σ' H' => H' p = some (.frz od (.dK kvs)) ∧ nx σ' (upd H' p (.dK kvs))) (fun v H' => H' p = some (.frz od (.dK kvs)) ∧ rt v (upd H' p (.dK kvs)))
      (fun σ' H' => H' p = some (.frz od (.dK kvs)) ∧ bk σ' (upd H' p (.dK kvs))) (fun σ' H' => H' p = some (.frz od (.dK kvs)) ∧ ct σ' (upd H' p (.dK kvs))) σ H1) : zLock t nx rt bk ct σ H :=
  ⟨p, .dK kvs, h, trivial, fun od => q od _ ⟨⟨_, h⟩, rfl⟩⟩
def zItems (x : V) (H1 : Hp) (R : It → Hp → Prop) : Prop := ∃ d o kvs, x = .ref d ∧ H1 d = some (.frz o (.dK kvs)) ∧ R (Iti d o kvs) H1
theorem i_items {R : It → Hp → Prop} (h : td σ H fun x H1 => zItems x H1 R) : iItems td σ H R := h
theorem i_itemsK {od : Obj} {R : It → Hp → Prop} (h : H p = some (.frz od (.dK kvs))) (q : R (Iti p od kvs) H) : zItems (.ref p) H R := ⟨p, od, kvs, rfl, h, q⟩
/-- for k, v in d.items(), locked -/
theorem loop_items {g : TG} {tb : TZ} {od : Obj} (Pv : Nat → L2.St → Hp → Prop) (h0 : Pv 0 σ H) (hl : ∀ i σ H, i ≤ kvs.length → Pv i σ H → H p = some (.frz od (.dK kvs)))
    (hs : ∀ i k v T σ H H1, kvs[i]? = some (k, v) → Pv i σ H → New H T (.tup [kV k, v]) H1 → g (.ref T) σ H1 fun σ2 H2 => tb (Pv (i + 1)) rt nx (Pv (i + 1)) σ2 H2) (hd : ∀ σ H, Pv kvs.length σ H → nx σ H) : zLoop (Iti p od kvs) g tb nx rt σ H := by
  refine loop_by kvs.length Pv h0 (fun i σ H hi q => ⟨hl i σ H (Nat.le_of_lt hi) q, hi⟩) (fun σ H q => ⟨hl _ σ H (Nat.le_refl _) q, Nat.le_refl _⟩) (fun i x σ H H' hi q y => ?_) hd
  obtain ⟨T, k, v, e, rfl, f, rfl⟩ := y
  exact hs i k v T σ H _ e q ⟨f, rfl⟩
/-! ### dict comprehensions -/
def zDEnd (D : Addr) (G : List (Key × V) → Hp → Prop) (y z : V) (H5 : Hp) : Prop := ∃ kvs k, y = kV k ∧ H5 D = some (.dK kvs) ∧ kvs.length < sizeLine ∧ ∃ kv2, upd H5 D (.dK (putK kvs k z)) D = some (.dK kv2) ∧ G kv2 (upd H5 D (.dK (putK kvs k z)))
def zDSkip (D : Addr) (G : List (Key × V) → Hp → Prop) (H4 : Hp) : Prop := ∃ a2, H4 D = some (.dK a2) ∧ G a2 H4
theorem i_dend {D : Addr} {G : List (Key × V) → Hp → Prop} {z : V} {H5 : Hp} (h : H5 D = some (.dK kvs)) (l : kvs.length < sizeLine) (q : ∀ H6, Up H5 D (.dK (putK kvs (.inr k) z)) H6 → G (putK kvs (.inr k) z) H6) : zDEnd D G (.str k) z H5 :=
  ⟨kvs, .inr k, rfl, h, l, _, upd_same, q _ ⟨⟨_, h⟩, rfl⟩⟩
def zDComp (J : It) (g : TG) (tt : TT) (tk tv : TE) (vs : List Nat) (σ : L2.St) (H1 : Hp) (Q : VK) : Prop := ∀ D, H1 D = none → ∃ W : Nat → Nat → Hp → Prop, (∃ m, W 0 m (upd H1 D (.dK []))) ∧ ∀ i m H, W i m H →
  (J.stop i H ∧ Q (.ref D) H) ∨ (J.go i H ∧ ∃ Nx : Hp → Prop, (∀ H', Nx H' → ∃ m', m' < m ∧ W (i + 1) m' H') ∧ ∀ x H', J.yld i H x H' → g x (wipe σ vs) H' fun σ2 H2 => wipe σ2 vs = wipe σ vs ∧ tt σ2 H2 fun b H3 =>
    if b = true then tk σ2 H3 fun y H4 => tv σ2 H4 fun z H5 => ∃ kvs k, y = kV k ∧ H5 D = some (.dK kvs) ∧ kvs.length < sizeLine ∧ Nx (upd H5 D (.dK (putK kvs k z))) else Nx H3)
theorem i_dc {wi : TI} {g : TG} {tt : TT} {vs : List Nat} (h : wi σ H fun J H1 => zDComp J g tt tk tv vs σ H1 Q) : tDc wi g tt tk tv vs σ H Q := h
theorem dcomp_by {J : It} {g : TG} {tt : TT} {vs : List Nat} (n : Nat) (G : Addr → Nat → List (Key × V) → Hp → Prop) (h0 : ∀ D H', New H D (.dK []) H' → G D 0 [] H')
    (hgo : ∀ D i acc H, i < n → G D i acc H → J.go i H) (hst : ∀ D acc H, G D n acc H → J.stop n H)
    (hs : ∀ D i acc x H2 H', H D = none → i < n → H2 D = some (.dK acc) → G D i acc H2 → J.yld i H2 x H' → g x (wipe σ vs) H' fun σ2 H3 => wipe σ2 vs = wipe σ vs ∧ tt σ2 H3 fun b H4 =>
      if b = true then tk σ2 H4 fun y H5 => tv σ2 H5 fun z H6 => zDEnd D (G D (i + 1)) y z H6 else zDSkip D (G D (i + 1)) H4)
    (hd : ∀ D acc H2, H D = none → H2 D = some (.dK acc) → G D n acc H2 → Q (.ref D) H2) : zDComp J g tt tk tv vs σ H Q := by
  intro D fD
  refine ⟨fun i m H2 => m = n - i ∧ i ≤ n ∧ ∃ acc, H2 D = some (.dK acc) ∧ G D i acc H2, ⟨n, rfl, Nat.zero_le _, [], upd_same, h0 D _ ⟨fD, rfl⟩⟩, ?_⟩
  rintro i m H2 ⟨rfl, hi, acc, hD, q⟩
  by_cases hlt : i < n
  · exact .inr ⟨hgo D i acc H2 hlt q, fun H6 => ∃ acc, H6 D = some (.dK acc) ∧ G D (i + 1) acc H6, fun H' p' => ⟨n - (i + 1), by omega, rfl, hlt, p'⟩, fun x H' y => hs D i acc x H2 H' fD hlt hD q y⟩
  · have e : i = n := by omega
    subst e
    exact .inl ⟨hst D acc H2 q, hd D acc H2 fD hD q⟩
theorem dcomp_list {g : TG} {tt : TT} {vs : List Nat} {a : Addr} {xs : List V} (G : Addr → Nat → List (Key × V) → Hp → Prop) (h0 : ∀ D H', New H D (.dK []) H' → G D 0 [] H') (hl : ∀ D i acc H, i ≤ xs.length → G D i acc H → SqL K H a xs)
    (hs : ∀ D i acc x H2, H D = none → xs[i]? = some x → H2 D = some (.dK acc) → G D i acc H2 → g x (wipe σ vs) H2 fun σ2 H3 => wipe σ2 vs = wipe σ vs ∧ tt σ2 H3 fun b H4 =>
      if b = true then tk σ2 H4 fun y H5 => tv σ2 H5 fun z H6 => zDEnd D (G D (i + 1)) y z H6 else zDSkip D (G D (i + 1)) H4)
    (hd : ∀ D acc H2, H D = none → H2 D = some (.dK acc) → G D xs.length acc H2 → Q (.ref D) H2) : zDComp (Itl K a) g tt tk tv vs σ H Q := by
  refine dcomp_by xs.length G h0 (fun D i acc H hi q => ⟨xs, xs[i], hl D i acc H (Nat.le_of_lt hi) q, by simp [hi]⟩) (fun D acc H q => ⟨xs, hl D _ acc H (Nat.le_refl _) q, Nat.le_refl _⟩) (fun D i acc x H2 H' fD hi hD q y => ?_) hd
  obtain ⟨e, y⟩ := y
  subst e
  exact hs D i acc x _ fD (y xs (hl D i acc _ (Nat.le_of_lt hi) q)) hD q
end
/-! ### join, slices of texts -/
section
variable {X : Cx} {K : PySem.W.Frag} {to te : TE} {σ : L2.St} {H : Hp} {Q : VK} {a : Str} {ys : List Str} {p : Addr} {x : V} {lo hi : Option Int}
def rJoin (K : PySem.W.Frag) (x : V) (xs : List V) (H : Hp) (Q : VK) : Prop := ∃ a p, ∃ ys : List Str, x = .str a ∧ xs = [.ref p] ∧ (SqL K H p (ys.map V.str) ∨ SqT K H p (ys.map V.str)) ∧
      (ys.map (·.length)).sum + ys.length * a.length ≤ 16777216 ∧ Q (.str (Txt.join a ys)) H
theorem pe_joinK (K : PySem.W.Frag) (h : X.K = K) {o e : Expr} {apos pos : Pos} (ho : PE X o to) (he : PE X e te) (hs : starEach [e] X.env = [(false, eval e X.env)] := by rfl) (hbase : attributeBase o "join" X.env (eval o X.env) = eval o X.env := by rfl) (hline : (apos.endLine == pos.line) = true := by rfl) :
    PE X (.Call (.Attribute o "join" apos) [e] [] pos) (tM1 (rJoin K) to te) := h ▸ pe_join ho he hs hbase hline
def zTx (x : V) (G : Prop) : Prop := (∃ a, x = .str a) ∧ G
theorem i_m1 {r : V → List V → Hp → VK → Prop} (h : to σ H fun x H1 => zTx x (te σ H1 fun y H2 => r x [y] H2 Q)) : tM1 r to te σ H Q := h
theorem i_m0 {r : V → List V → Hp → VK → Prop} (h : to σ H fun x H1 => zTx x (r x [] H1 Q)) : tM0 r to σ H Q := h
theorem i_tx {G : Prop} (g : G) : zTx (.str a) G := ⟨⟨a, rfl⟩, g⟩
theorem i_join (h : H p = some (.lst (ys.map V.str))) (z : (ys.map (·.length)).sum + ys.length * a.length ≤ 16777216) (q : Q (.str (Txt.join a ys)) H) : rJoin K (.str a) [.ref p] H Q := ⟨a, p, ys, rfl, rfl, .inl (SqL.of h), z, q⟩
theorem i_slS {z : Str} (h : z.length ≤ 1000000) (q : Q (.str (cutS z lo hi)) H) : rSlS (.str z) lo hi H Q := ⟨z, rfl, by rw [sizeLine_eq]; omega, q⟩
end
/-! ### x == y by an own def, len(x) by an own def -/
/-- neither goes ahead of C -/
def fxNF (x y : Str) : Fx := fun K => PySem.W.notFirst K (He.ga K x) (.ref (He.ga K y))
theorem notFirst_same {K : PySem.W.Frag} {C : Addr} : PySem.W.notFirst K C (.ref C) = true := by simp [PySem.W.notFirst]
def zEqO (K : PySem.W.Frag) (E : XK) (Ms : List MA) (x y : V) (H1 : Hp) (Q : VK) : Prop :=
  ∃ (M : MA) (a b dx dy C : Addr) (fs gs : List (Str × V)), M ∈ Ms ∧ x = .ref a ∧ y = .ref b ∧ H1 a = some (.ins M.C dx fs) ∧ H1 b = some (.ins C dy gs) ∧ PySem.W.notFirst K M.C (.ref C) = true ∧ M.n = 2 ∧ M.gV K [.ref a, .ref b] [] = [.ref a, .ref b] ∧
    M.sp [.ref a, .ref b] H1 (fun v H' => ∃ k, v = .bl k ∧ Q (.bl k) H') E
section
variable {X : Cx} {g : Prop} {Ms : List MA} {E : XK}
theorem opEqO (K : PySem.W.Frag) (hK : X.K = K) {kk : Nat} (hr : Room kk X.A) (hM : ∀ M ∈ Ms, MtM g X "__eq__" [] M) (hx : Passes (L2.CX X.prog X.w) X E) : OpR X (compareOp .Eq) (zEqO K E Ms) := by
  subst hK
  intro pins s σ H x y v u Q I rx ry h
  obtain ⟨M, a, b, dx, dy, C, fs, gs, hm0, rfl, rfl, ha, hb', nf, hn, hg, q⟩ := h
  cases rx
  cases ry
  have M1 := hM M hm0
  obtain ⟨k, f, d, ps, hm, F, hb, hr', hgd⟩ := M1.ex
  obtain ⟨fd, FD, OK⟩ := F.ex
  obtain ⟨gg, B⟩ := hb _ _ _ FD
  obtain ⟨mA, J, _⟩ := ins_get I.hok ha
  obtain ⟨mB, J', _⟩ := ins_get I.hok hb'
  obtain ⟨od, J, _⟩ := J.look
  obtain ⟨od', J', _⟩ := J'.look
  obtain ⟨m, hF⟩ := I.fr
  refine PySem.W.cmp_K (op := .Eq) (tb := .ref C) hr.units0 hF I.ok.mod.kin J J'.type nf hm.at_ hm.fn ?_
  refine wpAny_mono (run_g (us := [.ref a, .ref b]) (vs := [.ref a, .ref b]) (ws := []) (zs := []) (ks := []) OK hr' hgd B hx I (.cons rfl (.cons rfl .nil)) .nil hn.symm rfl (by rw [hg]; exact q)) (fun r s' z => ?_) fun _ _ e => e
  obtain ⟨v, H', I', rv, k, rfl, q'⟩ := z
  cases rv
  exact ⟨.bl k, H', I', rfl, q'⟩
end
/-- a method that is asked within a built-in function -/
def MtI (g : Prop) (X : Cx) (m : Str) (M : MA) : Prop := ∃ (k : Nat) (f : Addr) (d : He.DefD) (ps : List Str), Meth X.K M.C m f ∧ Pr g X.prog X.w X.K X.mg X.base k f d ps M.sp ∧ Bd d ps M.n [] M.gV ∧ Room (k + 1) X.A ∧ Gd g X.A
section
variable {X : Cx} {g : Prop} {Ms : List MA} {E : XK} {m : Str}
theorem mi_nil : ∀ M ∈ ([] : List MA), MtI g X m M := fun _ h => by cases h
theorem mi_cons {C f : Addr} {n k : Nat} {d : He.DefD} {ps : List Str} {gV : PySem.W.Frag → List V → List V → List V} {sp : Sp} {Ms : List MA} (me : Meth X.K C m f) (F : Pr g X.prog X.w X.K X.mg X.base k f d ps sp) (b : Bd d ps n [] gV) (hr : Room (k + 1) X.A) (hgd : Gd g X.A)
    (r : ∀ M ∈ Ms, MtI g X m M) : ∀ M ∈ (⟨C, n, gV, sp⟩ : MA) :: Ms, MtI g X m M := fun M hM => by
  rcases List.mem_cons.mp hM with rfl | hM
  · exact ⟨k, f, d, ps, me, F, b, hr, hgd⟩
  · exact r M hM
def zLenO (K : PySem.W.Frag) (E : XK) (Ms : List MA) (xs : List V) (H : Hp) (Q : VK) : Prop :=
  ∃ (M : MA) (a dx : Addr) (fs : List (Str × V)), M ∈ Ms ∧ xs = [.ref a] ∧ H a = some (.ins M.C dx fs) ∧ M.n = 1 ∧ M.gV K [.ref a] [] = [.ref a] ∧ M.sp [.ref a] H (fun v H' => ∃ n : Nat, v = .int n ∧ n < 2 ^ 62 ∧ Q (.int n) H') E
theorem clenO (K : PySem.W.Frag) (hK : X.K = K) (hM : ∀ M ∈ Ms, MtI g X "__len__" M) (hx : Passes (L2.CX X.prog X.w) X E) : CallR X (.builtin "len") (zLenO K E Ms) := by
  subst hK
  intro pins s σ H xs us Q I r h
  obtain ⟨M, a, dx, fs, hm0, rfl, ha, hn, hg, q⟩ := h
  obtain ⟨u, rfl, rx⟩ := Vals.one r
  cases rx
  obtain ⟨k, f, d, ps, hm, F, hb, hr', hgd⟩ := hM M hm0
  obtain ⟨fd, FD, OK⟩ := F.ex
  obtain ⟨gg, B⟩ := hb _ _ _ FD
  obtain ⟨mA, J, _⟩ := ins_get I.hok ha
  obtain ⟨od, J, _⟩ := J.look
  obtain ⟨m, hF⟩ := I.fr
  refine PySem.W.len_K hF I.ok.mod.kin J hm.at_ hm.fn ?_
  have e0 : Env0 X.prog X.w X.K X.mg X.base X.A.in1 X.stack s H := by
    have e := I.env0
    exact ⟨e.frames, e.mod, e.bs, e.bsz, e.funs, e.frf, e.hok, e.bare⟩
  have q' : M.sp (M.gV X.K [.ref a] []) H (fun v H' => ∃ n : Nat, v = .int n ∧ n < 2 ^ 62 ∧ Q (.int n) H') E := by rw [hg]; exact q
  refine wpAny_call (codeAny_mono (OK.run X.A.in1 X.stack s H ⟨[.ref a], []⟩ (gg [.ref a] []) (M.gV X.K [.ref a] []) _ E hr'.in1 (fun x => hgd x) e0 (B.to s [.ref a] [] I.kIn (by simp [hn]) rfl) (B.rel (.cons rfl .nil) .nil) q') fun z s' hq => ?_)
  match z, hq with
  | .error e, hq => exact hx pins σ H s e s' I hq
  | .ok (.ret u), hq =>
    obtain ⟨v, H', I', rv, n, rfl, hl, q'⟩ := I.after hq
    obtain ⟨t, rfl⟩ := rv
    exact ⟨⟨by omega, by omega⟩, ⟨.int n, H', I'.tok _, ⟨_, rfl⟩, q'⟩⟩
  | .ok .next, hq => exact False.elim hq
  | .ok .brk, hq => exact False.elim hq
  | .ok .cont, hq => exact False.elim hq
end
/-! ### == that sees the same objects -/
def DSame : Eqv := fun x y _ => ∃ a, x = .ref a ∧ y = .ref a
theorem mon_same : Mon DSame := fun _ _ _ _ _ d => d
theorem eqG_same {X : Cx} : EqG X 0 DSame := by
  intro A pins s σ H x y u v sb I rx ry d
  obtain ⟨a, rfl, rfl⟩ := d
  cases rx
  cases ry
  exact SeqAt.EqAt.same (A := A) (s := s) (.ref a) X.prog X.w X.xe _ ⟨rfl, H, I, Ext.rfl'⟩
def D2 (K : PySem.W.Frag) : Eqv := fun x y H => (DFlat x y H ∨ DSame x y H) ∨ (DTup K DFlat x y H ∨ DList DFlat x y H)
def D1 (K : PySem.W.Frag) : Eqv := fun x y H => DFlat x y H ∨ DList (D2 K) x y H
theorem mon2 {K : PySem.W.Frag} : Mon (D2 K) := (mon_flat.or mon_same).or ((mon_tup mon_flat).or (mon_list mon_flat))
theorem mon1 {K : PySem.W.Frag} : Mon (D1 K) := mon_flat.or (mon_list mon2)
theorem eqG2 {X : Cx} : EqG X 1 (D2 X.K) := ((eqG_flat.or eqG_same).mono (by decide)).or ((eqG_tup mon_flat eqG_flat).or (eqG_list mon_flat eqG_flat))
theorem eqG1 {X : Cx} : EqG X 2 (D1 X.K) := (eqG_flat.mono (by decide)).or (eqG_list mon2 eqG2)
def rEqW (K : PySem.W.Frag) : R2 := fun x y H Q => rEqU K x y H Q ∨ rEqG (DTup K (D1 K)) x y H Q
theorem opEqW {X : Cx} (K : PySem.W.Frag) (h : X.K = K) (hu : X.A.units + 64 < cLine) (hr : Room 3 X.A) : OpR X (compareOp .Eq) (rEqW K) := h ▸ (opEq hu).or (op_eqG (rcG_tup mon1 eqG1) hr)
theorem i_eqW {K : PySem.W.Frag} {H : Hp} {Q : VK} {a b : Addr} {xs ys : List V} (h1 : H a = some (.tup xs)) (h2 : H b = some (.tup ys)) (p : Prs (D1 K) xs ys H) (q : ∀ H', Same H H' → Q (.bl true) H') : rEqW K (.ref a) (.ref b) H Q :=
  .inr ⟨⟨a, b, xs, ys, rfl, rfl, SqT.of h1, SqT.of h2, p⟩, fun H' e => q H' e⟩
end Z
namespace Z
open PySem PySem.Spec PyProof.Rows L2
/-! ### texts -/
section
variable {K : PySem.W.Frag} {H : Hp} {Q : VK} {a : Str} {te : TE} {σ : L2.St} {R : It → Hp → Prop}
def zStrIt (v : V) (H1 : Hp) (R : It → Hp → Prop) : Prop := ∃ x, v = .str x ∧ R (Its x) H1
theorem i_iStr (h : te σ H fun v H1 => zStrIt v H1 R) : iStr te σ H R := h
theorem i_itS (q : R (Its a) H) : zStrIt (.str a) H R := ⟨a, rfl, q⟩
def rLenS : List V → Hp → VK → Prop := fun xs H Q => ∃ z, xs = [.str z] ∧ z.length ≤ sizeLine ∧ Q (.int z.length) H
theorem clenS {X : Cx} : CallR X (.builtin "len") rLenS := call_len_str
theorem i_lenS (h : a.length ≤ 1000000) (q : Q (.int (a.length : Nat)) H) : rLenS [.str a] H Q := ⟨a, rfl, by rw [sizeLine_eq]; omega, q⟩
theorem comp_str {g : TG} {tt : TT} {vs : List Nat} (G : Nat → List V → Hp → Prop) (h0 : ∀ D H', New H D (.lst []) H' → G 0 [] H')
    (hs : ∀ D i acc c H2, H D = none → a.cps.toList[i]? = some c → H2 D = some (.lst acc) → G i acc H2 → g (.str ⟨#[c]⟩) (wipe σ vs) H2 fun σ2 H3 => wipe σ2 vs = wipe σ vs ∧ tt σ2 H3 fun b H4 =>
      if b = true then te σ2 H4 fun y H5 => zEnd D (G (i + 1)) y H5 else zSkip D (G (i + 1)) H4)
    (hd : ∀ D acc H2, H D = none → H2 D = some (.lst acc) → G a.cps.toList.length acc H2 → Q (.ref D) H2) : zComp (Its a) g tt te vs σ H Q := by
  refine comp_by a.cps.toList.length G h0 (fun i acc H hi p => show i < a.cps.size by simpa using hi) (fun acc H p => show a.cps.size ≤ _ by simp) (fun D i acc x H2 H' fD hi hD p y => ?_) hd
  obtain ⟨e, c, hc, rfl⟩ := y
  subst e
  exact hs D i acc c _ fD (by simpa using hc) hD p
end
end Z
namespace Z
open PySem PySem.Spec PyProof.Rows L2
/-! ### xs == [], xs != [] -/
def rNe0 (K : PySem.W.Frag) : R2 := fun x y H Q => ∃ p q xs, x = .ref p ∧ y = .ref q ∧ SqL K H p xs ∧ H q = some (.lst []) ∧ Q (.bl (!xs.isEmpty)) H
def rEq0 (K : PySem.W.Frag) : R2 := fun x y H Q => ∃ p q xs, x = .ref p ∧ y = .ref q ∧ SqL K H p xs ∧ H q = some (.lst []) ∧ Q (.bl xs.isEmpty) H
theorem opNe0 {X : Cx} (K : PySem.W.Frag) (h : X.K = K) (hu : X.A.units + 64 < cLine) : OpR X (compareOp .NotEq) (rNe0 K) := by
  subst h
  intro pins s σ H x y v u Q I rx ry q
  obtain ⟨p, q', xs, rfl, rfl, hp, hq, k⟩ := q
  cases rx
  cases ry
  obtain ⟨its, r, pl, hz⟩ := I.list hp
  obtain ⟨its2, r2, pl2, hz2⟩ := I.list (SqL.of hq : SqL X.K H q' [])
  cases r2
  cases r with
  | nil => exact SeqAt.RcNeAt.lists (e := fun _ => true) pl.isList pl2.isList rfl (by omega) (fun j h1 _ => by simp at h1) X.prog X.w X.xe _ ⟨.bl _, H, I, rfl, k⟩
  | cons a b => exact SeqAt.RcNeAt.lists_lengths pl.isList pl2.isList (by simp) (by omega) X.prog X.w X.xe _ ⟨.bl _, H, I, rfl, k⟩
theorem opEq0 {X : Cx} (K : PySem.W.Frag) (h : X.K = K) (hu : X.A.units + 64 < cLine) : OpR X (compareOp .Eq) (rEq0 K) := by
  subst h
  intro pins s σ H x y v u Q I rx ry q
  obtain ⟨p, q', xs, rfl, rfl, hp, hq, k⟩ := q
  cases rx
  cases ry
  obtain ⟨its, r, pl, hz⟩ := I.list hp
  obtain ⟨its2, r2, pl2, hz2⟩ := I.list (SqL.of hq : SqL X.K H q' [])
  cases r2
  cases r with
  | nil => exact SeqAt.RcAt.lists (e := fun _ => true) pl.isList pl2.isList rfl (by omega) (fun j h1 _ => by simp at h1) X.prog X.w X.xe _ ⟨.bl _, H, I, rfl, k⟩
  | cons a b => exact SeqAt.RcAt.lists_lengths pl.isList pl2.isList (by simp) (by omega) X.prog X.w X.xe _ ⟨.bl _, H, I, rfl, k⟩
section
variable {K : PySem.W.Frag} {H : Hp} {Q : VK} {p q : Addr} {xs : List V}
theorem i_ne0 (h : H p = some (.lst xs)) (h2 : H q = some (.lst [])) (k : Q (.bl (!xs.isEmpty)) H) : rNe0 K (.ref p) (.ref q) H Q := ⟨p, q, xs, rfl, rfl, SqL.of h, h2, k⟩
theorem i_eq0 (h : H p = some (.lst xs)) (h2 : H q = some (.lst [])) (k : Q (.bl xs.isEmpty) H) : rEq0 K (.ref p) (.ref q) H Q := ⟨p, q, xs, rfl, rfl, SqL.of h, h2, k⟩
theorem i_ne0Q (h : SqL K H p xs) (h2 : H q = some (.lst [])) (k : Q (.bl (!xs.isEmpty)) H) : rNe0 K (.ref p) (.ref q) H Q := ⟨p, q, xs, rfl, rfl, h, h2, k⟩
end
end Z

/-! Z: enumerate of a tuple; more of tuples. -/
namespace Z
open PySem PySem.Spec PyProof.Rows L2
theorem meets_enum1 {v : Value} {o : Obj} {H : Heap → Prop} (B : Begins v o H) :
    Meets (Builtin.«enumerate.__new__» ⟨[.type "enumerate", v], []⟩) (fun _ R s => H s.heap ∧
      R (.ok (.ret (.ref (s.heap.push o).objs.size))) { s with heap := (s.heap.push o).push { cls := .type "enumerate", data := .fields #[.none, .bool false, .ref s.heap.objs.size, rawInt 0, .none, .none] } }) :=
  .of_wp fun prog w A R s h => by
    obtain ⟨hp, g, d, tk, os⟩ := s; obtain ⟨h1, h⟩ := h
    have hsub := sub_enumerate
    have q1 : ∀ {A' : Around} {E : Value → Shared → Prop} {Q : Value → Shared → Prop}, Q (.ref hp.objs.size) ⟨hp.push o, g, d, tk, os⟩ → wpAny (model prog w) A' (pyIter v) Q E ⟨hp, g, d, tk, os⟩ :=
      fun q => B.iter prog w _ _ ⟨hp, g, d, tk, os⟩ _ h1 q
    wp_walk using q1
    refine wpAny_stack_any fun st => wpAny_pure ?_
    split
    · rename_i c _ _ _ _ _
      cases (c == Value.type "enumerate")
      · wp_walk using q1
        exact ⟨_, rfl, h⟩
      · wp_walk using q1
        exact ⟨_, rfl, h⟩
    · wp_walk using q1
      exact ⟨_, rfl, h⟩
section
variable {prog : Program} {w : World} {A : Around} {E : Value → Shared → Prop} {s : Shared}
theorem call_enum1 {v : Value} {o : Obj} {H : Heap → Prop} {Q : Value → Shared → Prop} (B : Begins v o H) (h1 : H s.heap)
    (h : ∀ h', IsEnum h' (s.heap.objs.size + 1) s.heap.objs.size 0 .none → h'.get? s.heap.objs.size = some o → h'.objs.size = s.heap.objs.size + 2 →
      (∀ b o, s.heap.get? b = some o → h'.get? b = some o) → Q (.ref (s.heap.objs.size + 1)) { s with heap := h' }) :
    wpAny (model prog w) A (call (.type "enumerate") [v]) Q E s := by
  refine callType_new F.called_enumerate (by decide) (F.typeCall_enumerate_1 _) (F.newCall_enumerate_1 _) (fun obj => F.args_object_init_2 obj _) F.entry_enumerate_new
    (meets_enum1 B) ⟨h1, ?_⟩
  have hz : (s.heap.push o).objs.size = s.heap.objs.size + 1 := Heap.size_push ..
  show _ ∧ _
  rw [hz]
  have he : IsEnum ((s.heap.push o).push { cls := .type "enumerate", data := .fields #[.none, .bool false, .ref s.heap.objs.size, rawInt 0, .none, .none] }) (s.heap.objs.size + 1) s.heap.objs.size 0 .none := by
    have := Heap.get?_push_size (s.heap.push o) (o := { cls := .type "enumerate", data := .fields #[.none, .bool false, .ref s.heap.objs.size, rawInt 0, .none, .none] }) rfl
    rw [hz] at this; exact this
  refine ⟨⟨_, he, rfl⟩, h _ he (Heap.get?_push_of_some _ (Heap.get?_push_size _ B.free)) (by rw [Heap.size_push, hz]) fun b o x => Heap.get?_push_of_some _ (Heap.get?_push_of_some _ x)⟩
end
/-- the tuple at a, each item in a new pair -/
def ItEt (K : PySem.W.Frag) (a : Addr) : It :=
  ⟨fun i H => ∃ (xs : List V) (x : V), SqT K H a xs ∧ xs[i]? = some x, fun i H v H' => ∃ T x, v = .ref T ∧ H T = none ∧ H' = upd H T (.tup [.int (i : Nat), x]) ∧ ∀ xs, SqT K H a xs → xs[i]? = some x, fun i H => ∃ xs : List V, SqT K H a xs ∧ xs.length ≤ i⟩
theorem turn_enumT {P : Program} {w : World} {K : PySem.W.Frag} {elts : List Expr} {kk : Nat} {tpos : Pos} (a e it : Addr) (hei : e ≠ it) (hae : a ≠ e) (hai : a ≠ it) :
    Turn P w K (.Tuple elts kk tpos) (ItEt K a) [e, it] e (fun i h => (∃ old, IsEnum h e it ((i : Nat) : Int) old) ∧ h.IsTupleIter it a i) where
  mem := by simp
  obj := fun i h st b hb => by
    obtain ⟨⟨old, he⟩, ⟨o, ho, hc, hd⟩⟩ := st
    have e' : b = e ∨ b = it := by simpa using hb
    rcases e' with z | z
    · rw [z]; exact ⟨_, he, fun v q => nomatch q⟩
    · rw [z]; exact ⟨o, ho, fun v q => by rw [hd] at q; cases q⟩
  keep := fun i h h' st k => let ⟨⟨old, he⟩, hi⟩ := st; ⟨⟨old, k e (by simp) _ he⟩, hi.at fun o q => k it (by simp) o q⟩
  item := by
    intro X hP hw hK hc i pins s σ H E I hf st hg
    subst hP hw hK
    obtain ⟨⟨old, he⟩, hit⟩ := st
    obtain ⟨xs, x, hq, hx⟩ := hg
    obtain ⟨its, rv, p, hz⟩ := I.tuple hq
    obtain ⟨u, hu, ru⟩ := rv.get hx
    have hel : e < s.heap.objs.size := Heap.lt_size he
    have hil : it < s.heap.objs.size := by obtain ⟨_, q, _⟩ := hit; exact Heap.lt_size q
    have hlt : i < its.toArray.size := by
      have := (List.getElem?_eq_some_iff.mp hu).1
      simpa using this
    refine wpAny_pyNext_enum_itemC (Draws.tuple (A := X.A.in1) (I.ok.hd hc) it a hai its.toArray) he ⟨hit, p⟩ hlt hei (by simp [hei, Ne.symm hae]) fun y h' tk hP ho hst' hT hsz hk => ?_
    have ey : y = u := by
      have : its.toArray[i]? = some u := by simpa using hu
      rw [this] at hP
      exact (Option.some.inj hP).symm
    subst ey
    refine ⟨_, rfl, wpAny_letOwnedTupleGo_enum (s := { s with heap := h', toks := tk + 1 }) ho fun h'' he' sb => ?_⟩
    have hT2 : h''.get? s.heap.objs.size = some { cls := .type "tuple", data := .seq #[.int i tk, y] } := (sb.2 _ (Nat.ne_of_gt hel)).trans hT
    have new : ObjOk X.prog X.w (upd H s.heap.objs.size (.tup [.int (i : Nat), x])) h'' s.heap.objs.size (.tup [.int (i : Nat), x]) :=
      ⟨by show 2 ≤ sizeLine; decide, [.int i tk, y], .cons ⟨_, rfl⟩ (.cons ru .nil), ⟨_, hT2, rfl, _, rfl⟩⟩
    have I1 : Inv X pins σ (upd H s.heap.objs.size (.tup [.int (i : Nat), x])) { s with heap := h'', toks := tk + 1 } :=
      I.turnedNew (ch := [e, it]) (fun b ob hb q => (sb.2 b (fun z => hb (by simp [z]))).trans (hk b ob (fun z => hb (by simp [z])) (fun z => hb (by simp [z])) q)) hf (Nat.le_refl _) new
    refine ⟨.ref s.heap.objs.size, _, I1, rfl, ⟨_, x, rfl, I.hok.fresh (Nat.le_refl _), rfl, fun ys hy => by rw [I.tuple_inj hy hq]; exact hx⟩, ⟨⟨y, ?_⟩, hst'.1.at fun o q => (sb.2 it (Ne.symm hei)).trans q⟩, fun b hb => ?_⟩
    · have e1 : ((i + 1 : Nat) : Int) = (i : Int) + 1 := by omega
      rw [e1]; exact he'
    · have hb' : b < s.heap.objs.size := by
        have e' : b = e ∨ b = it := by simpa using hb
        rcases e' with z | z
        · rw [z]; exact hel
        · rw [z]; exact hil
      rw [upd_ne (Nat.ne_of_lt hb')]
      exact (hf b hb).1
  done := by
    intro X hP hw hK hc i pins s σ H E I hf st hg
    subst hP hw hK
    obtain ⟨⟨old, he⟩, hit⟩ := st
    obtain ⟨xs, hq, hx⟩ := hg
    obtain ⟨its, rv, p, hz⟩ := I.tuple hq
    have hl := rv.length
    obtain ⟨f0, f1, f2, f3, f4, f5⟩ := hf it (by simp)
    have hT : s.TypeIs (.ref e) "enumerate" := ⟨_, he, rfl⟩
    unfold pyNext
    refine wpAny_bind (wpAny_attempt (wpAny_callSpecial?_slot (name := Str.ofString "__next__") hT F.slot_enumerate_next
      (wpAny_call_entry F.slot_enumerate_next hT F.entry_enumerate_next ?_ (F.args_enumerate_next_1 _))))
    show wpAny _ _ (field (.ref e) 2 >>= _) _ _ _
    refine wpAny_bind (wpAny_field he rfl (x := .ref it) rfl ?_)
    refine wpAny_bind (wpAny_nextOf_tuple_end (I.ok.hd hc) hit p (by simp; omega) fun h' x he' hx' => ?_)
    obtain ⟨o, ho, hc'⟩ := hx'
    refine wpAny_bind (wpAny_isInstance (T := "StopIteration") (b := true) ⟨o, ho, hc'⟩ isSubtype_stop ?_)
    exact wpAny_pure ⟨rfl, I.turned (t' := s.toks) (fun b o hb q => he' b o hb q) f0 f1 f3 f4 f5⟩
  self := fun A i s Q E st h => let ⟨⟨_, he⟩, _⟩ := st; wpAny_pyIter_enum he h
def iEnumA (K : PySem.W.Frag) (ta : TA) : TI := fun σ H R => ta σ H fun vs H1 => ∃ a xs, vs = [.ref a] ∧ ((SqL K H1 a xs ∧ R (Ite K a) H1) ∨ (SqT K H1 a xs ∧ R (ItEt K a) H1))
theorem pi_enumA {X : Cx} {e : Expr} {ta : TA} {p pos tpos : Pos} {elts : List Expr} {kk : Nat} (hg : Gl X "enumerate") (hm : X.mg "enumerate" = none) (ha : PA X [e] ta) (hs : starEach [e] X.env = [(false, eval e X.env)] := by rfl) :
    PI X (.Tuple elts kk tpos) (.Call (.Name "enumerate" p) [e] [] pos) (iEnumA X.K ta) := by
  refine ⟨fun pins s σ H R I h => ?_⟩
  refine Call_ (ld_blt I hg hm boot_enumerate (PyProof.Rows.callWith_type1 (thn (ha.run pos pins s σ H _ I h) fun us s1 ⟨vs, H1, I1, r1, q1⟩ => ?_) hs rfl))
  obtain ⟨a, xs, ex, q⟩ := q1
  subst ex
  cases r1 with
  | cons r rr =>
    cases rr
    cases r
    have fpo : ∀ b ∈ [s1.heap.objs.size + 1, s1.heap.objs.size], s1.heap.objs.size ≤ b := fun b hb => by
      have e' : b = s1.heap.objs.size + 1 ∨ b = s1.heap.objs.size := by simpa using hb
      rcases e' with z | z
      · rw [z]; exact Nat.le_add_right _ _
      · rw [z]; exact Nat.le_refl _
    rcases q with ⟨hq, q⟩ | ⟨hq, q⟩
    · obtain ⟨its, rv, p', hz⟩ := I1.list hq
      refine call_enumerate_list p'.isList fun h' he hit hsz hk => wpAny_pyIter_enum he ?_
      have I2 : Inv X pins σ H1 { s1 with heap := h' } := I1.kept (t' := s1.toks) hk
      refine ⟨s1.heap.objs.size + 1, [s1.heap.objs.size + 1, s1.heap.objs.size], _, _, H1, rfl, I2, turn_enum a (s1.heap.objs.size + 1) s1.heap.objs.size, ⟨⟨.none, he⟩, hit, Nat.succ_ne_self _⟩, fun b hb => I1.fpOk (fpo b hb) (I1.hok.fresh (fpo b hb)), q⟩
    · obtain ⟨its, rv, p', hz⟩ := I1.tuple hq
      have hal : a < s1.heap.objs.size := by obtain ⟨o, ho, _⟩ := p'; exact Heap.lt_size ho
      refine call_enum1 (begins_tuple a its.toArray) p' fun h' he hit hsz hk => wpAny_pyIter_enum he ?_
      have I2 : Inv X pins σ H1 { s1 with heap := h' } := I1.kept (t' := s1.toks) hk
      refine ⟨s1.heap.objs.size + 1, [s1.heap.objs.size + 1, s1.heap.objs.size], _, _, H1, rfl, I2, turn_enumT a (s1.heap.objs.size + 1) s1.heap.objs.size (Nat.succ_ne_self _) (Nat.ne_of_lt (Nat.lt_succ_of_lt hal)) (Nat.ne_of_lt hal), ⟨⟨.none, he⟩, ⟨_, hit, rfl, rfl⟩⟩, fun b hb => I1.fpOk (fpo b hb) (I1.hok.fresh (fpo b hb)), q⟩
theorem pi_enumAK {X : Cx} (K : PySem.W.Frag) (h : X.K = K) {e : Expr} {ta : TA} {p pos tpos : Pos} {elts : List Expr} {kk : Nat} (hg : Gl X "enumerate") (hm : X.mg "enumerate" = none) (ha : PA X [e] ta) (hs : starEach [e] X.env = [(false, eval e X.env)] := by rfl) :
    PI X (.Tuple elts kk tpos) (.Call (.Name "enumerate" p) [e] [] pos) (iEnumA K ta) := h ▸ pi_enumA hg hm ha hs
section
variable {K : PySem.W.Frag} {ta : TA} {σ : L2.St} {H : Hp} {R : It → Hp → Prop} {a : Addr} {xs : List V} {g : TG} {tt : TT} {te : TE} {vs : List Nat} {Q : VK}
def zEnA (K : PySem.W.Frag) (vs : List V) (H1 : Hp) (R : It → Hp → Prop) : Prop := ∃ a xs, vs = [.ref a] ∧ ((SqL K H1 a xs ∧ R (Ite K a) H1) ∨ (SqT K H1 a xs ∧ R (ItEt K a) H1))
theorem i_enumA (h : ta σ H fun vs H1 => zEnA K vs H1 R) : iEnumA K ta σ H R := h
theorem i_enumAL (h : H a = some (.lst xs)) (q : R (Ite K a) H) : zEnA K [V.ref a] H R := ⟨a, xs, rfl, .inl ⟨SqL.of h, q⟩⟩
theorem i_enumAT (h : H a = some (.tup xs)) (q : R (ItEt K a) H) : zEnA K [V.ref a] H R := ⟨a, xs, rfl, .inr ⟨SqT.of h, q⟩⟩
theorem comp_enumT (G : Nat → List V → Hp → Prop) (h0 : ∀ D H', New H D (.lst []) H' → G 0 [] H') (hl : ∀ i acc H, i ≤ xs.length → G i acc H → SqT K H a xs)
    (hs : ∀ D i acc x T H2 H2', H D = none → xs[i]? = some x → H2 D = some (.lst acc) → G i acc H2 → New H2 T (.tup [.int (i : Nat), x]) H2' → g (.ref T) (wipe σ vs) H2' fun σ2 H3 => wipe σ2 vs = wipe σ vs ∧ tt σ2 H3 fun b H4 =>
      if b = true then te σ2 H4 fun y H5 => zEnd D (G (i + 1)) y H5 else zSkip D (G (i + 1)) H4)
    (hd : ∀ D acc H2, H D = none → H2 D = some (.lst acc) → G xs.length acc H2 → Q (.ref D) H2) : zComp (ItEt K a) g tt te vs σ H Q := by
  refine comp_by xs.length G h0 (fun i acc H hi p => ⟨xs, xs[i], hl i acc H (Nat.le_of_lt hi) p, by simp [hi]⟩) (fun acc H p => ⟨xs, hl _ acc H (Nat.le_refl _) p, Nat.le_refl _⟩) (fun D i acc x H2 H' fD hi hD p y => ?_) hd
  obtain ⟨T, v, rfl, fT, rfl, y⟩ := y
  exact hs D i acc v T H2 _ fD (y xs (hl i acc H2 (Nat.le_of_lt hi) p)) hD p ⟨fT, rfl⟩
theorem dcomp_tup {tk tv : TE} (G : Addr → Nat → List (Key × V) → Hp → Prop) (h0 : ∀ D H', New H D (.dK []) H' → G D 0 [] H') (hl : ∀ D i acc H, i ≤ xs.length → G D i acc H → SqT K H a xs)
    (hs : ∀ D i acc x H2, H D = none → xs[i]? = some x → H2 D = some (.dK acc) → G D i acc H2 → g x (wipe σ vs) H2 fun σ2 H3 => wipe σ2 vs = wipe σ vs ∧ tt σ2 H3 fun b H4 =>
      if b = true then tk σ2 H4 fun y H5 => tv σ2 H5 fun z H6 => zDEnd D (G D (i + 1)) y z H6 else zDSkip D (G D (i + 1)) H4)
    (hd : ∀ D acc H2, H D = none → H2 D = some (.dK acc) → G D xs.length acc H2 → Q (.ref D) H2) : zDComp (Itt K a) g tt tk tv vs σ H Q := by
  refine dcomp_by xs.length G h0 (fun D i acc H hi q => ⟨xs, xs[i], hl D i acc H (Nat.le_of_lt hi) q, by simp [hi]⟩) (fun D acc H q => ⟨xs, hl D _ acc H (Nat.le_refl _) q, Nat.le_refl _⟩) (fun D i acc x H2 H' fD hi hD q y => ?_) hd
  obtain ⟨e, y⟩ := y
  subst e
  exact hs D i acc x _ fD (y xs (hl D i acc _ (Nat.le_of_lt hi) q)) hD q
end
/-! a handed list or tuple -/
def Sq (H : Hp) (p : Addr) (xs : List V) : Prop := H p = some (.lst xs) ∨ H p = some (.tup xs)
section
variable {K : PySem.W.Frag} {H : Hp} {Q : VK} {p : Addr} {xs : List V} {a b c d : V}
theorem i_lenSq (h : Sq H p xs) (q : Q (.int (xs.length : Nat)) H) : rLenU K [V.ref p] H Q := h.elim (fun h => i_lenL h q) fun h => i_lenT h q
theorem i_tupleSq (h : Sq H p xs) (k : ∀ r H', Same H H' → H' r = some (.tup xs) → Q (.ref r) H') : rTupU K [V.ref p] H Q := by
  rcases h with h | h
  · exact i_tupleL h fun r H' n => k r H' n.same n.at
  · exact ⟨p, xs, rfl, .inr ⟨SqT.of h, k p H (Same.refl _) h⟩⟩
theorem i_slT13 (h : H p = some (.tup [a, b, c, d])) (k : ∀ r H', New H r (.tup [b, c]) H' → Q (.ref r) H') : rSlU K (.ref p) (some 1) (some 3) H Q := by
  refine .inr ⟨p, _, rfl, SqT.of h, fun ⟨w, _⟩ => ?_, fun _ r f => k r _ ⟨f, rfl⟩⟩
  have : HT.sIx 4 0 (some 1) = min 1 4 := HT.sIx_nat 4 0 1
  rw [show ([a, b, c, d] : List V).length = 4 from rfl, this] at w
  cases w
theorem i_slT03 (h : H p = some (.tup [a, b, c, d])) (k : ∀ r H', New H r (.tup [a, b, c]) H' → Q (.ref r) H') : rSlU K (.ref p) none (some 3) H Q := by
  refine .inr ⟨p, _, rfl, SqT.of h, fun ⟨_, w⟩ => ?_, fun _ r f => k r _ ⟨f, rfl⟩⟩
  have : HT.sIx 4 4 (some 3) = min 3 4 := HT.sIx_nat 4 4 3
  rw [show ([a, b, c, d] : List V).length = 4 from rfl, this] at w
  cases w
theorem i_pop {v : V} (h : H p = some (.lst (xs ++ [v]))) (k : ∀ H', Up H p (.lst xs) H' → Q v H') : rPop (.ref p) [] H Q :=
  ⟨p, xs ++ [v], v, rfl, rfl, h, by simp, by rw [List.dropLast_concat]; exact k _ ⟨⟨_, h⟩, rfl⟩⟩
end
end Z

/-! Z: exceptions with fields of their own. -/
namespace Z
open PySem PySem.Spec PyProof.Rows L2
/-- the class at C is one over ValueError, with a dict for its instances -/
def oexB (K : PySem.W.Frag) (C : Addr) : Bool := match K.lookup C with
  | some ⟨.type "type", _, .cls cd, sl⟩ => (match cd.mro, sl.toList with
    | .ref C' :: bm, [_, _, _, _, some (.builtin n), _] => C' == C && (n == "ValueError.__new__" && (!cd.hasDel && (cd.hasDict && PySem.HandSPX.refsVE bm)))
    | _, _ => false)
  | _ => false
theorem oexB_ok {K : PySem.W.Frag} {C : Addr} (q : oexB K C = true) : ∃ nm q N bs bm sn sub ab col dd k0 k1 k2 k3 k5, K.lookup C = some (excClassObj nm q C N bs bm true sn sub ab col dd k0 k1 k2 k3 k5 "ValueError.__new__") ∧ PySem.HandSPX.refsVE bm = true := by
  unfold oexB at q
  split at q
  · rename_i dd cd sl ho
    split at q
    · rename_i C' bm k0 k1 k2 k3 n k5 hm hs
      simp only [Bool.and_eq_true, beq_iff_eq, Bool.not_eq_true'] at q
      obtain ⟨rfl, rfl, hdel, hdict, hb⟩ := q
      obtain ⟨nm, bs, mro, ns, qn, hd, sn, sub, ab, col, del⟩ := cd
      dsimp only at hm hdel hdict
      subst hm hdel hdict
      obtain ⟨l⟩ := sl
      have hs' : l = [k0, k1, k2, k3, some (.builtin "ValueError.__new__"), k5] := hs
      subst hs'
      exact ⟨nm, qn, ns, bs, bm, sn, sub, ab, col, dd, k0, k1, k2, k3, k5, ho, hb⟩
    · cases q
  · cases q
/-- x may be raised with values: its own __init__ -/
def fxOex (x : Str) : Fx := fun K => oexB K (He.ga K x) && (He.eqO (PySem.W.findIn K (.ref (He.ga K x)) "__setattr__") (some (some (.builtin "object.__setattr__"))) &&
  (decide (PySem.W.subIn K (.ref (He.ga K x)) (.type "BaseException") = some true) && (decide (PySem.W.typeIn K (.ref (He.ga K x)) = some (.type "type")) && (PySem.W.keepIn K (.ref (He.ga K x)) &&
  (He.eqO (PySem.W.findIn K (.ref (He.ga K x)) "__init__") (some (some (.ref (He.ma K (He.ga K x) "__init__")))) && decide (PySem.W.typeIn K (.ref (He.ma K (He.ga K x) "__init__")) = some (.type "function")))))))
structure OexM (K : PySem.W.Frag) (x : Str) : Prop where
  t : OexC K (He.ga K x)
  i : PySem.W.findIn K (.ref (He.ga K x)) "__init__" = some (some (.ref (He.ma K (He.ga K x) "__init__")))
  f : PySem.W.typeIn K (.ref (He.ma K (He.ga K x) "__init__")) = some (.type "function")
theorem fxOex_ok {K : PySem.W.Frag} {x : Str} (h : fxOex x K = true) : OexM K x := by
  obtain ⟨c1, h⟩ := He.ba h
  obtain ⟨c2, h⟩ := He.ba h
  obtain ⟨c3, h⟩ := He.ba h
  obtain ⟨c4, h⟩ := He.ba h
  obtain ⟨c5, h⟩ := He.ba h
  obtain ⟨c6, c7⟩ := He.ba h
  exact ⟨⟨oexB_ok c1, He.eqO_ok c2, of_decide_eq_true c3, of_decide_eq_true c4, c5⟩, He.eqO_ok c6, of_decide_eq_true c7⟩
/-- the class x has nothing of the name f -/
def fxNoF (x f : Str) : Fx := fun K => He.eqO (PySem.W.findIn K (.ref (He.ga K x)) f) (some none)
theorem fxNoF_ok {K : PySem.W.Frag} {x f : Str} (h : fxNoF x f K = true) : PySem.W.findIn K (.ref (He.ga K x)) f = some none := He.eqO_ok h
def fxXf (x : Str) : Fx := fun K => xfB K (He.ga K x)
theorem fxXf_ok {K : PySem.W.Frag} {x : Str} (h : fxXf x K = true) : XfC K (He.ga K x) := xfB_ok h
/-- isinstance of the class x in a tuple of classes -/
def fxKitAny (x : Str) (l : List Str) (b : Bool) : Fx := fun K => decide (PySem.W.kitAny K (.ref (He.ga K x)) (l.map fun y => Value.ref (He.ga K y)) = some b)
theorem fxKitAny_ok {K : PySem.W.Frag} {x : Str} {l : List Str} {b : Bool} (h : fxKitAny x l b K = true) : PySem.W.kitAny K (.ref (He.ga K x)) (l.map fun y => Value.ref (He.ga K y)) = some b := of_decide_eq_true h
/-! raise X(e, ..) -/
section
variable {X : Cx} {W : WX} {x : Str} {e : Expr} {es : List Expr} {t : TA} {p pos pos2 : Pos} {k : Nat} {d : He.DefD} {ps : List Str} {sp : Sp}
theorem z_raiseO (hc : X.calm = true) (tk : Takes X W) (f : fxOex x X.K = true) (gC : X.mg x = some (.ref (He.ga X.K x))) (hg : Gl X x) (F : Pr False X.prog X.w X.K X.mg X.base k (He.ma X.K (He.ga X.K x) "__init__") d ps sp) (hr : Room (k + 1) X.A)
    (hx : Passes (L2.CX X.prog X.w) X (fun _ _ _ => False)) (ha : PA X (e :: es) t) (hd : d.dfl = []) (hk : d.kwd = [])
    (h : ∀ (kV doc pm : Value) (an : Option Addr) (cdv ct : Value) (us : List Value), us.length = ps.length →
      bindArgs (PySem.W.fnOf d.name d.qual d.params d.body d.scope .none kV doc pm an cdv ct) ⟨us, []⟩ = pure (ps.zip us))
    (hdb : (x == ("__debug__" : Str)) = false := by decide) (he : starEach (e :: es) X.env = (false, eval e X.env) :: starEach es X.env := by rfl) (hpl : (backTo pos (starEach es X.env)).any (·.1) = false := by rfl) :
    PS X (.Raise (some (.Call (.Name x p) (e :: es) [] pos)) none pos2) (zS (zRaise (tMkO (He.ga X.K x) sp [] t) W)) := by
  obtain ⟨fd, FD, OK⟩ := F.ex
  have e1 : d.dvs X.K = [] := by unfold He.DefD.dvs; rw [hd]; rfl
  have e2 : d.kws X.K = [] := by unfold He.DefD.kws; rw [hk]; rfl
  rw [e1, e2] at FD
  have M := fxOex_ok f
  exact ps_raise hc tk (pmk_oex (dvs := []) M.t M.i M.f OK.ok hr (FD.bindsN h) .nil hx hg gC ha hdb he hpl)
end
/-! self.f = e in such an __init__ -/
def zOst (K : PySem.W.Frag) (f : Str) (to te : TE) : TZ := fun nx rt bk ct σ H => tOst K f to te ⟨nx, rt, bk, ct⟩ σ H
theorem z_ost {X : Cx} {o e : Expr} {to te : TE} {f : Str} {p' pos : Pos} (ho : PE X o to) (he : PE X e te) (hs : swapsWith e (some (.Attribute o f p')) pos.line X.env = pure false := by rfl) : PS X (.Assign [.Attribute o f p'] e pos) (zS (zOst X.K f to te)) := ps_ost ho he hs
/-! readings -/
section
variable {K : PySem.W.Frag} {nx bk ct : L2.St → Hp → Prop} {rt : VK} {σ : L2.St} {H : Hp} {to te : TE} {t : TA} {f : Str} {a C : Addr} {y v : V} {W : WX} {sp : Sp}
def zOst1 (K : PySem.W.Frag) (f : Str) (y x : V) (nx : L2.St → Hp → Prop) (σ : L2.St) (H2 : Hp) : Prop := ∃ a C : Addr, x = .ref a ∧ OexC K C ∧ PySem.W.findIn K (.ref C) f = some none ∧
  ((H2 a = some (exo a C none) ∧ ∀ dx, H2 dx = none → dx ≠ a → nx σ (upd (upd H2 dx (exd dx [(f, y)])) a (exo a C (some dx)))) ∨
    ∃ (dx : Addr) (fs : List (Str × V)), H2 a = some (exo a C (some dx)) ∧ H2 dx = some (exd dx fs) ∧ fs.length ≤ 900 ∧ nx σ (upd H2 dx (exd dx ((f, y) :: fs))))
theorem i_ost (h : te σ H fun y H1 => to σ H1 fun x H2 => zOst1 K f y x nx σ H2) : zOst K f to te nx rt bk ct σ H := h
theorem i_ost1 (T : OexC K C) (n : PySem.W.findIn K (.ref C) f = some none) (e : H a = some (exo a C none)) (k : ∀ dx, H dx = none → dx ≠ a → nx σ (upd (upd H dx (exd dx [(f, y)])) a (exo a C (some dx)))) : zOst1 K f y (.ref a) nx σ H :=
  ⟨a, C, rfl, T, n, .inl ⟨e, k⟩⟩
def zMkO1 (C : Addr) (sp : Sp) (W : WX) (σ : L2.St) (vs : List V) (H1 : Hp) : Prop := vs.length ≤ 1000 ∧ ∀ a, H1 a = none → sp (.ref a :: (vs ++ [])) (upd H1 a (exo a C none))
  (fun v H2 => v = .non ∧ ∃ (d : Addr) (fs : List (Str × V)), H2 a = some (exo a C (some d)) ∧ H2 d = some (exd d fs) ∧ H1 d = none ∧ W (.ref C) (some d) σ (upd (del H2 a) d (.xd fs))) (fun _ _ _ => False)
theorem i_raiseO (h : t σ H fun vs H1 => zMkO1 C sp W σ vs H1) : zRaise (tMkO C sp [] t) W nx rt bk ct σ H := h
/-- one field -/
theorem i_mkO1 {g : Str} (hs : ∀ (a : Addr) (H0 : Hp) (Q : VK) (E : XK), H0 a = some (exo a C none) → (∀ dx, H0 dx = none → dx ≠ a → Q .non (upd (upd H0 dx (exd dx [(g, v)])) a (exo a C (some dx)))) → sp [.ref a, v] H0 Q E)
    (k : ∀ d H', New H d (.xd [(g, v)]) H' → W (.ref C) (some d) σ H') : zMkO1 C sp W σ [v] H := by
  refine ⟨by simp, fun a fa => hs a _ _ _ upd_same fun dx fd ne => ⟨rfl, dx, [(g, v)], upd_same, ?_, ?_, ?_⟩⟩
  · rw [upd_ne ne, upd_same]
  · rw [upd_ne ne] at fd; exact fd
  · rw [upd_ne ne] at fd
    have e : upd (del (upd (upd (upd H a (exo a C none)) dx (exd dx [(g, v)])) a (exo a C (some dx))) a) dx (.xd [(g, v)]) = upd H dx (.xd [(g, v)]) := by
      funext b
      by_cases h1 : b = dx
      · subst h1; rw [upd_same, upd_same]
      · rw [upd_ne h1, upd_ne h1]
        by_cases h2 : b = a
        · subst h2; rw [del_same, fa]
        · rw [del_ne h2, upd_ne h2, upd_ne h1, upd_ne h2]
    rw [e]
    exact k dx _ ⟨fd, rfl⟩
def tXf1 (a : Addr) (cls : Value) (d : Option Addr) (C : Addr) (f : Str) (x : V) (H1 : Hp) (Q : VK) : Prop := x = .ref a ∧ cls = .ref C ∧ ∃ (dd : Addr) (fs : List (Str × V)) (v : V), d = some dd ∧ H1 dd = some (.xd fs) ∧ fs.lookup f = some v ∧ Q v H1
variable {cls : Value} {d : Option Addr} {Q : VK} {dd : Addr} {fs : List (Str × V)}
theorem i_xf (h : te σ H fun x H1 => tXf1 a cls d C f x H1 Q) : tXf a cls d C f te σ H Q := h
theorem i_xf1 (e : H dd = some (.xd fs)) (l : fs.lookup f = some v) (q : Q v H) : tXf1 a (.ref C) (some dd) C f (.ref a) H Q := ⟨rfl, rfl, dd, fs, v, rfl, e, l, q⟩
theorem i_isET {tp D : Addr} {cs : List Addr} {b : Bool} (C : ExC K D) (hd : DOk d H) (ht : H tp = some (.tup (cs.map V.ref))) (e : PySem.W.kitAny K (.ref D) (cs.map Value.ref) = some b) (q : Q (.bl b) H) : rIsET K (.ref D) d a [V.ref a, .ref tp] H Q :=
  ⟨D, tp, cs.map V.ref, cs.map Value.ref, b, rfl, rfl, C, hd, ht, by
    clear ht e
    induction cs with
    | nil => exact .nil
    | cons c cs ih => exact .cons (.own c) ih, e, q⟩
end
/-- the dict of the modules is no empty dict, no list -/
def fxSysM : Fx := fun K => match K.lookup sysModules with
  | some o => (match o.data with
    | .dict es _ => es.size != 0
    | .seq _ _ => false
    | _ => true)
  | none => false
/-! ### repr of data that hold empty dicts -/
mutual
inductive DpX (K : PySem.W.Frag) (H : Hp) : V → PyData → Prop
  | non : DpX K H .non .none
  | bl (b : Bool) : DpX K H (.bl b) (.bool b)
  | int (i : Int) : DpX K H (.int i) (.int i)
  | str (x : Str) : DpX K H (.str x) (.str x)
  | lst {a : Addr} {xs : List V} {ds : List PyData} : H a = some (.lst xs) → DpXAll K H xs ds → DpX K H (.ref a) (.list ds)
  | tup {a : Addr} {xs : List V} {ds : List PyData} : H a = some (.tup xs) → DpXAll K H xs ds → DpX K H (.ref a) (.tuple ds)
  | dct {a : Addr} : H a = some (.dK []) → DpX K H (.ref a) (.dict [])
inductive DpXAll (K : PySem.W.Frag) (H : Hp) : List V → List PyData → Prop
  | nil : DpXAll K H [] []
  | cons {v : V} {vs : List V} {d : PyData} {ds : List PyData} : DpX K H v d → DpXAll K H vs ds → DpXAll K H (v :: vs) (d :: ds)
end
theorem sys_seq {K : PySem.W.Frag} {h : Heap} {o : Obj} {its : Array Value} {n : Nat} (sm : fxSysM K = true) (X : K.In h) (e : h.get? sysModules = some o) (d : o.data = .seq its n) : False := by
  unfold fxSysM at sm
  cases l : K.lookup sysModules with
  | none => rw [l] at sm; cases sm
  | some o' =>
    have e' := X _ _ l
    rw [e] at e'
    cases e'
    rw [l] at sm
    simp only at sm
    rw [d] at sm
    cases sm
section
variable {X : Cx} {pins : List (Addr × Obj)} {σ : L2.St} {H : Hp} {s : Shared}
mutual
theorem DpX.reads (sm : fxSysM X.K = true) (I : Inv X pins σ H s) : ∀ (d : PyData) (v : V) (u : Value), DpX X.K H v d → RelV v u → ∃ as, Reads s.heap u d as ∧ sysModules ∉ as
  | .none, _, _, h, r => by
    cases h
    cases r
    exact ⟨_, Reads.none, by simp⟩
  | .bool b, _, _, h, r => by
    cases h
    cases r
    exact ⟨_, Reads.bool b, by simp⟩
  | .int i, _, _, h, r => by
    cases h
    obtain ⟨t, rfl⟩ := r
    exact ⟨_, Reads.int i t, by simp⟩
  | .str x, _, _, h, r => by
    cases h
    obtain ⟨t, rfl⟩ := r
    exact ⟨_, Reads.str x t, by simp⟩
  | .list ds, _, _, h, r => by
    cases h with
    | lst hs ha =>
      cases r
      obtain ⟨its, rv, ⟨o, n, ho, hc, _, hd⟩, _⟩ := I.list (SqL.of hs)
      obtain ⟨as, hr, hn⟩ := DpX.readsAll sm I ds _ its ha rv
      refine ⟨_, Reads.list ho hc hd hr, fun z => ?_⟩
      rcases List.mem_cons.mp z with z | z
      · rw [← z] at ho
        exact sys_seq sm I.kIn ho hd
      · exact hn z
  | .tuple ds, _, _, h, r => by
    cases h with
    | tup hs ha =>
      cases r
      obtain ⟨its, rv, ⟨o, ho, hc, n, hd⟩, _⟩ := I.tuple (SqT.of hs)
      obtain ⟨as, hr, hn⟩ := DpX.readsAll sm I ds _ its ha rv
      exact ⟨_, Reads.tuple ho hc hd hr, hn⟩
  | .dict kvs, _, _, h, r => by
    cases h with
    | @dct a hs =>
      cases r
      have x : ObjOk X.prog X.w H s.heap a (.dK []) := I.hok a _ hs
      obtain ⟨_, hn, vs, kv, o, es, ep, ho, hex, hd, hk, hp, _⟩ := x
      cases kv
      have e0 : es.toList = [] := by cases hh : es.toList with
        | nil => rfl
        | cons e r => rw [hh] at hp; cases hp
      refine ⟨_, Reads.dict (kvs := []) (as := []) (bs := []) ho hex.1 hd (by rw [e0]; exact .nil) (by rw [e0]; exact .nil), fun z => ?_⟩
      simp only [List.append_nil, List.mem_singleton] at z
      rw [← z] at hn
      simp at hn
theorem DpX.readsAll (sm : fxSysM X.K = true) (I : Inv X pins σ H s) : ∀ (ds : List PyData) (vs : List V) (us : List Value), DpXAll X.K H vs ds → Vals vs us → ∃ as, ReadsAll s.heap us ds as ∧ sysModules ∉ as
  | [], _, _, h, r => by
    cases h
    cases r
    exact ⟨_, ReadsAll.nil, by simp⟩
  | d :: ds, _, _, h, r => by
    cases h with
    | cons h1 h2 =>
      cases r with
      | cons r1 r2 =>
        obtain ⟨as, q1, n1⟩ := DpX.reads sm I d _ _ h1 r1
        obtain ⟨bs, q2, n2⟩ := DpX.readsAll sm I ds _ _ h2 r2
        exact ⟨_, ReadsAll.cons q1 q2, fun z => (List.mem_append.mp z).elim n1 n2⟩
end
end
def rReprX (K : PySem.W.Frag) : List V → Hp → VK → Prop := fun vs H Q => rRepr K vs H Q ∨ ∃ a d, vs = [.ref a] ∧ DpX K H (.ref a) d ∧ d.showable = true ∧ d.depth ≤ 40 ∧ d.shown.length ≤ 100000 ∧ Q (.str d.shown) H
theorem creprX {X : Cx} {k : Nat} {g : Prop} (K : PySem.W.Frag) (h : X.K = K) (sm : fxSysM K = true) (hr : Room k X.A) (gd : Gd g X.A) (hg : g) : CallR X (.builtin "repr") (rReprX K) := by
  subst h
  intro pins s σ H vs us Q I r h
  rcases h with h | ⟨a, d, rfl, hd, hs, dp, sz, q⟩
  · exact crepr hr gd hg _ _ _ _ _ _ _ I r h
  · obtain ⟨u, rfl, rx⟩ := Vals.one r
    obtain ⟨as, hr', hn⟩ := DpX.reads sm I d _ u hd rx
    cases rx
    exact PySem.repr_of_reads' hr' hs (fun _ => hn) (gd hg) (by have := hr.un; omega) (fun _ _ e => e)
      (fun h' u tk hk => ⟨.str _, H, I.kept (t' := tk) hk, ⟨_, rfl⟩, q⟩) (by rw [sizeLine_eq]; omega)
theorem i_reprX {K : PySem.W.Frag} {H : Hp} {Q : VK} {x : V} {d : PyData} (h : Dp K H x d) (n : Neat d) (q : Q (.str d.shown) H) : rReprX K [x] H Q := .inl (i_repr h n q)
theorem i_reprD {K : PySem.W.Frag} {H : Hp} {Q : VK} {a : Addr} {d : PyData} (h : DpX K H (.ref a) d) (n : d.showable = true) (dp : d.depth ≤ 40) (sz : d.shown.length ≤ 100000) (q : Q (.str d.shown) H) : rReprX K [.ref a] H Q := .inr ⟨a, d, rfl, h, n, dp, sz, q⟩
/-! ### an empty dict is in no list of texts -/
section
open AutoSeq1 (wpAny_loadPart')
open MeetsSeq
theorem str_declines_dict (b : Str) (u : Tok) (l : Addr) (es : Array DictEntry) (n : Nat) (dd : Option Addr) (sl : Array (Option Value)) :
    Meets (Builtin.«str.__eq__» ⟨[.str b u, .ref l], []⟩) (fun _ R s => s.heap.get? l = some { cls := .type "dict", dict := dd, data := .dict es n, slots := sl } ∧ R (.ok (.ret .notImplemented)) s) :=
  .of_wp fun prog w A R s h => by obtain ⟨hp, g, d, tk, os⟩ := s; obtain ⟨hl, h⟩ := h; have f1 := F.sub_dict_str; wp_walk using wpAny_loadPart' hl, wpAny_load hl; exact ⟨_, rfl, h⟩
theorem dict_declines_str (b : Str) (u : Tok) (l : Addr) (es : Array DictEntry) (n : Nat) (dd : Option Addr) (sl : Array (Option Value)) :
    Meets (Builtin.«dict.__eq__» ⟨[.ref l, .str b u], []⟩) (fun _ R s => s.heap.get? l = some { cls := .type "dict", dict := dd, data := .dict es n, slots := sl } ∧ R (.ok (.ret .notImplemented)) s) :=
  .of_wp fun prog w A R s h => by obtain ⟨hp, g, d, tk, os⟩ := s; obtain ⟨hl, h⟩ := h; have f1 := F.sub_str_dict; wp_walk using wpAny_loadPart' hl, wpAny_load hl; exact ⟨_, rfl, h⟩
theorem eqAt_str_dict {A : Around} {s : Shared} {l : Addr} {es : Array DictEntry} {n : Nat} {o : Obj} (b : Str) (u : Tok) (ho : s.heap.get? l = some o) (hc : o.cls = .type "dict") (hd : o.data = .dict es n) (hu : A.units < cLine) : SeqAt.EqAt A s (.str b u) (.ref l) false := fun prog w E Q h => by
  obtain ⟨cls, dd, data, sl⟩ := o
  simp only at hc hd
  subst hc hd
  unfold eqBool
  refine wpAny_holding ?_
  refine wpAny_ite_split (fun hab => absurd (eq_of_beq hab) nofun) (fun _ => ?_)
  refine wpAny_bind (SeqAt.rc_eq_decline_or (k := false) (typeIs_str s b u) ⟨_, ho, rfl⟩ (by decide) F.sub_dict_str F.slot_str_eq F.slot_dict_eq_refl
    (fun _ hq => call_meets F.slot_str_eq (typeIs_str s b u) F.entry_str_eq (F.args_str_eq_2 _ _) (str_declines_dict b u l es n dd sl) ⟨ho, hq⟩)
    (fun _ hq => call_meets F.slot_dict_eq_refl ⟨_, ho, rfl⟩ F.entry_dict_eq (F.args_dict_eq_2 _ _) (dict_declines_str b u l es n dd sl) ⟨ho, hq⟩)
    (fun _ hq => wpAny_of_eq (rfl : isSame (.str b u) (.ref l) = pure false) hq) (.inr hu) ?_)
  exact wpAny_truthy_bool h
end
def rNInX (K : PySem.W.Frag) : R2 := fun x y H Q => rNInW K x y H Q ∨ ∃ (a p : Addr) (ys : List Str), x = .ref a ∧ y = .ref p ∧ H a = some (.dK []) ∧ H p = some (.lst (ys.map V.str)) ∧ Q (.bl true) H
theorem opNotInX {X : Cx} {k : Nat} (K : PySem.W.Frag) (h : X.K = K) (hr : Room k X.A) : OpR X (compareOp .NotIn) (rNInX K) := by
  subst h
  intro pins s σ H x y v u Q I rx ry h
  rcases h with h | ⟨a, p, ys, rfl, rfl, ha, hp, q⟩
  · exact opNotIn X.K rfl hr pins s σ H x y v u Q I rx ry h
  · cases rx
    cases ry
    obtain ⟨its, r, pl, hz⟩ := I.list (SqL.of hp)
    have x : ObjOk X.prog X.w H s.heap a (.dK []) := I.hok a _ ha
    obtain ⟨_, hn, vs, kv, o, es, ep, ho, hex, hd, hk, hpp, _⟩ := x
    refine SeqAt.notIn_listAt (fun _ => false) pl.isList (fun w hw => ?_) ⟨.bl _, H, I, rfl, ?_⟩
    · have key : ∀ {ys : List Str} {its : List Value}, Vals (ys.map V.str) its → ∀ w ∈ its, ∃ b u, w = .str b u := by
        intro ys
        induction ys with
        | nil => intro its r w hw; cases r; cases hw
        | cons y ys ih =>
          intro its r w hw
          cases r with
          | cons r1 r2 =>
            rcases List.mem_cons.mp hw with rfl | hw
            · obtain ⟨t, rfl⟩ := r1
              exact ⟨_, _, rfl⟩
            · exact ih r2 w hw
      obtain ⟨b, u, rfl⟩ := key r w (by simpa using hw)
      exact eqAt_str_dict b u ho hex.1 hd (by have := hr.un; show X.A.in1.units < cLine; unfold Around.in1; simp; omega)
    · rw [show (its.toArray.any fun _ => false) = false by simp]
      exact q
theorem i_ninX {K : PySem.W.Frag} {H : Hp} {Q : VK} {x y : V} (h : rNInW K x y H Q) : rNInX K x y H Q := .inl h
theorem i_ninD0 {K : PySem.W.Frag} {H : Hp} {Q : VK} {a p : Addr} {ys : List Str} (ha : H a = some (.dK [])) (hp : H p = some (.lst (ys.map V.str))) (q : Q (.bl true) H) : rNInX K (.ref a) (.ref p) H Q := .inr ⟨a, p, ys, rfl, rfl, ha, hp, q⟩
theorem i_ninDp {K : PySem.W.Frag} {H : Hp} {Q : VK} {x y : V} {d : PyData} {ds : List PyData} (h1 : Dp K H x d) (h2 : Dp K H y (.list ds)) (s1 : SeqAt.shaped d = true) (s2 : SeqAt.shaped (.list ds) = true) (q : Q (.bl (!(ds.any fun z => PyData.eqv z d))) H) : rNInW K x y H Q := .inr (.inr ⟨d, ds, h1, h2, s1, s2, q⟩)
/-! ### list.index of data -/
theorem mt_indexK {X : Cx} {k : Nat} (K : PySem.W.Frag) (h : X.K = K) (hr : Room k X.A) : MtR X "list.index" (rIndexD K) := by subst h; exact mt_indexD (by have := hr.un; omega)
theorem i_index {K : PySem.W.Frag} {H : Hp} {Q : VK} {a : Addr} {y : V} {d z : PyData} {ds : List PyData} {j : Nat} (hl : Dp K H (.ref a) (.list ds)) (hy : Dp K H y d) (sl : SeqAt.shaped (.list ds) = true) (sd : SeqAt.shaped d = true) (hz : ds[j]? = some z) (e : PyData.eqv z d = true)
    (no : ∀ (m : Nat) (z' : PyData), m < j → ds[m]? = some z' → PyData.eqv z' d = false) (q : Q (.int (j : Nat)) H) : rIndexD K (.ref a) [y] H Q := ⟨a, y, d, ds, j, z, rfl, rfl, hl, hy, sl, sd, hz, e, no, q⟩
theorem pe_xfK {X' X : Cx} (K : PySem.W.Frag) {a C : Addr} {oe : Obj} {cls : Value} {d : Option Addr} {pn : List (Addr × Obj)} {e : Expr} {te : TE} {pos : Pos} {n : Str} (hX : X' = X.suite a ((a, oe) :: pn)) (hK : X.K = K) (T : XfC K C) (hno : PySem.W.findIn K (.ref C) n = some none)
    (hz : Zc cls d oe) (hf : ∃ vs, oe.data = .fields vs) (he : PE X' e te) (hb : attributeBase e n X.env (eval e X.env) = eval e X.env) : PE X' (.Attribute e n pos) (tXf a cls d C n te) := by
  subst hX hK
  exact pe_xf T hno hz hf he hb
theorem pe_bmK {X : Cx} (K : PySem.W.Frag) (hK : X.K = K) {o e : Expr} {es : List Expr} {to : TE} {t : TA} {name : Str} {apos cpos : Pos} {T id : String} {r : V → List V → Hp → VK → Prop} (pa : PlainAttrs T) (slot : Slot T name id) (hty : typeOf (.builtin id) = pure (.type "method_descriptor")) (hm : MtR X id r) (ho : PE X o to) (ha : PA X (e :: es) t)
    (hbase : attributeBase o name X.env (eval o X.env) = eval o X.env := by rfl)
    (hfew : ((backTo cpos (starEach (e :: es) X.env)).all (fun x => !x.1) && (backToKw cpos (keywordEach [] X.env)).all (fun x => x.1.isSome)
      && decide ((e :: es).length + ([] : List Keyword).length + (if ([] : List Keyword).isEmpty then 0 else 1) < 30)) = true := by rfl)
    (hline : (apos.endLine == cpos.line) = true := by rfl) (hs : starEach (e :: es) X.env = (false, eval e X.env) :: starEach es X.env := by rfl) (hplain : (backTo cpos (starEach es X.env)).any (·.1) = false := by rfl) :
    PE X (.Call (.Attribute o name apos) (e :: es) [] cpos) (tBM K T r to t) := by
  subst hK
  exact pe_bm pa slot hty hm ho ha hbase hfew hline hs hplain
end Z

/-! Z: not in of a list or a dict; for over enumerate. -/
namespace Z
open PySem PySem.Spec PyProof.Rows L2
def rNInU (K : PySem.W.Frag) : R2 := fun x y H Q => rNInX K x y H Q ∨ zDN y x H Q
theorem opNotInU {X : Cx} {k : Nat} (K : PySem.W.Frag) (h : X.K = K) (hr : Room k X.A) (hu : X.A.units + 64 < cLine) : OpR X (compareOp .NotIn) (rNInU K) := by
  intro pins s σ H x y v u Q I rx ry h'
  rcases h' with h' | ⟨a, o, ey, g, q⟩
  · exact opNotInX K h hr pins s σ H x y v u Q I rx ry h'
  · subst ey
    cases ry
    exact d_notIn (hu1 hu) I g rx fun s3 I3 => ⟨.bl _, H, I3, rfl, q⟩
section
variable {K : PySem.W.Frag} {H : Hp} {Q : VK} {p : Addr} {a : Str} {ys : List Str} {kvs : List (Key × V)}
theorem i_nuL (h : H p = some (.lst (ys.map V.str))) (q : Q (.bl (!decide (a ∈ ys))) H) : rNInU K (.str a) (.ref p) H Q := .inl (i_ninX (i_ninL h q))
theorem i_nuD (h : H p = some (.dK kvs)) (q : Q (.bl (!(valV kvs (.inr a)).isSome)) H) : rNInU K (.str a) (.ref p) H Q := .inr (i_dnK h q)
end
section
variable {K : PySem.W.Frag} {H : Hp} {a : Addr} {xs : List V} {g : TG} {tb : TZ} {nx : L2.St → Hp → Prop} {rt : VK} {σ : L2.St}
theorem loop_enum (Pv : Nat → L2.St → Hp → Prop) (h0 : Pv 0 σ H) (hl : ∀ i σ H, i ≤ xs.length → Pv i σ H → SqL K H a xs)
    (hs : ∀ i x T σ H H', xs[i]? = some x → Pv i σ H → New H T (.tup [.int (i : Nat), x]) H' → g (.ref T) σ H' fun σ2 H2 => tb (Pv (i + 1)) rt nx (Pv (i + 1)) σ2 H2) (hd : ∀ σ H, Pv xs.length σ H → nx σ H) : zLoop (Ite K a) g tb nx rt σ H := by
  refine loop_by xs.length Pv h0 (fun i σ H hi p => ⟨xs, xs[i], hl i σ H (Nat.le_of_lt hi) p, by simp [hi]⟩) (fun σ H p => ⟨xs, hl _ σ H (Nat.le_refl _) p, Nat.le_refl _⟩) (fun i x σ H H' hi p y => ?_) hd
  obtain ⟨T, v, rfl, fT, rfl, y⟩ := y
  exact hs i v T σ H _ (y xs (hl i σ H (Nat.le_of_lt hi) p)) p ⟨fT, rfl⟩
end
end Z

/-! Z: == of tuples that hold things with a == of their own, either answer. -/
namespace GQ
open PySem PySem.SeqAt
open AutoSeq1 (wpAny_loadPart')
open MeetsSeq MeetsSeq2 MeetsSeq3 SeqRoads2
section
variable {prog : Program} {w : World} {A : Around} {R : Result → Shared → Prop}
theorem tuple_eqB (l b : Addr) (items items2 : Array Value) (n n2 : Nat) (dd dd2 : Option Addr) (sl sl2 : Array (Option Value)) (I : Nat → Shared → Prop) (es : Nat → Bool)
    (turn : ∀ i (h1 : i < items.size) (h2 : i < items2.size) s, I i s → wpAny (model prog w) A.in1 (eqBool items[i] items2[i]) (fun r s' => r = es i ∧ (es i = true → I (i + 1) s') ∧ (es i = false → R (.ok (.ret (.bool false))) s')) (fun e s' => R (.error e) s') s)
    (fin : ∀ s, I (min items.size items2.size) s → R (.ok (.ret (.bool (items.size == items2.size)))) s) {s : Shared} (hl1 : s.heap.get? l = some { cls := .type "tuple", dict := dd, data := .seq items n, slots := sl })
    (hb1 : s.heap.get? b = some { cls := .type "tuple", dict := dd2, data := .seq items2 n2, slots := sl2 }) (h : I 0 s) :
    wpAny (model prog w) A.in1 (Builtin.«tuple.__eq__» ⟨[.ref l, .ref b], []⟩) (FinOf prog w A R) (fun e s' => R (.error e) s') s := by
  have f2 := AutoSeq1.sub_tuple_tuple
  have hZ : (items.toList.zip items2.toList).length = min items.size items2.size := by simp
  have h0 := h
  obtain ⟨hp, g, d, tk, os⟩ := s
  wp_walk using wpAny_loadPart' hl1, wpAny_loadPart' hb1, wpAny_forIn_list _ (fun rest b s' => b.1 = none ∧ ∃ i, rest = (items.toList.zip items2.toList).drop i ∧ i ≤ min items.size items2.size ∧ I i s') _
  case turn =>
    rintro ⟨y, x⟩ rest b s' ⟨hb', i, hz, hi, hI⟩
    have hlt : i < (items.toList.zip items2.toList).length := by
      rcases Nat.lt_or_ge i (items.toList.zip items2.toList).length with h' | h'
      · exact h'
      · rw [List.drop_of_length_le h'] at hz; cases hz
    have h1 : i < items.size := by omega
    have h2 : i < items2.size := by omega
    rw [List.drop_eq_getElem_cons hlt] at hz
    injection hz with hyx hrest
    have hy : y = items[i] := by have := congrArg Prod.fst hyx; simpa using this
    have hx : x = items2[i] := by have := congrArg Prod.snd hyx; simpa using this
    subst hy hx
    refine wpAny_bind (wpAny_mono (turn i h1 h2 s' hI) (fun r s2 q2 => ?_) fun _ _ x => x)
    obtain ⟨hr, qT, qF⟩ := q2
    subst hr
    cases e : es i with
    | true =>
      have q2 := qT e
      wp_walk
      exact ⟨rfl, i + 1, hrest, by omega, q2⟩
    | false =>
      have q2 := qF e
      wp_walk
      exact q2
  case fin =>
    rintro ⟨b1, b2⟩ s' ⟨hb', i, hz, hi, hI⟩
    simp only at hb'
    subst hb'
    have hge : min items.size items2.size ≤ i := by
      rcases Nat.lt_or_ge i (items.toList.zip items2.toList).length with h' | h'
      · rw [List.drop_eq_getElem_cons h'] at hz; cases hz
      · exact hZ ▸ h'
    have hi' : i = min items.size items2.size := by omega
    have hR := fin s' (hi' ▸ hI)
    wp_walk
    simpa [Builtin.Tuple.tupleCompareSizes] using hR
  case h =>
    exact ⟨rfl, 0, rfl, Nat.zero_le _, h0⟩
end
section
variable {prog : Program} {w : World} {A : Around} {E : Value → Shared → Prop} {s : Shared}
theorem rc_tupB {l b : Addr} {items items2 : Array Value} {Q : Value → Shared → Prop} (hu : A.units < cLine) (I : Nat → Shared → Prop) (es : Nat → Bool)
    (hl : s.heap.IsTuple l items) (hb : s.heap.IsTuple b items2)
    (turn : ∀ i (h1 : i < items.size) (h2 : i < items2.size) s, I i s → wpAny (model prog w) A.in1 (eqBool items[i] items2[i]) (fun r s' => r = es i ∧ (es i = true → I (i + 1) s') ∧ (es i = false → Q (.bool false) s')) E s)
    (fin : ∀ s, I (min items.size items2.size) s → Q (.bool (items.size == items2.size)) s) (h : I 0 s) : wpAny (model prog w) A (richCompare .Eq (.ref l) (.ref b)) Q E s := by
  obtain ⟨⟨cls, dd, data, sl⟩, ho, hc, n, hd⟩ := id hl
  obtain ⟨⟨cls2, dd2, data2, sl2⟩, ho2, hc2, n2, hd2⟩ := id hb
  simp only at hc hd hc2 hd2
  subst hc hd hc2 hd2
  refine wpAny_richCompare_same_room (op := .Eq) ⟨_, ho, rfl⟩ ⟨_, ho2, rfl⟩ F.slot_tuple_eq (call_here F.slot_tuple_eq ⟨_, ho, rfl⟩ F.entry_tuple_eq (F.args_tuple_eq_2 _ _) ?_) hu
  refine tuple_eqB (R := wants (fun v s' => v ≠ .notImplemented ∧ Q v s') E) l b items items2 n n2 dd dd2 sl sl2 I es (fun i h1 h2 s' hI => ?_) (fun s' q => ⟨(fun x => nomatch x), fin s' q⟩) ho ho2 h
  exact wpAny_mono (turn i h1 h2 s' hI) (fun r s2 z => ⟨z.1, z.2.1, fun e => ⟨(fun x => nomatch x), z.2.2 e⟩⟩) fun _ _ x => x
end
end GQ
namespace Z
open PySem PySem.Spec PyProof.Rows L2
/-- how two values compare, by the abstract heap: the answer -/
abbrev EqD := V → V → Bool → Hp → Prop
def MonB (D : EqD) : Prop := ∀ x y b H H', Same H H' → D x y b H → D x y b H'
/-- a thing is equal to itself -/
def RflB (D : EqD) : Prop := ∀ x b H, D x x b H → b = true
structure SubG (g : Prop) (X : Cx) (n : Nat) (A : Around) : Prop where
  room : Room n A
  fr : A.frames = X.A.frames
  gd : Gd g A
theorem SubG.in1 {g : Prop} {X : Cx} {n : Nat} {A : Around} (s : SubG g X (n + 1) A) : SubG g X n A.in1 := ⟨s.room.in1, s.fr, s.gd⟩
def EqB (g : Prop) (X : Cx) (n : Nat) (D : EqD) : Prop :=
  ∀ (A : Around) (pins : List (Addr × Obj)) (s : Shared) (σ : L2.St) (H : Hp) (x y : V) (b : Bool) (u v : Value), SubG g X n A → Inv X pins σ H s → RelV x u → RelV y v → D x y b H →
    wpAny (model X.prog X.w) A (eqBool u v) (fun r s' => r = b ∧ ∃ H', Inv X pins σ H' s' ∧ Same H H') X.xe s
def RcB (g : Prop) (X : Cx) (n : Nat) (D : EqD) : Prop :=
  ∀ (A : Around) (pins : List (Addr × Obj)) (s : Shared) (σ : L2.St) (H : Hp) (x y : V) (b : Bool) (u v : Value), SubG g X n A → Inv X pins σ H s → RelV x u → RelV y v → D x y b H →
    wpAny (model X.prog X.w) A (richCompare .Eq u v) (fun r s' => r = .bool b ∧ ∃ H', Inv X pins σ H' s' ∧ Same H H') X.xe s
section
variable {g : Prop} {X : Cx} {n m : Nat} {D D' : EqD}
theorem EqB.mono (h : EqB g X n D) (hn : n ≤ m) : EqB g X m D := fun A pins s σ H x y b u v sb => h A pins s σ H x y b u v ⟨sb.room.mono hn, sb.fr, sb.gd⟩
def OrB (D D' : EqD) : EqD := fun x y b H => D x y b H ∨ D' x y b H
theorem EqB.or (h : EqB g X n D) (h' : EqB g X n D') : EqB g X n (OrB D D') := fun A pins s σ H x y b u v sb I rx ry d => by
  rcases d with d | d
  · exact h A pins s σ H x y b u v sb I rx ry d
  · exact h' A pins s σ H x y b u v sb I rx ry d
theorem MonB.or (h : MonB D) (h' : MonB D') : MonB (OrB D D') := fun x y b H H' e d => d.elim (fun d => .inl (h x y b H H' e d)) fun d => .inr (h' x y b H H' e d)
theorem RflB.or (h : RflB D) (h' : RflB D') : RflB (OrB D D') := fun x b H d => d.elim (h x b H) (h' x b H)
/-- flat values -/
def FlatB : EqD := fun x y b _ => flatV x = true ∧ flatV y = true ∧ eqV x y = b
theorem flat_mon : MonB FlatB := fun _ _ _ _ _ _ d => d
theorem eqB_flat : EqB g X 0 FlatB := by
  intro A pins s σ H x y b u v sb I rx ry d
  obtain ⟨fx, fy, e⟩ := d
  have q := eqAt_V (A := A) (s := s) rx ry fx fy
  rw [e] at q
  exact q X.prog X.w X.xe _ ⟨rfl, H, I, Same.refl _⟩
/-- from a rich comparison of references to == inside a tuple: the same object is equal to itself -/
theorem RcB.eqB (h : RcB g X n D) (hr : ∀ x y b H, D x y b H → ∃ a c, x = .ref a ∧ y = .ref c) (rf : RflB D) : EqB g X n D := by
  intro A pins s σ H x y b u v sb I rx ry d
  obtain ⟨a, c, rfl, rfl⟩ := hr _ _ _ _ d
  cases rx
  cases ry
  by_cases hac : a = c
  · subst hac
    have := rf _ _ _ d
    subst this
    exact SeqAt.EqAt.same (A := A) (s := s) (.ref a) X.prog X.w X.xe _ ⟨rfl, H, I, Same.refl _⟩
  · refine GQ.eqBool_refG hac (wpAny_mono (h A pins s σ H (.ref a) (.ref c) b _ _ sb I rfl rfl d) (fun r s' q => ?_) fun _ _ x => x)
    obtain ⟨hr', q⟩ := q
    exact ⟨b, hr', rfl, q⟩
/-- tuples, item by item -/
def TupB (D : EqD) : EqD := fun x y b H => ∃ a c xs ys, ∃ es : Nat → Bool, x = .ref a ∧ y = .ref c ∧ H a = some (.tup xs) ∧ H c = some (.tup ys) ∧ (∀ (i : Nat) x y, xs[i]? = some x → ys[i]? = some y → D x y (es i) H) ∧
  b = (((List.range (min xs.length ys.length)).all es) && decide (xs.length = ys.length))
theorem tup_mon (hD : MonB D) : MonB (TupB D) := fun x y b H H' e d => by
  obtain ⟨a, c, xs, ys, es, hx, hy, h1, h2, p, q⟩ := d
  exact ⟨a, c, xs, ys, es, hx, hy, e _ _ h1, e _ _ h2, fun i x y a b => hD _ _ _ _ _ e (p i x y a b), q⟩
theorem tup_rfl (rf : RflB D) : RflB (TupB D) := fun x b H d => by
  obtain ⟨a, c, xs, ys, es, rfl, hy, h1, h2, p, q⟩ := d
  cases hy
  rw [h1] at h2
  cases h2
  rw [q, decide_eq_true rfl, Bool.and_true, List.all_eq_true]
  intro i hi
  rw [Nat.min_self, List.mem_range] at hi
  exact rf _ _ _ (p i _ _ (List.getElem?_eq_getElem hi) (List.getElem?_eq_getElem hi))
theorem rcB_tup (hD : MonB D) (h : EqB g X n D) : RcB g X (n + 1) (TupB D) := by
  intro A pins s σ H x y b u v sb I rx ry d
  obtain ⟨a, c, xs, ys, es, rfl, rfl, ha, hb, p, rfl⟩ := d
  cases rx
  cases ry
  obtain ⟨its, r, e, z⟩ := I.tuple (SqT.of ha)
  obtain ⟨its2, r2, e2, z2⟩ := I.tuple (SqT.of hb)
  have L1 : its.toArray.size = xs.length := by rw [List.size_toArray, ← r.length]
  have L2' : its2.toArray.size = ys.length := by rw [List.size_toArray, ← r2.length]
  refine GQ.rc_tupB sb.room.units0 (fun i s' => (∀ j, j < i → es j = true) ∧ ∃ H', Inv X pins σ H' s' ∧ Same H H') es e e2 (fun i h1 h2 s' hI => ?_) (fun s' hI => ?_) ⟨(fun j hj => absurd hj (by omega)), H, I, Same.refl _⟩
  · obtain ⟨inv, H1, I1, s1⟩ := hI
    have k1 : i < xs.length := by omega
    have k2 : i < ys.length := by omega
    have g1 : its[i]? = some its.toArray[i] := by
      have h1' : i < its.length := by simpa using h1
      rw [List.getElem?_eq_getElem h1'] <;> simp
    have g2 : its2[i]? = some its2.toArray[i] := by
      have h2' : i < its2.length := by simpa using h2
      rw [List.getElem?_eq_getElem h2'] <;> simp
    obtain ⟨u, hu, ru⟩ := r.get (List.getElem?_eq_getElem k1)
    obtain ⟨v, hv, rv⟩ := r2.get (List.getElem?_eq_getElem k2)
    rw [g1] at hu
    rw [g2] at hv
    rw [Option.some.inj hu, Option.some.inj hv]
    refine wpAny_mono (h A.in1 pins s' σ H1 _ _ (es i) u v sb.in1 I1 ru rv (hD _ _ _ _ _ s1 (p i _ _ (List.getElem?_eq_getElem k1) (List.getElem?_eq_getElem k2)))) (fun r s2 q => ?_) fun _ _ x => x
    obtain ⟨hr, H2, I2, s2⟩ := q
    refine ⟨hr, fun e => ⟨fun j hj => ?_, H2, I2, s1.trans s2⟩, fun e => ⟨?_, H2, I2, s1.trans s2⟩⟩
    · rcases Nat.lt_or_ge j i with l | l
      · exact inv j l
      · obtain rfl : j = i := by omega
        exact e
    · have : (List.range (min xs.length ys.length)).all es = false := by
        rw [List.all_eq_false]
        exact ⟨i, List.mem_range.mpr (by omega), by rw [e]; decide⟩
      rw [this, Bool.false_and]
  · obtain ⟨inv, H1, I1, s1⟩ := hI
    refine ⟨?_, H1, I1, s1⟩
    have : (List.range (min xs.length ys.length)).all es = true := by
      rw [List.all_eq_true]
      intro i hi
      rw [List.mem_range] at hi
      exact inv i (by omega)
    rw [this, Bool.true_and, L1, L2']
    by_cases hl : xs.length = ys.length
    · rw [decide_eq_true hl, hl]; simp
    · rw [decide_eq_false hl, beq_eq_false_iff_ne.mpr hl]
theorem eqB_tup (hD : MonB D) (rf : RflB D) (h : EqB g X n D) : EqB g X (n + 1) (TupB D) := (rcB_tup hD h).eqB (fun _ _ _ _ d => let ⟨a, c, _, _, _, hx, hy, _⟩ := d; ⟨a, c, hx, hy⟩) (tup_rfl rf)
/-- instances with a == of their own -/
def InsB (K : PySem.W.Frag) (E : XK) (Ms : List MA) : EqD := fun x y b H => ∃ (M : MA) (a c dx dy C : Addr) (fs gs : List (Str × V)), M ∈ Ms ∧ x = .ref a ∧ y = .ref c ∧ H a = some (.ins M.C dx fs) ∧ H c = some (.ins C dy gs) ∧ PySem.W.notFirst K M.C (.ref C) = true ∧ M.n = 2 ∧ M.gV K [.ref a, .ref c] [] = [.ref a, .ref c] ∧
  (a = c → b = true) ∧ ∀ H1, Same H H1 → M.sp [.ref a, .ref c] H1 (fun v H' => v = .bl b ∧ Same H1 H') E
theorem ins_mon {K : PySem.W.Frag} {E : XK} {Ms : List MA} : MonB (InsB K E Ms) := fun x y b H H' e d => by
  obtain ⟨M, a, c, dx, dy, C, fs, gs, h1, h2, h3, h4, h5, h6, h7, h8, h9, h10⟩ := d
  exact ⟨M, a, c, dx, dy, C, fs, gs, h1, h2, h3, e _ _ h4, e _ _ h5, h6, h7, h8, h9, fun H1 s => h10 H1 (e.trans s)⟩
theorem ins_rfl {K : PySem.W.Frag} {E : XK} {Ms : List MA} : RflB (InsB K E Ms) := fun x b H d => by
  obtain ⟨M, a, c, dx, dy, C, fs, gs, h1, rfl, h3, h4, h5, h6, h7, h8, h9, h10⟩ := d
  cases h3
  exact h9 rfl
/-- the class at M.C has for == a def with this promise, k levels deep -/
structure MtE (g : Prop) (X : Cx) (k : Nat) (M : MA) : Prop where
  ex : ∃ (f : Addr) (d : He.DefD) (ps : List Str), Meth X.K M.C "__eq__" f ∧ Pr g X.prog X.w X.K X.mg X.base k f d ps M.sp ∧ Bd d ps M.n [] M.gV
theorem rcB_ins {E : XK} {Ms : List MA} (hM : ∀ M ∈ Ms, MtE g X n M) (hx : Passes (L2.CX X.prog X.w) X E) : RcB g X n (InsB X.K E Ms) := by
  intro A pins s σ H x y b u v sb I rx ry d
  obtain ⟨M, a, c, dx, dy, C, fs, gs, hm0, rfl, rfl, ha, hb', nf, hn, hg, _, q⟩ := d
  cases rx
  cases ry
  obtain ⟨f, dd, ps, hm, F, hb⟩ := (hM M hm0).ex
  obtain ⟨fd, FD, OK⟩ := F.ex
  obtain ⟨gg, B⟩ := hb _ _ _ FD
  obtain ⟨mA, J, _⟩ := ins_get I.hok ha
  obtain ⟨mB, J', _⟩ := ins_get I.hok hb'
  obtain ⟨od, J, _⟩ := J.look
  obtain ⟨od', J', _⟩ := J'.look
  obtain ⟨m, hF⟩ := I.fr
  refine PySem.W.cmp_K (op := .Eq) (tb := .ref C) sb.room.units0 hF I.ok.mod.kin J J'.type nf hm.at_ hm.fn ?_
  have e0 : Env0 X.prog X.w X.K X.mg X.base A X.stack s H := by
    have e := I.env0
    exact ⟨by rw [sb.fr]; exact e.frames, e.mod, e.bs, e.bsz, e.funs, e.frf, e.hok, e.bare⟩
  have r2 : Vals [V.ref a, V.ref c] [Value.ref a, Value.ref c] := .cons rfl (.cons rfl .nil)
  refine wpAny_call (codeAny_mono (OK.run A X.stack s H ⟨[.ref a, .ref c], []⟩ (gg [.ref a, .ref c] []) (M.gV X.K [.ref a, .ref c] []) _ E sb.room sb.gd e0 (B.to s [.ref a, .ref c] [] I.kIn hn.symm rfl) (B.rel r2 .nil) (by rw [hg]; exact q H (Same.refl _))) fun r s' hq => ?_)
  match r, hq with
  | .error e, hq => exact hx pins σ H s e s' I hq
  | .ok (.ret u), hq =>
    obtain ⟨z, H', I', rz, ez, ex⟩ := I.after hq
    subst ez
    cases rz
    exact ⟨rfl, H', I', ex⟩
  | .ok .next, hq => exact False.elim hq
  | .ok .brk, hq => exact False.elim hq
  | .ok .cont, hq => exact False.elim hq
theorem eqB_ins {E : XK} {Ms : List MA} (hM : ∀ M ∈ Ms, MtE g X n M) (hx : Passes (L2.CX X.prog X.w) X E) : EqB g X n (InsB X.K E Ms) :=
  (rcB_ins hM hx).eqB (fun _ _ _ _ d => let ⟨_, a, c, _, _, _, _, _, _, hx, hy, _⟩ := d; ⟨a, c, hx, hy⟩) ins_rfl
theorem me_nil : ∀ M ∈ ([] : List MA), MtE g X n M := fun _ h => by cases h
theorem me_cons {C f : Addr} {j : Nat} {d : He.DefD} {ps : List Str} {gV : PySem.W.Frag → List V → List V → List V} {sp : Sp} {Ms : List MA} (me : Meth X.K C "__eq__" f) (F : Pr g X.prog X.w X.K X.mg X.base n f d ps sp) (b : Bd d ps j [] gV) (r : ∀ M ∈ Ms, MtE g X n M) : ∀ M ∈ (⟨C, j, gV, sp⟩ : MA) :: Ms, MtE g X n M := fun M hM => by
  rcases List.mem_cons.mp hM with rfl | hM
  · exact ⟨f, d, ps, me, F, b⟩
  · exact r M hM
/-- tuples of tuples of flat values and of instances with a == of their own -/
def TupTB (K : PySem.W.Frag) (E : XK) (Ms : List MA) : EqD := TupB (TupB (OrB FlatB (InsB K E Ms)))
def rEqTB (K : PySem.W.Frag) (E : XK) (Ms : List MA) : R2 := fun x y H Q => ∃ b, TupTB K E Ms x y b H ∧ ∀ H', Same H H' → Q (.bl b) H'
theorem opEqTB (K : PySem.W.Frag) (hK : X.K = K) {E : XK} {Ms : List MA} (hr : Room (n + 2) X.A) (hgd : Gd g X.A) (hM : ∀ M ∈ Ms, MtE g X n M) (hx : Passes (L2.CX X.prog X.w) X E) : OpR X (compareOp .Eq) (rEqTB K E Ms) := by
  subst hK
  intro pins s σ H x y v u Q I rx ry hq
  obtain ⟨b, d, q⟩ := hq
  show wpAny (model X.prog X.w) X.A (richCompare .Eq v u) (EP X pins σ Q) X.xe s
  have e0 : EqB g X n (OrB FlatB (InsB X.K E Ms)) := (eqB_flat.mono (Nat.zero_le _)).or (eqB_ins hM hx)
  have m0 : MonB (OrB FlatB (InsB X.K E Ms)) := flat_mon.or ins_mon
  have f0 : RflB FlatB := fun x b H d => by
    obtain ⟨_, _, e⟩ := d
    rw [← e]
    cases x <;> simp_all [eqV, flatV]
  refine wpAny_mono (rcB_tup (tup_mon m0) (eqB_tup m0 (f0.or ins_rfl) e0) X.A pins s σ H x y b v u ⟨hr, rfl, hgd⟩ I rx ry d) (fun r s' z => ?_) fun _ _ x => x
  obtain ⟨hr', H', I', e⟩ := z
  subst hr'
  exact ⟨.bl b, H', I', rfl, q H' e⟩
end
end Z

/-! Z: zip of a tuple and a list. -/
namespace Z
open PySem PySem.Spec PyProof.Rows L2
/-- one side of a zip: at S i its iterator stands ahead of item i of xs -/
structure Side (P : Program) (w : World) (it l : Addr) (xs : Array Value) (S : Nat → Heap → Prop) : Prop where
  mv : ∀ {i : Nat} {h h' : Heap}, S i h → (∀ c o, c = it ∨ c = l → h.get? c = some o → h'.get? c = some o) → S i h'
  nx : ∀ {A : Around} {i : Nat} {x : Value} {s : Shared} {Q E : Value → Shared → Prop}, S i s.heap → xs[i]? = some x → (∀ h', S (i + 1) h' → Heap.SameBut it s.heap h' → Q x { s with heap := h' }) →
    wpAny (model P w) A (Builtin.SmallTypes.nextOf (.ref it)) Q E s
  fin : ∀ {A : Around} {i : Nat} {s : Shared} {Q E : Value → Shared → Prop}, A.handled = none → S i s.heap → xs[i]? = none →
    (∀ h' e, Heap.ExtBut it s.heap h' → (∃ o, h'.get? e = some o ∧ o.cls = .type "StopIteration") → E (.ref e) { s with heap := h' }) → wpAny (model P w) A (Builtin.SmallTypes.nextOf (.ref it)) Q E s
section
variable {P : Program} {w : World} {it l : Addr} {xs : Array Value}
abbrev ST (it l : Addr) (xs : Array Value) (i : Nat) (h : Heap) : Prop := h.IsTupleIter it l i ∧ h.IsTuple l xs
abbrev SL (it l : Addr) (xs : Array Value) (i : Nat) (h : Heap) : Prop := h.IsListIter it l i ∧ h.IsList l xs
theorem side_t (ne : l ≠ it) : Side P w it l xs (ST it l xs) where
  mv := fun st k => by
    obtain ⟨a, o, ho, r⟩ := st
    exact ⟨a.at fun o e => k _ o (.inl rfl) e, o, k _ o (.inr rfl) ho, r⟩
  nx := fun st hx q => RZ.nextOf_tuple_item st.1 st.2 hx fun h' a b => q h' ⟨a, st.2.extBut b.extBut ne⟩ b
  fin := fun hh st hx q => RZ.nextOf_tuple_end hh st.1 st.2 hx q
theorem side_l (ne : l ≠ it) : Side P w it l xs (SL it l xs) where
  mv := fun st k => ⟨st.1.at fun o e => k _ o (.inl rfl) e, st.2.at fun o e => k _ o (.inr rfl) e⟩
  nx := fun st hx q => wpAny_nextOf_list_item st.1 st.2 hx fun h' a b => q h' ⟨a, st.2.extBut b.extBut ne⟩ b
  fin := fun hh st hx q => wpAny_nextOf_list_end hh st.1 st.2 hx q
theorem Side.by {S : Nat → Heap → Prop} (N : Side P w it l xs S) {i : Nat} {c : Addr} {h h' : Heap} (st : S i h) (b : Heap.ExtBut c h h') (n1 : it ≠ c) (n2 : l ≠ c) : S i h' := N.mv st fun d o e g => by
  rcases e with e | e
  · subst e; exact b _ _ n1 g
  · subst e; exact b _ _ n2 g
end
section
variable {P : Program} {w : World} {A : Around} {E : Value → Shared → Prop} {s : Shared} {z t f j1 j2 m1 m2 : Addr} {xs ys : Array Value} {S1 S2 : Nat → Heap → Prop} {k : Nat} {a b : Value}
/-- the next pair -/
theorem zip_nx (N1 : Side P w j1 m1 xs S1) (N2 : Side P w j2 m2 ys S2) (D : ZipApart z t f j1 j2 m1 m2) {x y : Value} {Q : Value → Shared → Prop} (iz : IsZip s.heap z t f .none) (it : PySem.IsPair s.heap t (.ref j1) (.ref j2))
    (io : PySem.IsPair s.heap f a b) (a1 : S1 k s.heap) (a2 : S2 k s.heap) (ex : xs[k]? = some x) (ey : ys[k]? = some y)
    (q : ∀ h', IsZip h' z t f (rawInt s.heap.objs.size) → PySem.IsPair h' f x y → S1 (k + 1) h' → S2 (k + 1) h' → PySem.IsPair h' s.heap.objs.size x y →
      (∀ c o, c ≠ z → c ≠ f → c ≠ j1 → c ≠ j2 → s.heap.get? c = some o → h'.get? c = some o) → Q (.ref s.heap.objs.size) { s with heap := h' }) :
    wpAny (model P w) A (Builtin.«zip.__next__» ⟨[.ref z], []⟩) (fun r s' => ∃ v, r = .done (.ret v) ∧ Q v s') E s := by
  show wpAny _ _ (field (.ref z) 2 >>= _) _ _ _; refine wpAny_bind (wpAny_field iz rfl (x := .bool false) rfl ?_)
  show wpAny _ _ (field (.ref z) 3 >>= _) _ _ _; refine wpAny_bind (wpAny_field iz rfl (x := .ref t) rfl ?_)
  refine wpAny_bind (wpAny_seqItems it rfl ?_); show wpAny _ _ (Builtin.SmallTypes.ownedTupleIsFree (.ref z) >>= _) _ _ _
  refine wpAny_bind ?_; unfold Builtin.SmallTypes.ownedTupleIsFree
  refine wpAny_bind (wpAny_field iz rfl (x := .none) rfl (wpAny_pure ?_)); simp only [if_true]
  refine wpAny_bind (wpAny_rule ?_); refine wpAny_bind (wpAny_field iz rfl (x := .ref f) rfl ?_)
  refine wpAny_bind (wpAny_setField_rec iz (by simp) fun g1 iz1 b1 => ?_)
  have iz1 : IsZip g1 z t f .ellipsis := iz1
  refine wpAny_bind ?_; simp only [List.zipIdx_cons, List.zipIdx_nil, List.forIn_cons, List.forIn_nil]
  refine wpAny_bind (wpAny_bind (wpAny_onRaise ?_)); show wpAny _ _ (Builtin.SmallTypes.nextOf (.ref j1) >>= _) _ _ _
  have a11 := N1.by a1 b1.extBut D.i1z D.l1z
  have a21 := N2.by a2 b1.extBut D.i2z D.l2z
  refine wpAny_bind (N1.nx a11 ex fun g2 a12 b2 => wpAny_pure ?_)
  have io2 : PySem.IsPair g2 f a b := b2.extBut _ _ D.TOi1 (b1.extBut _ _ D.TOz io)
  refine wpAny_bind (wpAny_seqItems io2 rfl ?_); refine wpAny_bind (wpAny_updateSeq_pair io2 fun g3 io3 b3 => ?_)
  have io3 : PySem.IsPair g3 f x b := io3
  refine wpAny_bind (wpAny_letGo (wpAny_pure ?_)); refine wpAny_bind (wpAny_bind (wpAny_onRaise ?_))
  show wpAny _ _ (Builtin.SmallTypes.nextOf (.ref j2) >>= _) _ _ _
  have a23 := N2.by (N2.by a21 b2.extBut D.i12.symm D.l2i1) b3.extBut D.TOi2.symm D.l2TO
  refine wpAny_bind (N2.nx a23 ey fun g4 a24 b4 => wpAny_pure ?_)
  have io4 : PySem.IsPair g4 f x b := b4.extBut _ _ D.TOi2 io3
  refine wpAny_bind (wpAny_seqItems io4 rfl ?_); refine wpAny_bind (wpAny_updateSeq_pair io4 fun g5 io5 b5 => ?_)
  have io5 : PySem.IsPair g5 f x y := io5
  refine wpAny_bind (wpAny_letGo (wpAny_pure (wpAny_pure ?_))); refine wpAny_bind (wpAny_seqItems io5 rfl ?_)
  have e5 : g5.objs.size = s.heap.objs.size := by rw [b5.1, b4.1, b3.1, b2.1, b1.1]
  have iz5 : IsZip g5 z t f .ellipsis := b5.extBut _ _ D.TOz.symm (b4.extBut _ _ D.i2z.symm (b3.extBut _ _ D.TOz.symm (b2.extBut _ _ D.i1z.symm iz1)))
  have keep5 : ∀ c o, c ≠ z → c ≠ f → c ≠ j1 → c ≠ j2 → s.heap.get? c = some o → g5.get? c = some o := fun c o n1 n2 n3 n4 e => b5.extBut _ _ n2 (b4.extBut _ _ n4 (b3.extBut _ _ n2 (b2.extBut _ _ n3 (b1.extBut _ _ n1 e))))
  have a15 := N1.by (N1.by (N1.by a12 b3.extBut D.TOi1.symm D.l1TO) b4.extBut D.i12 D.l1i2) b5.extBut D.TOi1.symm D.l1TO
  have a25 := N2.by a24 b5.extBut D.TOi2.symm D.l2TO
  have zl : z < g5.objs.size := Heap.lt_size iz5
  refine wpAny_bind (wpAny_newTuple ?_); show wpAny _ _ (Builtin.SmallTypes.ownedTupleHandOut (.ref z) (.ref g5.objs.size) >>= _) _ _ _
  refine wpAny_bind ?_; unfold Builtin.SmallTypes.ownedTupleHandOut
  have iz6 : IsZip (g5.push { cls := .type "tuple", data := .seq #[x, y] }) z t f .ellipsis := Heap.get?_push_of_some _ iz5
  refine wpAny_bind (wpAny_setField_rec iz6 (by simp) fun g7 iz7 b7 => ?_)
  have iz7 : IsZip g7 z t f (rawInt g5.objs.size) := iz7
  refine wpAny_setField_rec iz7 (by simp) fun g8 iz8 b8 => ?_
  have iz8 : IsZip g8 z t f (rawInt g5.objs.size) := iz8
  have up : ∀ c o, c ≠ z → g5.get? c = some o → g8.get? c = some o := fun c o n e => b8.extBut _ _ n (b7.extBut _ _ n (Heap.get?_push_of_some _ e))
  have new : PySem.IsPair g8 g5.objs.size x y := b8.extBut _ _ (Nat.ne_of_gt zl) (b7.extBut _ _ (Nat.ne_of_gt zl) (Heap.get?_push_size _ rfl))
  rw [e5] at iz8 new
  refine wpAny_pure ⟨_, rfl, ?_⟩; show Q (.ref g5.objs.size) _; rw [e5]
  refine q g8 iz8 (up _ _ D.TOz io5) (N1.mv a15 fun c o e => up c o ?_) (N2.mv a25 fun c o e => up c o ?_) new fun c o n1 n2 n3 n4 e => up c o n1 (keep5 c o n1 n2 n3 n4 e)
  · rcases e with e | e
    · subst e; exact D.i1z
    · subst e; exact D.l1z
  · rcases e with e | e
    · subst e; exact D.i2z
    · subst e; exact D.l2z
/-- the end -/
theorem zip_fin (N1 : Side P w j1 m1 xs S1) (N2 : Side P w j2 m2 ys S2) (D : ZipApart z t f j1 j2 m1 m2) {Q : Fin → Shared → Prop} (hh : A.handled = none) (iz : IsZip s.heap z t f .none) (it : PySem.IsPair s.heap t (.ref j1) (.ref j2))
    (io : PySem.IsPair s.heap f a b) (a1 : S1 k s.heap) (a2 : S2 k s.heap) (e : xs[k]? = none ∨ ys[k]? = none)
    (q : ∀ h' e, (∀ c o, c ≠ z → c ≠ f → c ≠ j1 → c ≠ j2 → s.heap.get? c = some o → h'.get? c = some o) → (∃ o, h'.get? e = some o ∧ o.cls = .type "StopIteration") → E (.ref e) { s with heap := h' }) :
    wpAny (model P w) A (Builtin.«zip.__next__» ⟨[.ref z], []⟩) Q E s := by
  show wpAny _ _ (field (.ref z) 2 >>= _) _ _ _; refine wpAny_bind (wpAny_field iz rfl (x := .bool false) rfl ?_)
  show wpAny _ _ (field (.ref z) 3 >>= _) _ _ _; refine wpAny_bind (wpAny_field iz rfl (x := .ref t) rfl ?_)
  refine wpAny_bind (wpAny_seqItems it rfl ?_); show wpAny _ _ (Builtin.SmallTypes.ownedTupleIsFree (.ref z) >>= _) _ _ _
  refine wpAny_bind ?_; unfold Builtin.SmallTypes.ownedTupleIsFree
  refine wpAny_bind (wpAny_field iz rfl (x := .none) rfl (wpAny_pure ?_)); simp only [if_true]
  refine wpAny_bind (wpAny_rule ?_); refine wpAny_bind (wpAny_field iz rfl (x := .ref f) rfl ?_)
  refine wpAny_bind (wpAny_setField_rec iz (by simp) fun g1 iz1 b1 => ?_)
  have iz1 : IsZip g1 z t f .ellipsis := iz1
  refine wpAny_bind ?_; simp only [List.zipIdx_cons, List.zipIdx_nil, List.forIn_cons, List.forIn_nil]
  refine wpAny_bind (wpAny_bind (wpAny_onRaise ?_)); show wpAny _ _ (Builtin.SmallTypes.nextOf (.ref j1) >>= _) _ _ _
  have a11 := N1.by a1 b1.extBut D.i1z D.l1z
  have a21 := N2.by a2 b1.extBut D.i2z D.l2z
  cases ex : xs[k]? with
  | none =>
    refine wpAny_bind (N1.fin hh a11 ex fun g2 d b2 hd => ?_)
    obtain ⟨od, gd, cd⟩ := hd
    have iz2 : IsZip g2 z t f .ellipsis := b2 _ _ D.i1z.symm iz1
    have ne : d ≠ z := fun r => by rw [r, iz2] at gd; cases gd; simp at cd
    refine wpAny_setField_rec iz2 (by simp) fun g3 _ b3 => q g3 d (fun c o n1 _ n3 _ r => b3.extBut _ _ n1 (b2 _ _ n3 (b1.extBut _ _ n1 r))) ⟨od, b3.extBut _ _ ne gd, cd⟩
  | some x =>
    have ey : ys[k]? = none := e.resolve_left (by rw [ex]; simp)
    refine wpAny_bind (N1.nx a11 ex fun g2 a12 b2 => wpAny_pure ?_)
    have io2 : PySem.IsPair g2 f a b := b2.extBut _ _ D.TOi1 (b1.extBut _ _ D.TOz io)
    refine wpAny_bind (wpAny_seqItems io2 rfl ?_); refine wpAny_bind (wpAny_updateSeq_pair io2 fun g3 io3 b3 => ?_)
    refine wpAny_bind (wpAny_letGo (wpAny_pure ?_)); refine wpAny_bind (wpAny_bind (wpAny_onRaise ?_))
    show wpAny _ _ (Builtin.SmallTypes.nextOf (.ref j2) >>= _) _ _ _
    refine wpAny_bind (N2.fin hh (N2.by (N2.by a21 b2.extBut D.i12.symm D.l2i1) b3.extBut D.TOi2.symm D.l2TO) ey fun g4 d b4 hd => ?_)
    obtain ⟨od, gd, cd⟩ := hd
    have iz4 : IsZip g4 z t f .ellipsis := b4 _ _ D.i2z.symm (b3.extBut _ _ D.TOz.symm (b2.extBut _ _ D.i1z.symm iz1))
    have ne : d ≠ z := fun r => by rw [r, iz4] at gd; cases gd; simp at cd
    refine wpAny_setField_rec iz4 (by simp) fun g5 _ b5 => q g5 d (fun c o n1 n2 n3 n4 r => b5.extBut _ _ n1 (b4 _ _ n4 (b3.extBut _ _ n2 (b2.extBut _ _ n3 (b1.extBut _ _ n1 r))))) ⟨od, b5.extBut _ _ ne gd, cd⟩
theorem next_nx (N1 : Side P w j1 m1 xs S1) (N2 : Side P w j2 m2 ys S2) (D : ZipApart z t f j1 j2 m1 m2) {x y : Value} {Q : Option Value → Shared → Prop} (iz : IsZip s.heap z t f .none) (it : PySem.IsPair s.heap t (.ref j1) (.ref j2))
    (io : PySem.IsPair s.heap f a b) (a1 : S1 k s.heap) (a2 : S2 k s.heap) (ex : xs[k]? = some x) (ey : ys[k]? = some y)
    (q : ∀ h', IsZip h' z t f (rawInt s.heap.objs.size) → PySem.IsPair h' f x y → S1 (k + 1) h' → S2 (k + 1) h' → PySem.IsPair h' s.heap.objs.size x y →
      (∀ c o, c ≠ z → c ≠ f → c ≠ j1 → c ≠ j2 → s.heap.get? c = some o → h'.get? c = some o) → Q (some (.ref s.heap.objs.size)) { s with heap := h' }) : wpAny (model P w) A (pyNext (.ref z)) Q E s := by
  have ty : s.TypeIs (.ref z) "zip" := ⟨_, iz, rfl⟩
  unfold pyNext
  refine wpAny_bind (wpAny_attempt (wpAny_callSpecial?_slot (name := Str.ofString "__next__") ty F.slot_zip_next (wpAny_call_entry F.slot_zip_next ty F.entry_zip_next ?_ (F.args_zip_next_1 _))))
  exact zip_nx N1 N2 D iz it io a1 a2 ex ey fun h' r1 r2 r3 r4 r5 r6 => wpAny_pure (q h' r1 r2 r3 r4 r5 r6)
theorem next_fin (N1 : Side P w j1 m1 xs S1) (N2 : Side P w j2 m2 ys S2) (D : ZipApart z t f j1 j2 m1 m2) {Q : Option Value → Shared → Prop} (hh : A.handled = none) (iz : IsZip s.heap z t f .none) (it : PySem.IsPair s.heap t (.ref j1) (.ref j2))
    (io : PySem.IsPair s.heap f a b) (a1 : S1 k s.heap) (a2 : S2 k s.heap) (e : xs[k]? = none ∨ ys[k]? = none)
    (q : ∀ h', (∀ c o, c ≠ z → c ≠ f → c ≠ j1 → c ≠ j2 → s.heap.get? c = some o → h'.get? c = some o) → Q none { s with heap := h' }) : wpAny (model P w) A (pyNext (.ref z)) Q E s := by
  have ty : s.TypeIs (.ref z) "zip" := ⟨_, iz, rfl⟩
  unfold pyNext
  refine wpAny_bind (wpAny_attempt (wpAny_callSpecial?_slot (name := Str.ofString "__next__") ty F.slot_zip_next (wpAny_call_entry F.slot_zip_next ty F.entry_zip_next ?_ (F.args_zip_next_1 _))))
  refine zip_fin N1 N2 D hh iz it io a1 a2 e fun h' d r1 r2 => ?_
  obtain ⟨o, ho, hc⟩ := r2
  exact wpAny_bind (wpAny_isInstance (T := "StopIteration") (b := true) ⟨o, ho, hc⟩ isSubtype_stop (wpAny_pure (q _ r1)))
end
/-! ### zip(tuple, list) -/
abbrev zg1 (h : Heap) (l : Addr) : Heap := h.push { cls := .type "tuple_iterator", data := .fields #[.ref l, .int 0 0] }
abbrev zg2 (h : Heap) (l m : Addr) : Heap := (zg1 h l).push { cls := .type "list_iterator", data := .fields #[.ref m, .int 0 0] }
abbrev zg3 (h : Heap) (l m : Addr) : Heap := (zg2 h l m).push { cls := .type "tuple", data := .seq #[.ref h.objs.size, .ref (zg1 h l).objs.size] }
abbrev zg4 (h : Heap) (l m : Addr) : Heap := (zg3 h l m).push { cls := .type "tuple", data := .seq #[.none, .none] }
abbrev zg5 (h : Heap) (l m : Addr) : Heap := (zg4 h l m).push { cls := .type "zip", data := .fields #[.none, .bool false, .bool false, .ref (zg2 h l m).objs.size, .ref (zg3 h l m).objs.size] }
theorem meets_zg (l m : Addr) (xs ys : Array Value) :
    Meets (Builtin.«zip.__new__» ⟨[.type "zip", .ref l, .ref m], []⟩) (fun _ R s => s.heap.IsTuple l xs ∧ s.heap.IsList m ys ∧ R (.ok (.ret (.ref (zg4 s.heap l m).objs.size))) { s with heap := zg5 s.heap l m }) :=
  .of_wp fun prog w A R s h => by
    obtain ⟨hp, g, d, tk, os⟩ := s
    obtain ⟨il, im, h⟩ := h
    have sz := sub_zip
    have jl : Heap.IsTuple (Shared.heap ⟨hp, g, d, tk, os⟩) l xs := il
    have jm : Heap.IsList (Shared.heap ⟨hp.push { cls := .type "tuple_iterator", data := .fields #[.ref l, .int 0 0] }, g, d, tk, os⟩) m ys := Heap.IsList.push im _
    wp_walk using wpAny_pyIter_tuple jl, wpAny_pyIter_list jm
    exact ⟨_, rfl, h⟩
theorem call_zg {prog : Program} {w : World} {A : Around} {E : Value → Shared → Prop} {s : Shared} {l m : Addr} {xs ys : Array Value} {Q : Value → Shared → Prop} (il : s.heap.IsTuple l xs) (im : s.heap.IsList m ys)
    (h : ∀ h', IsZip h' (s.heap.objs.size + 4) (s.heap.objs.size + 2) (s.heap.objs.size + 3) .none → PySem.IsPair h' (s.heap.objs.size + 2) (.ref s.heap.objs.size) (.ref (s.heap.objs.size + 1)) →
      PySem.IsPair h' (s.heap.objs.size + 3) .none .none → h'.IsTupleIter s.heap.objs.size l 0 → h'.IsListIter (s.heap.objs.size + 1) m 0 → (∀ c o, s.heap.get? c = some o → h'.get? c = some o) → Q (.ref (s.heap.objs.size + 4)) { s with heap := h' }) :
    wpAny (model prog w) A (call (.type "zip") [.ref l, .ref m]) Q E s := by
  refine callType_new F.called_zip (by decide) (F.typeCall_zip_2 _ _) (F.newCall_zip_2 _ _) (fun obj => F.args_object_init_3 obj _ _) F.entry_zip_new (meets_zg l m xs ys) ⟨il, im, ?_⟩
  have n1 : (zg1 s.heap l).objs.size = s.heap.objs.size + 1 := Heap.size_push ..
  have n2 : (zg2 s.heap l m).objs.size = s.heap.objs.size + 2 := by rw [Heap.size_push, n1]
  have n3 : (zg3 s.heap l m).objs.size = s.heap.objs.size + 3 := by rw [Heap.size_push, n2]
  have n4 : (zg4 s.heap l m).objs.size = s.heap.objs.size + 4 := by rw [Heap.size_push, n3]
  have u : ∀ {h : Heap} {x : Obj} {c : Addr} {o : Obj}, h.get? c = some o → (h.push x).get? c = some o := fun e => Heap.get?_push_of_some _ e
  have e5 : (zg5 s.heap l m).get? (zg4 s.heap l m).objs.size = some _ := Heap.get?_push_size _ rfl
  have e4 : (zg5 s.heap l m).get? (zg3 s.heap l m).objs.size = some _ := u (Heap.get?_push_size _ rfl)
  have e3 : (zg5 s.heap l m).get? (zg2 s.heap l m).objs.size = some _ := u (u (Heap.get?_push_size _ rfl))
  have e2 : (zg5 s.heap l m).get? (zg1 s.heap l).objs.size = some _ := u (u (u (Heap.get?_push_size _ rfl)))
  have e1 : (zg5 s.heap l m).get? s.heap.objs.size = some _ := u (u (u (u (Heap.get?_push_size _ rfl))))
  show _ ∧ _
  rw [n2, n3, n4] at e5
  rw [n1, n2] at e3
  rw [n3] at e4
  rw [n1] at e2
  rw [n4]
  exact ⟨⟨_, e5, rfl⟩, h _ e5 e3 e4 ⟨_, e1, rfl, rfl⟩ ⟨_, e2, rfl, rfl⟩ fun c o x => u (u (u (u (u x))))⟩
/-- the tuple at a and the list at b as they stand at each turn, the items in new pairs -/
def ItzM (K : PySem.W.Frag) (a b : Addr) : It :=
  ⟨fun i H => ∃ (xs ys : List V) (x y : V), SqT K H a xs ∧ SqL K H b ys ∧ xs[i]? = some x ∧ ys[i]? = some y,
    fun i H v H' => ∃ T x y, v = .ref T ∧ H T = none ∧ H' = upd H T (.tup [x, y]) ∧ (∀ xs, SqT K H a xs → xs[i]? = some x) ∧ ∀ ys, SqL K H b ys → ys[i]? = some y,
    fun i H => ∃ xs ys : List V, SqT K H a xs ∧ SqL K H b ys ∧ (xs.length ≤ i ∨ ys.length ≤ i)⟩
theorem five {c z t f j1 j2 : Addr} (h : c ∈ [z, t, f, j1, j2]) : c = z ∨ c = t ∨ c = f ∨ c = j1 ∨ c = j2 := by simpa using h
theorem turn_zg {P : Program} {w : World} {K : PySem.W.Frag} {elts : List Expr} {kk : Nat} {tpos : Pos} {a b z t f j1 j2 : Addr} (D : ZipApart z t f j1 j2 a b) :
    Turn P w K (.Tuple elts kk tpos) (ItzM K a b) [z, t, f, j1, j2] z (fun i h => IsZip h z t f .none ∧ PySem.IsPair h t (.ref j1) (.ref j2) ∧ (∃ x y, PySem.IsPair h f x y) ∧ h.IsTupleIter j1 a i ∧ h.IsListIter j2 b i) where
  mem := List.mem_cons_self
  obj := fun i h st c hc => by
    obtain ⟨iz, it, ⟨x, y, io⟩, ⟨o1, e1, _, d1⟩, ⟨o2, e2, _, d2⟩⟩ := st
    rcases five hc with q | q | q | q | q <;> subst q
    · exact ⟨_, iz, fun v q => nomatch q⟩
    · exact ⟨_, it, fun v q => nomatch q⟩
    · exact ⟨_, io, fun v q => nomatch q⟩
    · exact ⟨o1, e1, fun v q => by rw [d1] at q; cases q⟩
    · exact ⟨o2, e2, fun v q => by rw [d2] at q; cases q⟩
  keep := fun i h h' st k => by
    obtain ⟨iz, it, ⟨x, y, io⟩, a1, a2⟩ := st
    exact ⟨k z (by simp) _ iz, k t (by simp) _ it, ⟨x, y, k f (by simp) _ io⟩, a1.at fun o q => k j1 (by simp) o q, a2.at fun o q => k j2 (by simp) o q⟩
  item := by
    intro X hP hw hK hc i pins s σ H E I hf st hg
    subst hP hw hK
    obtain ⟨iz, it, ⟨x0, y0, io⟩, a1, a2⟩ := st
    obtain ⟨xs, ys, x, y, qx, qy, ex, ey⟩ := hg
    obtain ⟨us, rv, p, _⟩ := I.tuple qx
    obtain ⟨us2, rv2, p2, _⟩ := I.list qy
    obtain ⟨u, hu, ru⟩ := rv.get ex
    obtain ⟨u2, hu2, ru2⟩ := rv2.get ey
    have zl : z < s.heap.objs.size := Heap.lt_size iz
    refine next_nx (side_t (xs := us.toArray) D.l1i1) (side_l (xs := us2.toArray) D.l2i2) D iz it io ⟨a1, p⟩ ⟨a2, p2.isList⟩ (x := u) (y := u2) (by simpa using hu) (by simpa using hu2) fun h' iz' io' a1' a2' new hk => ?_
    refine ⟨_, rfl, wpAny_letOwnedTupleGo_zip (s := { s with heap := h' }) iz' fun h2 iz2 sb => ?_⟩
    have new2 : h2.get? s.heap.objs.size = some { cls := .type "tuple", data := .seq #[u, u2] } := (sb.2 _ (Nat.ne_of_gt zl)).trans new
    have ok : ObjOk X.prog X.w (upd H s.heap.objs.size (.tup [x, y])) h2 s.heap.objs.size (.tup [x, y]) := ⟨by show 2 ≤ sizeLine; decide, [u, u2], .cons ru (.cons ru2 .nil), ⟨_, new2, rfl, _, rfl⟩⟩
    have I1 : Inv X pins σ (upd H s.heap.objs.size (.tup [x, y])) { s with heap := h2 } := I.turnedNew (t' := s.toks) (ch := [z, t, f, j1, j2]) (fun c o hb q =>
      (sb.2 c (fun q' => hb (by simp [q']))).trans (hk c o (fun q' => hb (by simp [q'])) (fun q' => hb (by simp [q'])) (fun q' => hb (by simp [q'])) (fun q' => hb (by simp [q'])) q)) hf (Nat.le_refl _) ok
    refine ⟨.ref s.heap.objs.size, _, I1, rfl, ⟨_, x, y, rfl, I.hok.fresh (Nat.le_refl _), rfl, fun l hl => by rw [I.tuple_inj hl qx]; exact ex, fun l hl => by rw [I.list_inj hl qy]; exact ey⟩, ⟨iz2, ?_, ⟨u, u2, (sb.2 _ D.TOz).trans io'⟩, a1'.1.at fun o q => (sb.2 _ D.i1z).trans q, a2'.1.at fun o q => (sb.2 _ D.i2z).trans q⟩, fun c hcm => ?_⟩
    · exact (sb.2 _ D.TIz).trans (hk _ _ D.TIz D.TITO D.TIi1 D.TIi2 it)
    · have lt : c < s.heap.objs.size := by
        obtain ⟨_, e1, _⟩ := a1
        obtain ⟨_, e2, _⟩ := a2
        rcases five hcm with q | q | q | q | q <;> subst q
        · exact zl
        · exact Heap.lt_size it
        · exact Heap.lt_size io
        · exact Heap.lt_size e1
        · exact Heap.lt_size e2
      rw [upd_ne (Nat.ne_of_lt lt)]; exact (hf c hcm).1
  done := by
    intro X hP hw hK hc i pins s σ H E I hf st hg
    subst hP hw hK
    obtain ⟨iz, it, ⟨x0, y0, io⟩, a1, a2⟩ := st
    obtain ⟨xs, ys, qx, qy, hend⟩ := hg
    obtain ⟨us, rv, p, _⟩ := I.tuple qx
    obtain ⟨us2, rv2, p2, _⟩ := I.list qy
    have l1 := rv.length
    have l2 := rv2.length
    have he : us.toArray[i]? = none ∨ us2.toArray[i]? = none := hend.imp (fun q => by simp; omega) (fun q => by simp; omega)
    exact next_fin (side_t (xs := us.toArray) D.l1i1) (side_l (xs := us2.toArray) D.l2i2) D (I.ok.hd hc) iz it io ⟨a1, p⟩ ⟨a2, p2.isList⟩ he fun h' hk => ⟨rfl, I.turnedL (t' := s.toks) (ch := [z, t, f, j1, j2]) (fun c o hb q =>
      hk c o (fun r => hb (by simp [r])) (fun r => hb (by simp [r])) (fun r => hb (by simp [r])) (fun r => hb (by simp [r])) q) hf⟩
  self := fun A i s Q E st h => wpAny_pyIter_zip st.1 h
def zZm (K : PySem.W.Frag) (vs : List V) (H1 : Hp) (R : It → Hp → Prop) : Prop := ∃ a b xs ys, vs = [.ref a, .ref b] ∧ SqT K H1 a xs ∧ SqL K H1 b ys ∧ R (ItzM K a b) H1
def iZipM (K : PySem.W.Frag) (ta : TA) : TI := fun σ H R => ta σ H fun vs H1 => zZm K vs H1 R
theorem pi_zipM {X : Cx} {e e2 : Expr} {ta : TA} {p pos tpos : Pos} {elts : List Expr} {kk : Nat} (hg : Gl X "zip") (hm : X.mg "zip" = none) (ha : PA X [e, e2] ta)
    (hs : starEach [e, e2] X.env = (false, eval e X.env) :: starEach [e2] X.env := by rfl) (hpl : (backTo pos (starEach [e2] X.env)).any (·.1) = false := by rfl) :
    PI X (.Tuple elts kk tpos) (.Call (.Name "zip" p) [e, e2] [] pos) (iZipM X.K ta) := by
  refine ⟨fun pins s σ H R I h => Call_ (ld_blt I hg hm PyProof.Rows.boot_zip (PyProof.Rows.callWith_type1 (thn (ha.run pos pins s σ H _ I h) fun us s1 ⟨vs, H1, I1, r1, q1⟩ => ?_) hs hpl))⟩
  obtain ⟨a, b, xs, ys, rfl, qx, qy, q⟩ := q1
  rcases r1 with _ | ⟨r, r1⟩
  rcases r1 with _ | ⟨r', r1⟩
  cases r1
  cases r
  cases r'
  obtain ⟨us, rv, p1, _⟩ := I1.tuple qx
  obtain ⟨us2, rv2, p2, _⟩ := I1.list qy
  obtain ⟨o1, ho1, _⟩ := id p1
  refine call_zg (show s1.heap.IsTuple a us.toArray from p1) p2.isList fun h' iz it io a1 a2 hk => wpAny_pyIter_zip iz ?_
  have I2 : Inv X pins σ H1 { s1 with heap := h' } := I1.kept (t' := s1.toks) hk
  refine ⟨s1.heap.objs.size + 4, [s1.heap.objs.size + 4, s1.heap.objs.size + 2, s1.heap.objs.size + 3, s1.heap.objs.size, s1.heap.objs.size + 1], _, _, H1, rfl, I2, turn_zg (PySem.W.ktu_apart s1.heap.objs.size a b (Heap.lt_size ho1) p2.lt), ⟨iz, it, ⟨_, _, io⟩, a1, a2⟩, fun c hcm => ?_, q⟩
  have le : s1.heap.objs.size ≤ c := by
    have hcm := five hcm
    generalize s1.heap.objs.size = n at hcm ⊢
    change Nat at c
    rcases hcm with e | e | e | e | e <;> subst e
    · exact Nat.le_add_right _ _
    · exact Nat.le_add_right _ _
    · exact Nat.le_add_right _ _
    · exact Nat.le_refl _
    · exact Nat.le_add_right _ _
  exact I1.fpOk le (I1.hok.fresh le)
theorem pi_zipMK {X : Cx} (K : PySem.W.Frag) (h : X.K = K) {e e2 : Expr} {ta : TA} {p pos tpos : Pos} {elts : List Expr} {kk : Nat} (hg : Gl X "zip") (hm : X.mg "zip" = none) (ha : PA X [e, e2] ta)
    (hs : starEach [e, e2] X.env = (false, eval e X.env) :: starEach [e2] X.env := by rfl) (hpl : (backTo pos (starEach [e2] X.env)).any (·.1) = false := by rfl) :
    PI X (.Tuple elts kk tpos) (.Call (.Name "zip" p) [e, e2] [] pos) (iZipM K ta) := h ▸ pi_zipM hg hm ha hs hpl
section
variable {K : PySem.W.Frag} {σ : L2.St} {H : Hp} {Q : VK} {g : TG} {tt : TT} {te : TE} {vs : List Nat} {a b : Addr} {xs ys : List V}
theorem i_zipM {t : TA} {R : It → Hp → Prop} (h : t σ H fun vs H1 => zZm K vs H1 R) : iZipM K t σ H R := h
theorem i_zipMT {R : It → Hp → Prop} (h : H a = some (.tup xs)) (h2 : H b = some (.lst ys)) (q : R (ItzM K a b) H) : zZm K [V.ref a, V.ref b] H R := ⟨a, b, xs, ys, rfl, SqT.of h, SqL.of h2, q⟩
/-- over zip(tuple, list), as far as the shorter one goes -/
theorem comp_zipM (n : Nat) (hn : n = min xs.length ys.length) (G : Nat → List V → Hp → Prop) (h0 : ∀ D H', New H D (.lst []) H' → G 0 [] H') (hl : ∀ i acc H, i ≤ n → G i acc H → SqT K H a xs ∧ SqL K H b ys)
    (hs : ∀ D i acc x y T H2 H2', H D = none → xs[i]? = some x → ys[i]? = some y → H2 D = some (.lst acc) → G i acc H2 → New H2 T (.tup [x, y]) H2' → g (.ref T) (wipe σ vs) H2' fun σ2 H3 => wipe σ2 vs = wipe σ vs ∧ tt σ2 H3 fun b H4 =>
      if b = true then te σ2 H4 fun y H5 => zEnd D (G (i + 1)) y H5 else zSkip D (G (i + 1)) H4)
    (hd : ∀ D acc H2, H D = none → H2 D = some (.lst acc) → G n acc H2 → Q (.ref D) H2) : zComp (ItzM K a b) g tt te vs σ H Q := by
  refine comp_by n G h0 (fun i acc H hi p => ⟨xs, ys, xs[i]'(by omega), ys[i]'(by omega), (hl i acc H (Nat.le_of_lt hi) p).1, (hl i acc H (Nat.le_of_lt hi) p).2, by simp, by simp⟩)
    (fun acc H p => ⟨xs, ys, (hl _ acc H (Nat.le_refl _) p).1, (hl _ acc H (Nat.le_refl _) p).2, by omega⟩) (fun D i acc x H2 H' fD hi hD p y => ?_) hd
  obtain ⟨T, v, u, rfl, fT, rfl, y1, y2⟩ := y
  have q := hl i acc H2 (Nat.le_of_lt hi) p
  exact hs D i acc v u T H2 _ fD (y1 xs q.1) (y2 ys q.2) hD p ⟨fT, rfl⟩
end
section
variable {nx bk ct : L2.St → Hp → Prop} {rt : VK} {σ : L2.St} {H : Hp} {t u : TZ}
theorem i_seqG (R : L2.St → Hp → Prop) (k : ∀ σ' H', R σ' H' → u nx rt bk ct σ' H') (h : ∀ nx' : L2.St → Hp → Prop, (∀ σ' H', R σ' H' → nx' σ' H') → t nx' rt bk ct σ H) : zSeq t u nx rt bk ct σ H := h _ k
end
section
variable {K : PySem.W.Frag} {H : Hp} {Q : VK} {p q : Addr} {x y : V} {xs ys : List V}
theorem i_addTT (h1 : H p = some (.tup (x :: xs))) (h2 : H q = some (.tup (y :: ys))) (z : xs.length + ys.length ≤ 1000000) (k : ∀ r H', New H r (.tup ((x :: xs) ++ (y :: ys))) H' → Q (.ref r) H') : rAdd K (.ref p) (.ref q) H Q :=
  .inr (.inr (.inr (by
    refine ⟨p, q, x :: xs, y :: ys, rfl, rfl, SqT.of h1, SqT.of h2, by rw [sizeLine_eq, List.length_cons, List.length_cons]; omega, fun e => ?_, fun _ e => ?_, fun _ _ r f => k r _ ⟨f, rfl⟩⟩
    · cases e
    · cases e)))
end
end Z

/-! Z: == of tuples and lists that ask no own ==, either answer; == and != with an own == on either side. -/
namespace Z
open PySem PySem.Spec PyProof.Rows L2
/-- x and y compare to b at every state that H tells of, and nothing is changed -/
def PeV (K : PySem.W.Frag) (n : Nat) (x y : V) (b : Bool) (H : Hp) : Prop :=
  ∀ (X : Cx) (pins : List (Addr × Obj)) (s : Shared) (σ : L2.St) (A : Around) (u v : Value), X.K = K → Inv X pins σ H s → RelV x u → RelV y v → Room n A → SeqAt.EqAt A s u v b
section
variable {K : PySem.W.Frag} {n m : Nat} {x y : V} {b : Bool} {H : Hp} {a c : Addr} {xs ys : List V} {es : Nat → Bool}
theorem PeV.mono (h : PeV K n x y b H) (l : n ≤ m) : PeV K m x y b H := fun X pins s σ A u v e I rx ry r => h X pins s σ A u v e I rx ry (r.mono l)
theorem PeV.flat (fx : flatV x = true) (fy : flatV y = true) : PeV K n x y (eqV x y) H := fun X pins s σ A u v e I rx ry r => eqAt_V rx ry fx fy
theorem PeV.same : PeV K n (.ref a) (.ref a) true H := fun X pins s σ A u v e I rx ry r => by
  cases rx
  cases ry
  exact SeqAt.EqAt.same _
theorem val_at {xs : List V} {its : List Value} (r : Vals xs its) {j : Nat} (h : j < its.toArray.size) : ∃ x, xs[j]? = some x ∧ RelV x its.toArray[j] := by
  have h' : j < its.length := by simpa using h
  have l : j < xs.length := by rw [r.length]; exact h'
  obtain ⟨u, hu, ru⟩ := r.get (List.getElem?_eq_getElem l)
  rw [List.getElem?_eq_getElem h'] at hu
  refine ⟨_, List.getElem?_eq_getElem l, ?_⟩
  cases hu
  simpa using ru
theorem PeV.tup (h1 : H a = some (.tup xs)) (h2 : H c = some (.tup ys)) (p : ∀ (i : Nat) x y, xs[i]? = some x → ys[i]? = some y → PeV K n x y (es i) H) (r : a = c → ∀ i, i < xs.length → es i = true) :
    PeV K (n + 1) (.ref a) (.ref c) (((List.range (min xs.length ys.length)).all es) && decide (xs.length = ys.length)) H := fun X pins s σ A u v e I rx ry rm => by
  cases rx
  cases ry
  by_cases ac : a = c
  · subst ac
    rw [h1] at h2
    cases h2
    have : ((List.range (min xs.length xs.length)).all es && decide (xs.length = xs.length)) = true := by
      rw [decide_eq_true rfl, Bool.and_true, Nat.min_self, List.all_eq_true]
      exact fun i hi => r rfl i (List.mem_range.mp hi)
    rw [this]
    exact SeqAt.EqAt.same _
  · obtain ⟨i1, r1, e1, _⟩ := I.tuple (SqT.of h1)
    obtain ⟨i2, r2, e2, _⟩ := I.tuple (SqT.of h2)
    have L1 : i1.toArray.size = xs.length := by rw [List.size_toArray, ← r1.length]
    have L2 : i2.toArray.size = ys.length := by rw [List.size_toArray, ← r2.length]
    have q := SeqAt.RcAt.tuples (A := A) (s := s) (e := es) e1 e2 rm.units0 fun j l1 l2 => by
      obtain ⟨x, ex, rx⟩ := val_at r1 l1
      obtain ⟨y, ey, ry⟩ := val_at r2 l2
      exact p j x y ex ey X pins s σ A.in1 _ _ e I rx ry rm.in1
    rw [L1, L2] at q
    have z : (xs.length == ys.length) = decide (xs.length = ys.length) := by by_cases h : xs.length = ys.length <;> simp [h]
    rw [z] at q
    exact SeqAt.EqAt.of_refs ac q
theorem PeV.lst (h1 : H a = some (.lst xs)) (h2 : H c = some (.lst ys)) (p : ∀ (i : Nat) x y, xs[i]? = some x → ys[i]? = some y → PeV K n x y (es i) H) (r : a = c → ∀ i, i < xs.length → es i = true) :
    PeV K (n + 1) (.ref a) (.ref c) (((List.range (min xs.length ys.length)).all es) && decide (xs.length = ys.length)) H := fun X pins s σ A u v e I rx ry rm => by
  cases rx
  cases ry
  by_cases ac : a = c
  · subst ac
    rw [h1] at h2
    cases h2
    have : ((List.range (min xs.length xs.length)).all es && decide (xs.length = xs.length)) = true := by
      rw [decide_eq_true rfl, Bool.and_true, Nat.min_self, List.all_eq_true]
      exact fun i hi => r rfl i (List.mem_range.mp hi)
    rw [this]
    exact SeqAt.EqAt.same _
  · obtain ⟨i1, r1, e1, _⟩ := I.list (SqL.of h1)
    obtain ⟨i2, r2, e2, _⟩ := I.list (SqL.of h2)
    have L1 : i1.toArray.size = xs.length := by rw [List.size_toArray, ← r1.length]
    have L2 : i2.toArray.size = ys.length := by rw [List.size_toArray, ← r2.length]
    by_cases sz : xs.length = ys.length
    · have q := SeqAt.RcAt.lists (A := A) (s := s) (e := es) e1.isList e2.isList (by rw [L1, L2, sz]) rm.units0 fun j l1 l2 => by
        obtain ⟨x, ex, rx⟩ := val_at r1 l1
        obtain ⟨y, ey, ry⟩ := val_at r2 l2
        exact p j x y ex ey X pins s σ A.in1 _ _ e I rx ry rm.in1
      rw [L1] at q
      rw [decide_eq_true sz, Bool.and_true, ← sz, Nat.min_self]
      exact SeqAt.EqAt.of_refs ac q
    · have q := SeqAt.RcAt.lists_lengths (A := A) (s := s) e1.isList e2.isList (by rw [L1, L2]; exact bne_iff_ne.mpr sz) rm.units0
      rw [decide_eq_false sz, Bool.and_false]
      exact SeqAt.EqAt.of_refs ac q
end
theorem eqV_int {a b : Int} : eqV (.int a) (.int b) = decide (a = b) := by
  by_cases h : a = b
  · subst h; simp [eqV]
  · rw [decide_eq_false h]; simp [eqV, h]
theorem PeV.int {K : PySem.W.Frag} {n : Nat} {a b : Int} {H : Hp} : PeV K n (.int a) (.int b) (decide (a = b)) H := by
  rw [← eqV_int]
  exact PeV.flat rfl rfl
theorem PeV.lst_ne {K : PySem.W.Frag} {n : Nat} {H : Hp} {a c : Addr} {xs ys : List V} {es : Nat → Bool} {b : Bool} (h1 : H a = some (.lst xs)) (h2 : H c = some (.lst ys)) (p : ∀ (i : Nat) x y, xs[i]? = some x → ys[i]? = some y → PeV K n x y (es i) H) (ne : a ≠ c)
    (e : (((List.range (min xs.length ys.length)).all es) && decide (xs.length = ys.length)) = b) : PeV K (n + 1) (.ref a) (.ref c) b H := e ▸ PeV.lst h1 h2 p fun z => absurd z ne
/-- == of two tuples, as far as the first items that differ -/
def rEqP (K : PySem.W.Frag) (n : Nat) : R2 := fun x y H Q => ∃ a c xs ys, ∃ es : Nat → Bool, x = .ref a ∧ y = .ref c ∧ H a = some (.tup xs) ∧ H c = some (.tup ys) ∧
  (∀ (i : Nat) x y, (∀ j, j < i → es j = true) → xs[i]? = some x → ys[i]? = some y → PeV K n x y (es i) H) ∧ Q (.bl (((List.range (min xs.length ys.length)).all es) && decide (xs.length = ys.length))) H
theorem opEqP {X : Cx} {n : Nat} (K : PySem.W.Frag) (hK : X.K = K) (hr : Room (n + 1) X.A) : OpR X (compareOp .Eq) (rEqP K n) := by
  subst hK
  intro pins s σ H x y v u Q I rx ry hq
  obtain ⟨a, c, xs, ys, es, rfl, rfl, h1, h2, p, q⟩ := hq
  cases rx
  cases ry
  show wpAny (model X.prog X.w) X.A (richCompare .Eq (.ref a) (.ref c)) (EP X pins σ Q) X.xe s
  obtain ⟨i1, r1, e1, _⟩ := I.tuple (SqT.of h1)
  obtain ⟨i2, r2, e2, _⟩ := I.tuple (SqT.of h2)
  have L1 : i1.toArray.size = xs.length := by rw [List.size_toArray, ← r1.length]
  have L2 : i2.toArray.size = ys.length := by rw [List.size_toArray, ← r2.length]
  have z : (xs.length == ys.length) = decide (xs.length = ys.length) := by by_cases h : xs.length = ys.length <;> simp [h]
  refine GQ.rc_tupB hr.units0 (fun i s' => (∀ j, j < i → es j = true) ∧ s' = s) es e1 e2 (fun i l1 l2 s' hI => ?_) (fun s' hI => ?_) ⟨(fun j hj => absurd hj (by omega)), rfl⟩
  · obtain ⟨inv, rfl⟩ := hI
    obtain ⟨x, ex, rx⟩ := val_at r1 l1
    obtain ⟨y, ey, ry⟩ := val_at r2 l2
    refine p i x y inv ex ey X pins s' σ X.A.in1 _ _ rfl I rx ry hr.in1 X.prog X.w X.xe _ ⟨rfl, fun e => ⟨fun j hj => ?_, rfl⟩, fun e => ⟨.bl false, H, I, rfl, ?_⟩⟩
    · rcases Nat.lt_or_ge j i with l | l
      · exact inv j l
      · obtain rfl : j = i := by omega
        exact e
    · have : (List.range (min xs.length ys.length)).all es = false := by
        rw [List.all_eq_false]
        exact ⟨i, List.mem_range.mpr (by omega), by rw [e]; decide⟩
      rw [this, Bool.false_and] at q
      exact q
  · obtain ⟨inv, rfl⟩ := hI
    have : (List.range (min xs.length ys.length)).all es = true := by
      rw [List.all_eq_true]
      intro i hi
      rw [List.mem_range] at hi
      exact inv i (by omega)
    rw [this, Bool.true_and] at q
    rw [L1, L2, z]
    exact ⟨.bl _, H, I, rfl, q⟩
end Z
namespace PySem.W
open PySem
section
variable {prog : Program} {w : World} {A : Around} {E : Value → Shared → Prop} {s : Shared} {K : Frag} {x C L f : Addr} {h₀ : Heap} {m : Str → Option Value} {ox : Obj} {od : Option Obj} {name : Str} {b tb : Value}
theorem ifBound_B {M : Model} {id B : String} {args : List Value} {Q : Option Value → Shared → Prop} (X : K.In s.heap) (I : InstAt s.heap x ox C od) (hs : findIn K (.ref C) name = some (some (.builtin id))) (S : Slot B name id)
    (h : wpAny M A (call (.builtin id) (.ref x :: args)) (fun v => Q (some v)) E s) : wpAny M A (callSpecialIfBound? (.ref x) name args) Q E s := by
  simp only [callSpecialIfBound?, bindSpecialIfBound?]
  refine wpAny_holding (wpAny_bind (wpAny_bind (wpAny_bind (I.type.here ((looks_findIn X hs).here ?_)))))
  simp only [S.bind]; refine wpAny_bind (wpAny_askSetting (wpAny_ite ?_))
  have q : wpAny M A (call (.builtin id) ([.ref x] ++ args) >>= fun v => pure (some v)) Q E s := wpAny_bind (wpAny_mono h (fun _ _ z => wpAny_pure z) fun _ _ z => z)
  split
  · exact wpAny_bind (wpAny_pure (wpAny_pure q))
  · exact wpAny_tryCatch (wpAny_bind (wpAny_pure (wpAny_pure q)))
theorem check_B {M : Model} {id owner n : String} {rest : List Value} {Q : Unit → Shared → Prop} (X : K.In s.heap) (I : InstAt s.heap x ox C od) (hk : builtinKind id = some .slot) (hs : splitId id = some (owner, n)) (ha : argsOk id ⟨.ref x :: rest, []⟩)
    (ho : subIn K (.ref C) (.type owner) = some true) (q : Q () s) : wpAny M A (checkBuiltinCall id ⟨.ref x :: rest, []⟩) Q E s := by
  simp only [checkBuiltinCall, hk, hs]
  refine wpAny_bind ?_
  unfold isInstance
  refine wpAny_bind (I.type.here ((looks_subIn X ho).here ?_))
  rw [if_neg (by decide)]
  cases g : Manifest.signature? id with
  | none => exact wpAny_pure q
  | some sg =>
    simp only [argsOk, g] at ha
    have e : Bind.checkArgs id sg ⟨.ref x :: rest, []⟩ = pure () := ha
    show wpAny M A (Bind.checkArgs id sg ⟨.ref x :: rest, []⟩) Q E s; rw [e]
    exact wpAny_pure q
/-- a comparison that the left side, an own instance, answers -/
theorem rich_first {op : CmpOp} {Q : Value → Shared → Prop} (hu : A.units < cLine) (X : K.In s.heap) (I : InstAt s.heap x ox C od) (hb : Looks (model prog w) s.heap (typeOf b) tb) (hn : notFirst K C tb = true)
    (one : wpAny (model prog w) A (tryCompare (.ref x) (cmpInfo op).2.1 b) (fun r s' => ∃ v, r = some v ∧ Q v s') E s) : wpAny (model prog w) A (richCompare op (.ref x) b) Q E s := by
  unfold richCompare; simp only [oneThing_ref]
  refine wpAny_holding (wpAny_bind (wpAny_cRoomFor hu (wpAny_bind (I.type.here (wpAny_bind (hb.here ?_))))))
  by_cases e : Value.ref C = tb
  · subst e
    rw [if_neg (by simp)]
    refine wpAny_bind (wpAny_pure ?_); simp only [Bool.false_eq_true, if_false]
    refine wpAny_bind (wpAny_mono one (fun r s' z => ?_) fun _ _ e => e); obtain ⟨v, rfl, q⟩ := z
    exact wpAny_pure q
  · have g : subIn K tb (.ref C) = some false := by
      rcases Bool.or_eq_true_iff.mp hn with r | r
      · exact absurd (beq_iff_eq.mp r).symm e
      · exact beq_iff_eq.mp r
    rw [if_pos (by simp [e])]
    refine wpAny_bind ((looks_subIn X g).here ?_); simp only [Bool.false_eq_true, if_false]
    refine wpAny_bind (wpAny_mono one (fun r s' z => ?_) fun _ _ e => e); obtain ⟨v, rfl, q⟩ := z
    exact wpAny_pure q
/-- != of an instance whose class has an own == and no own != -/
theorem ne_own {Q : Value → Shared → Prop} (hu : A.units + 1 < cLine) (X : K.In s.heap) (I : InstAt s.heap x ox C od) (hb : Looks (model prog w) s.heap (typeOf b) tb) (hn : notFirst K C tb = true)
    (hne : findIn K (.ref C) "__ne__" = some (some (.builtin "object.__ne__"))) (hob : subIn K (.ref C) (.type "object") = some true) (hs : findIn K (.ref C) "__eq__" = some (some (.ref f))) (hf : isFn K (.ref f) = true)
    (h : wpAny (model prog w) A.in1 (call (.ref f) [.ref x, b]) (fun v s' => ∃ k, v = .bool k ∧ Q (.bool (!k)) s') E s) : wpAny (model prog w) A (richCompare .NotEq (.ref x) b) Q E s := by
  have body : wpAny (model prog w) A.in1 (Builtin.«object.__ne__» ⟨[.ref x, b], []⟩) (fun r s' => ∃ k, r = .done (.ret (.bool (!k))) ∧ Q (.bool (!k)) s') E s := by
    unfold Builtin.«object.__ne__»
    repeat (first
      | with_reducible refine wpAny_cRoomFor (show A.in1.units < cLine from hu) ?_
      | (refine wpAny_bind (m := callSpecialIfBound? (.ref x) (Str.ofString "__eq__") [b]) (ifBound_K X I hs hf (wpAny_mono h (fun r s' hr => ?_) fun _ _ e => e)))
      | wp_step)
    obtain ⟨k, rfl, q⟩ := hr
    show wpAny _ _ (truthy (.bool k) >>= _) _ _ s'
    exact wpAny_bind (wpAny_truthy_bool (wpAny_pure ⟨k, rfl, q⟩))
  have one : wpAny (model prog w) A (tryCompare (.ref x) (cmpInfo .NotEq).2.1 b) (fun r s' => ∃ v, r = some v ∧ Q v s') E s := by
    unfold tryCompare
    refine wpAny_bind (ifBound_B X I hne F.slot_object_ne ?_)
    refine wpAny_call (codeAny_call_builtin F.slot_object_ne.plain F.cmpEntry_ne (check_B X I F.cmpKind_ne F.cmpSplit_ne (F.cmpArgs_ne _ _) hob (wpAny_mono body (fun r s' z => ?_) fun _ _ e => e)))
    obtain ⟨k, rfl, q⟩ := z
    exact wpAny_pure ⟨_, rfl, q⟩
  exact rich_first (by omega) X I hb hn one
end
section
variable {prog : Program} {w : World} {A : Around} {E : Value → Shared → Prop} {s : Shared} {K : Frag} {x C L f : Addr} {dd : Option Addr} {sl : Array (Option Value)}
theorem dec_int {i : Int} {t : Tok} (hx : s.heap.get? x = some ⟨.ref C, dd, .plain, sl⟩) : wpAny (model prog w) A (Builtin.«int.__eq__» ⟨[.int i t, .ref x], []⟩) (fun r s' => r = .done (.ret .notImplemented) ∧ s' = s) E s := by
  obtain ⟨hp, g, d, tk, os⟩ := s
  have hx : hp.get? x = some ⟨.ref C, dd, .plain, sl⟩ := hx
  wp_walk
  exact ⟨rfl, rfl⟩
theorem dec_bool {i : Bool} (hx : s.heap.get? x = some ⟨.ref C, dd, .plain, sl⟩) : wpAny (model prog w) A (Builtin.«int.__eq__» ⟨[.bool i, .ref x], []⟩) (fun r s' => r = .done (.ret .notImplemented) ∧ s' = s) E s := by
  obtain ⟨hp, g, d, tk, os⟩ := s
  have hx : hp.get? x = some ⟨.ref C, dd, .plain, sl⟩ := hx
  wp_walk
  exact ⟨rfl, rfl⟩
theorem dec_str {i : Str} {t : Tok} (hx : s.heap.get? x = some ⟨.ref C, dd, .plain, sl⟩) : wpAny (model prog w) A (Builtin.«str.__eq__» ⟨[.str i t, .ref x], []⟩) (fun r s' => r = .done (.ret .notImplemented) ∧ s' = s) E s := by
  obtain ⟨hp, g, d, tk, os⟩ := s
  have hx : hp.get? x = some ⟨.ref C, dd, .plain, sl⟩ := hx
  wp_walk
  exact ⟨rfl, rfl⟩
theorem dec_NoneType (hx : s.heap.get? x = some ⟨.ref C, dd, .plain, sl⟩) : wpAny (model prog w) A (Builtin.«NoneType.__eq__» ⟨[.none, .ref x], []⟩) (fun r s' => r = .done (.ret .notImplemented) ∧ s' = s) E s := by
  obtain ⟨hp, g, d, tk, os⟩ := s
  have hx : hp.get? x = some ⟨.ref C, dd, .plain, sl⟩ := hx
  wp_walk
  exact ⟨rfl, rfl⟩
theorem dec_list {l : Addr} (hx : s.heap.get? x = some ⟨.ref C, dd, .plain, sl⟩) (X : K.In s.heap) (e : subIn K (.ref C) (.type "list") = some false) : wpAny (model prog w) A (Builtin.«list.__eq__» ⟨[.ref l, .ref x], []⟩) (fun r s' => r = .done (.ret .notImplemented) ∧ s' = s) E s := by
  obtain ⟨hp, g, d, tk, os⟩ := s
  have hx : hp.get? x = some ⟨.ref C, dd, .plain, sl⟩ := hx
  have X : K.In hp := X
  wp_walk
  refine (looks_subIn X e).here ?_
  wp_walk
  exact ⟨rfl, rfl⟩
theorem dec_tuple {l : Addr} (hx : s.heap.get? x = some ⟨.ref C, dd, .plain, sl⟩) (X : K.In s.heap) (e : subIn K (.ref C) (.type "tuple") = some false) : wpAny (model prog w) A (Builtin.«tuple.__eq__» ⟨[.ref l, .ref x], []⟩) (fun r s' => r = .done (.ret .notImplemented) ∧ s' = s) E s := by
  obtain ⟨hp, g, d, tk, os⟩ := s
  have hx : hp.get? x = some ⟨.ref C, dd, .plain, sl⟩ := hx
  have X : K.In hp := X
  wp_walk
  refine (looks_subIn X e).here ?_
  wp_walk
  exact ⟨rfl, rfl⟩
theorem dec_dict {l : Addr} (hx : s.heap.get? x = some ⟨.ref C, dd, .plain, sl⟩) (X : K.In s.heap) (e : subIn K (.ref C) (.type "dict") = some false) : wpAny (model prog w) A (Builtin.«dict.__eq__» ⟨[.ref l, .ref x], []⟩) (fun r s' => r = .done (.ret .notImplemented) ∧ s' = s) E s := by
  obtain ⟨hp, g, d, tk, os⟩ := s
  have hx : hp.get? x = some ⟨.ref C, dd, .plain, sl⟩ := hx
  have X : K.In hp := X
  wp_walk
  refine (looks_subIn X e).here ?_
  wp_walk
  exact ⟨rfl, rfl⟩
end
section
variable {prog : Program} {w : World} {A : Around} {E : Value → Shared → Prop} {s : Shared} {K : Frag} {x C L f : Addr} {ox : Obj} {od : Option Obj} {b u : Value} {T : String}
theorem decl_of {id : String} {B : Builtin} {Q : Option Value → Shared → Prop} (hT : s.TypeIs u T) (S : Slot T (cmpInfo .Eq).2.1 id) (en : entryFor table id = some B) (ar : argsOk id ⟨[u, .ref x], []⟩)
    (d : wpAny (model prog w) A.in1 (B ⟨[u, .ref x], []⟩) (fun r s' => r = .done (.ret .notImplemented) ∧ s' = s) E s) (q : Q none s) : wpAny (model prog w) A (tryCompare u (cmpInfo .Eq).2.1 (.ref x)) Q E s := by
  refine wpAny_tryCompare_declines hT S (wpAny_call (codeAny_call_builtin S.plain en (S.check _ _ _ _ _ _ _ _ hT ar (wpAny_mono d (fun r s' z => ?_) fun _ _ e => e))))
  obtain ⟨rfl, rfl⟩ := z
  exact ⟨rfl, q⟩
theorem one_K {Q : Value → Shared → Prop} (X : K.In s.heap) (I : InstAt s.heap x ox C od) (hs : findIn K (.ref C) "__eq__" = some (some (.ref f))) (hf : isFn K (.ref f) = true)
    (h : wpAny (model prog w) A (call (.ref f) [.ref x, b]) (fun v s' => ∃ k, v = .bool k ∧ Q (.bool k) s') E s) : wpAny (model prog w) A (tryCompare (.ref x) (cmpInfo .Eq).2.2 b) (fun r s' => ∃ v, r = some v ∧ Q v s') E s := by
  unfold tryCompare
  refine wpAny_bind (ifBound_K X I hs hf (wpAny_mono h (fun v s' z => ?_) fun _ _ e => e))
  obtain ⟨k, rfl, q⟩ := z
  exact wpAny_pure ⟨_, rfl, q⟩
/-- a comparison that the left side, of a built-in kind, declines, and the right side, an own instance, answers -/
theorem rich_second {Q : Value → Shared → Prop} (hu : A.units < cLine) (X : K.In s.heap) (I : InstAt s.heap x ox C od) (hT : s.TypeIs u T) (sb : subIn K (.ref C) (.type T) = some false)
    (dc : ∀ Q : Option Value → Shared → Prop, Q none s → wpAny (model prog w) A (tryCompare u (cmpInfo .Eq).2.1 (.ref x)) Q E s)
    (one : wpAny (model prog w) A (tryCompare (.ref x) (cmpInfo .Eq).2.2 u) (fun r s' => ∃ v, r = some v ∧ Q v s') E s) : wpAny (model prog w) A (richCompare .Eq u (.ref x)) Q E s := by
  unfold richCompare; simp only [hT.oneThing_none]
  refine wpAny_holding (wpAny_bind (wpAny_cRoomFor hu (wpAny_bind (wpAny_typeOf hT (wpAny_bind (I.type.here ?_))))))
  rw [if_pos (by simp)]
  refine wpAny_bind ((looks_subIn X sb).here ?_); simp only [Bool.false_eq_true, if_false]
  refine wpAny_bind (dc _ ?_)
  simp only [Bool.not_false, if_true]
  refine wpAny_bind (wpAny_mono one (fun r s' z => ?_) fun _ _ e => e); obtain ⟨v, rfl, q⟩ := z
  exact wpAny_pure q
end
end PySem.W
namespace Z
open PySem PySem.Spec PyProof.Rows L2
/-- a value's type: an own class, or a built-in one -/
def RT (K : PySem.W.Frag) (H : Hp) (y : V) (t : Value) : Prop := (∃ c C dy gs, y = .ref c ∧ H c = some (.ins C dy gs) ∧ t = .ref C) ∨ TyX K H y t
/-- a value of a built-in kind -/
inductive BT (H : Hp) : V → String → Prop where
  | non : BT H .non "NoneType"
  | int (i : Int) : BT H (.int i) "int"
  | bl (b : Bool) : BT H (.bl b) "bool"
  | str (x : Str) : BT H (.str x) "str"
  | lst {p : Addr} {xs : List V} (h : H p = some (.lst xs)) : BT H (.ref p) "list"
  | tup {p : Addr} {xs : List V} (h : H p = some (.tup xs)) : BT H (.ref p) "tuple"
  | dK {p : Addr} {xs : List (Key × V)} (h : H p = some (.dK xs)) : BT H (.ref p) "dict"
theorem BT.ty {K : PySem.W.Frag} {H : Hp} {x : V} {T : String} (h : BT H x T) : TyX K H x (.type T) := by
  cases h with
  | non => exact .base .non
  | int i => exact .base (.int i)
  | bl b => exact .base (.bl b)
  | str x => exact .base (.str x)
  | lst h => exact .base (.lst h)
  | tup h => exact .base (.tup h)
  | dK h => exact .base (.dK h)
theorem BT.same {H H' : Hp} {x : V} {T : String} (h : BT H x T) (s : Same H H') : BT H' x T := by
  cases h with
  | non => exact .non
  | int i => exact .int i
  | bl b => exact .bl b
  | str x => exact .str x
  | lst h => exact .lst (s _ _ h)
  | tup h => exact .tup (s _ _ h)
  | dK h => exact .dK (s _ _ h)
theorem rt_looks {X : Cx} {pins : List (Addr × Obj)} {σ : L2.St} {H : Hp} {s : Shared} {M : Model} {y : V} {u t : Value} (I : Inv X pins σ H s) (r : RelV y u) (h : RT X.K H y t) : PySem.W.Looks M s.heap (typeOf u) t := by
  rcases h with ⟨c, C, dy, gs, rfl, hc, rfl⟩ | h
  · cases r
    obtain ⟨m, J, _⟩ := ins_get I.hok hc
    obtain ⟨od, J, _⟩ := J.look
    exact J.type
  · obtain ⟨P, k, p, _⟩ := kit_of I r h
    obtain ⟨m, hF⟩ := I.fr
    exact k.ty M s.heap (I.ok.mod.kin.keeps hF.keep) p
/-- an own != is there by the built-in default alone -/
structure NeDef (K : PySem.W.Frag) (C : Addr) : Prop where
  ne : PySem.W.findIn K (.ref C) "__ne__" = some (some (.builtin "object.__ne__"))
  ob : PySem.W.subIn K (.ref C) (.type "object") = some true
def fxNeDef (c : Str) : Fx := fun K => He.eqO (PySem.W.findIn K (.ref (He.ga K c)) "__ne__") (some (some (.builtin "object.__ne__"))) && decide (PySem.W.subIn K (.ref (He.ga K c)) (.type "object") = some true)
def fxNFt (c : Str) (ts : List String) : Fx := fun K => ts.all fun t => PySem.W.notFirst K (He.ga K c) (.type t) && decide (PySem.W.subIn K (.ref (He.ga K c)) (.type t) = some false)
theorem fxNFt_ok {K : PySem.W.Frag} {c : Str} {ts : List String} (h : fxNFt c ts K = true) {t : String} (m : t ∈ ts) : PySem.W.notFirst K (He.ga K c) (.type t) = true ∧ PySem.W.subIn K (.ref (He.ga K c)) (.type t) = some false := by
  have := List.all_eq_true.mp h t m
  rw [Bool.and_eq_true] at this
  exact ⟨this.1, of_decide_eq_true this.2⟩
def fxNFs (cs : List Str) : Fx := fun K => cs.all fun c => cs.all fun d => PySem.W.notFirst K (He.ga K c) (.ref (He.ga K d))
theorem fxNFs_ok {K : PySem.W.Frag} {cs : List Str} (h : fxNFs cs K = true) {c d : Str} (m : c ∈ cs) (n : d ∈ cs) : PySem.W.notFirst K (He.ga K c) (.ref (He.ga K d)) = true := List.all_eq_true.mp (List.all_eq_true.mp h c m) d n
def zEqX (K : PySem.W.Frag) (E : XK) (Ms : List MA) : R2 := fun x y H Q => ∃ (M : MA) (a dx : Addr) (fs : List (Str × V)) (t : Value), M ∈ Ms ∧ x = .ref a ∧ H a = some (.ins M.C dx fs) ∧ RT K H y t ∧ PySem.W.notFirst K M.C t = true ∧ M.n = 2 ∧ M.gV K [.ref a, y] [] = [.ref a, y] ∧
  M.sp [.ref a, y] H (fun v H' => ∃ k, v = .bl k ∧ Q (.bl k) H') E
def zNeX (K : PySem.W.Frag) (E : XK) (Ms : List MA) : R2 := fun x y H Q => ∃ (M : MA) (a dx : Addr) (fs : List (Str × V)) (t : Value), M ∈ Ms ∧ x = .ref a ∧ H a = some (.ins M.C dx fs) ∧ RT K H y t ∧ PySem.W.notFirst K M.C t = true ∧ NeDef K M.C ∧ M.n = 2 ∧ M.gV K [.ref a, y] [] = [.ref a, y] ∧
  M.sp [.ref a, y] H (fun v H' => ∃ k, v = .bl k ∧ Q (.bl (!k)) H') E
def zEqY (K : PySem.W.Frag) (E : XK) (Ms : List MA) : R2 := fun x y H Q => ∃ (M : MA) (a dx : Addr) (fs : List (Str × V)) (T : String), M ∈ Ms ∧ y = .ref a ∧ H a = some (.ins M.C dx fs) ∧ BT H x T ∧ PySem.W.subIn K (.ref M.C) (.type T) = some false ∧ M.n = 2 ∧ M.gV K [.ref a, x] [] = [.ref a, x] ∧
  M.sp [.ref a, x] H (fun v H' => ∃ k, v = .bl k ∧ Q (.bl k) H') E
def rEqXY (K : PySem.W.Frag) (E : XK) (Ms : List MA) : R2 := fun x y H Q => zEqX K E Ms x y H Q ∨ zEqY K E Ms x y H Q
section
variable {X : Cx} {g : Prop} {Ms : List MA} {E : XK}
theorem opEqXY (K : PySem.W.Frag) (hK : X.K = K) {kk : Nat} (hr : Room kk X.A) (hM : ∀ M ∈ Ms, MtM g X "__eq__" [] M) (hx : Passes (L2.CX X.prog X.w) X E) : OpR X (compareOp .Eq) (rEqXY K E Ms) := by
  subst hK
  intro pins s σ H x y v u Q I rx ry h
  obtain ⟨mf, hF⟩ := I.fr
  have XK := I.ok.mod.kin.keeps hF.keep
  rcases h with h | h
  · obtain ⟨M, a, dx, fs, t, hm0, rfl, ha, rt, nf, hn, hg, q⟩ := h
    cases rx
    obtain ⟨k, f, d, ps, hm, F', hb, hr', hgd⟩ := (hM M hm0).ex
    obtain ⟨fd, FD, OK⟩ := F'.ex
    obtain ⟨gg, B⟩ := hb _ _ _ FD
    obtain ⟨mA, J, _⟩ := ins_get I.hok ha
    obtain ⟨od, J, _⟩ := J.look
    refine PySem.W.rich_first (op := .Eq) hr.units0 XK J (rt_looks I ry rt) nf (PySem.W.one_K XK J hm.at_ hm.fn ?_)
    refine wpAny_mono (run_g (us := [.ref a, u]) (vs := [.ref a, y]) (ws := []) (zs := []) (ks := []) OK hr' hgd B hx I (.cons rfl (.cons ry .nil)) .nil hn.symm rfl (by rw [hg]; exact q)) (fun r s' z => ?_) fun _ _ e => e
    obtain ⟨v, H', I', rv, k, rfl, q'⟩ := z
    cases rv
    exact ⟨k, rfl, .bl k, H', I', rfl, q'⟩
  · obtain ⟨M, a, dx, fs, T, hm0, rfl, ha, bt, sb, hn, hg, q⟩ := h
    cases ry
    obtain ⟨k, f, d, ps, hm, F', hb, hr', hgd⟩ := (hM M hm0).ex
    obtain ⟨fd, FD, OK⟩ := F'.ex
    obtain ⟨gg, B⟩ := hb _ _ _ FD
    obtain ⟨mA, J, _⟩ := ins_get I.hok ha
    have ob := J.obj
    obtain ⟨od, J, _⟩ := J.look
    have one := PySem.W.one_K (A := X.A) (E := X.xe) (Q := EP X pins σ Q) XK J hm.at_ hm.fn (b := v) (by
      refine wpAny_mono (run_g (us := [.ref a, v]) (vs := [.ref a, x]) (ws := []) (zs := []) (ks := []) OK hr' hgd B hx I (.cons rfl (.cons rx .nil)) .nil hn.symm rfl (by rw [hg]; exact q)) (fun r s' z => ?_) fun _ _ e => e
      obtain ⟨v, H', I', rv, k, rfl, q'⟩ := z
      cases rv
      exact ⟨k, rfl, .bl k, H', I', rfl, q'⟩)
    cases bt with
    | non =>
      cases (show v = Value.none from rx)
      exact PySem.W.rich_second hr.units0 XK J rfl sb (fun _ q => PySem.W.decl_of rfl F.slot_NoneType_eq F.entry_NoneType_eq (F.args_NoneType_eq_2 _ _) (PySem.W.dec_NoneType ob) q) one
    | int i =>
      obtain ⟨t, e⟩ := (show ∃ t, v = Value.int i t from rx)
      cases e
      exact PySem.W.rich_second hr.units0 XK J (typeIs_int _ _ _) sb (fun _ q => PySem.W.decl_of (typeIs_int _ _ _) F.slot_int_eq F.entry_int_eq (F.args_int_eq_2 _ _) (PySem.W.dec_int ob) q) one
    | bl b =>
      cases (show v = Value.bool b from rx)
      exact PySem.W.rich_second hr.units0 XK J rfl sb (fun _ q => PySem.W.decl_of rfl F.slot_bool_eq F.entry_int_eq (F.args_int_eq_2 _ _) (PySem.W.dec_bool ob) q) one
    | str z =>
      obtain ⟨t, e⟩ := (show ∃ t, v = Value.str z t from rx)
      cases e
      exact PySem.W.rich_second hr.units0 XK J (typeIs_str _ _ _) sb (fun _ q => PySem.W.decl_of (typeIs_str _ _ _) F.slot_str_eq F.entry_str_eq (F.args_str_eq_2 _ _) (PySem.W.dec_str ob) q) one
    | @lst p xs e =>
      cases (show v = Value.ref p from rx)
      obtain ⟨_, _, n, _, h1⟩ := (show ObjOk X.prog X.w H s.heap p (.lst xs) from I.hok p _ e)
      have hT : s.TypeIs (.ref p) "list" := ⟨_, h1, rfl⟩
      exact PySem.W.rich_second hr.units0 XK J hT sb (fun _ q => PySem.W.decl_of hT F.slot_list_eq F.entry_list_eq (F.args_list_eq_2 _ _) (PySem.W.dec_list ob XK sb) q) one
    | @tup p xs e =>
      cases (show v = Value.ref p from rx)
      obtain ⟨_, _, _, o, h1, h2, _⟩ := (show ObjOk X.prog X.w H s.heap p (.tup xs) from I.hok p _ e)
      have hT : s.TypeIs (.ref p) "tuple" := ⟨o, h1, h2⟩
      exact PySem.W.rich_second hr.units0 XK J hT sb (fun _ q => PySem.W.decl_of hT F.slot_tuple_eq F.entry_tuple_eq (F.args_tuple_eq_2 _ _) (PySem.W.dec_tuple ob XK sb) q) one
    | @dK p kvs e =>
      cases (show v = Value.ref p from rx)
      obtain ⟨_, _, vs, _, o, es, ep, h1, h2, _⟩ := (show ObjOk X.prog X.w H s.heap p (.dK kvs) from I.hok p _ e)
      have hT : s.TypeIs (.ref p) "dict" := ⟨o, h1, h2.1⟩
      exact PySem.W.rich_second hr.units0 XK J hT sb (fun _ q => PySem.W.decl_of hT F.slot_dict_eq F.entry_dict_eq (F.args_dict_eq_2 _ _) (PySem.W.dec_dict ob XK sb) q) one
theorem opNeX (K : PySem.W.Frag) (hK : X.K = K) {kk : Nat} (hr : Room (kk + 1) X.A) (hM : ∀ M ∈ Ms, MtE g X kk M) (hgd : Gd g X.A) (hx : Passes (L2.CX X.prog X.w) X E) : OpR X (compareOp .NotEq) (zNeX K E Ms) := by
  subst hK
  intro pins s σ H x y v u Q I rx ry h
  obtain ⟨mf, hF⟩ := I.fr
  have XK := I.ok.mod.kin.keeps hF.keep
  obtain ⟨M, a, dx, fs, t, hm0, rfl, ha, rt, nf, nd, hn, hg, q⟩ := h
  cases rx
  obtain ⟨f, dd, ps, hm, F, hb⟩ := (hM M hm0).ex
  obtain ⟨fd, FD, OK⟩ := F.ex
  obtain ⟨gg, B⟩ := hb _ _ _ FD
  obtain ⟨mA, J, _⟩ := ins_get I.hok ha
  obtain ⟨od, J, _⟩ := J.look
  show wpAny (model X.prog X.w) X.A (richCompare .NotEq (.ref a) u) (EP X pins σ Q) X.xe s
  refine PySem.W.ne_own (by have := hr.un; omega) XK J (rt_looks I ry rt) nf nd.ne nd.ob hm.at_ hm.fn ?_
  have r2 : Vals [V.ref a, y] [Value.ref a, u] := .cons rfl (.cons ry .nil)
  have e0 : Env0 X.prog X.w X.K X.mg X.base X.A.in1 X.stack s H := by
    have e := I.env0
    exact ⟨e.frames, e.mod, e.bs, e.bsz, e.funs, e.frf, e.hok, e.bare⟩
  refine wpAny_call (codeAny_mono (OK.run X.A.in1 X.stack s H ⟨[.ref a, u], []⟩ (gg [.ref a, u] []) (M.gV X.K [.ref a, y] []) _ E hr.in1 hgd e0 (B.to s [.ref a, u] [] I.kIn hn.symm rfl) (B.rel r2 .nil) (by rw [hg]; exact q)) fun r s' hq => ?_)
  match r, hq with
  | .error e, hq => exact hx pins σ H s e s' I hq
  | .ok (.ret z), hq =>
    obtain ⟨v, H', I', rv, k, rfl, q'⟩ := I.after hq
    cases rv
    exact ⟨k, rfl, .bl _, H', I', rfl, q'⟩
  | .ok .next, hq => exact False.elim hq
  | .ok .brk, hq => exact False.elim hq
  | .ok .cont, hq => exact False.elim hq
end
def fxDist (cs : List Str) : Fx := fun K => decide ((cs.map (He.ga K)).Nodup)
theorem fxDist_ok {K : PySem.W.Frag} {cs : List Str} (h : fxDist cs K = true) {c d : Str} (m : c ∈ cs) (n : d ∈ cs) (e : He.ga K c = He.ga K d) : c = d := by
  have nd : (cs.map (He.ga K)).Nodup := of_decide_eq_true h
  obtain ⟨i, hi⟩ := List.getElem?_of_mem m
  obtain ⟨j, hj⟩ := List.getElem?_of_mem n
  have li := (List.getElem?_eq_some_iff.mp hi).1
  have lj := (List.getElem?_eq_some_iff.mp hj).1
  have ei : (cs.map (He.ga K))[i]? = some (He.ga K c) := by rw [List.getElem?_map, hi]; rfl
  have ej : (cs.map (He.ga K))[j]? = some (He.ga K c) := by rw [List.getElem?_map, hj, e]; rfl
  have : i = j := (List.getElem?_inj (by simpa using li) nd).mp (ei.trans ej.symm)
  subst this
  rw [hi] at hj
  exact Option.some.inj hj
end Z

local macro_rules | `(tactic| k_call_by "ne" 0) => `(tactic| first
  | with_reducible assumption
  | ((with_reducible refine Ne.symm ?z_h); (case z_h => with_reducible assumption))
  | ((with_reducible refine Z.Made.nei (H := ?z_H) (dx := ?z_dx) (C := ?z_C) (H' := ?z_H') (u := ?z_u) ?z_n ?z_h); (case z_n => with_reducible assumption); (case z_h => k_call_by "hf" 0))
  | ((with_reducible refine Z.Made.nei' (H := ?z_H) (dx := ?z_dx) (C := ?z_C) (H' := ?z_H') (u := ?z_u) ?z_n ?z_h); (case z_n => with_reducible assumption); (case z_h => k_call_by "hf" 0))
  | ((with_reducible refine Z.New.ne (H := ?z_H) (o := ?z_o) (u := ?z_u) (H' := ?z_H') ?z_n ?z_h); (case z_n => with_reducible assumption); (case z_h => k_call_by "hf" 0))
  | ((with_reducible refine Z.New.ne' (H := ?z_H) (o := ?z_o) (u := ?z_u) (H' := ?z_H') ?z_n ?z_h); (case z_n => with_reducible assumption); (case z_h => k_call_by "hf" 0))
  | ((with_reducible refine Z.ne_fr (H := ?z_H) (u := ?z_u) ?z_f ?z_h); (case z_f => with_reducible assumption); (case z_h => k_call_by "hf" 0))
  | ((with_reducible refine Z.ne_fr' (H := ?z_H) (u := ?z_u) ?z_f ?z_h); (case z_f => with_reducible assumption); (case z_h => k_call_by "hf" 0))
  | fail)
local macro_rules | `(tactic| k_call_by "hf" 0) => `(tactic| first
  | with_reducible assumption
  | ((with_reducible refine Z.New.at (H := ?z_H) ?z_n); (case z_n => with_reducible assumption))
  | ((with_reducible refine Z.New.get (H := ?z_H) (p := ?z_p) (o := ?z_o) ?z_n ?z_h); (case z_n => with_reducible assumption); (case z_h => k_call_by "hf" 0))
  | ((with_reducible refine Z.Made.at (H := ?z_H) (dx := ?z_dx) ?z_n); (case z_n => with_reducible assumption))
  | ((with_reducible refine Z.Made.get (H := ?z_H) (x := ?z_x) (dx := ?z_dx) (C := ?z_C) ?z_n ?z_h); (case z_n => with_reducible assumption); (case z_h => k_call_by "hf" 0))
  | ((with_reducible refine Z.Up.at (H := ?z_H) ?z_n); (case z_n => with_reducible assumption))
  | ((with_reducible refine Z.Up.get (H := ?z_H) (p := ?z_p) (o := ?z_o) ?z_n ?z_ne ?z_h); (case z_n => with_reducible assumption); (case z_ne => k_call_by "ne" 0); (case z_h => k_call_by "hf" 0))
  | ((with_reducible refine Z.same_get (H := ?z_H) ?z_s ?z_h); (case z_s => with_reducible assumption); (case z_h => k_call_by "hf" 0))
  | ((with_reducible refine Z.But.get (H := ?z_H) (p := ?z_p) ?z_n ?z_ne ?z_h); (case z_n => with_reducible assumption); (case z_ne => k_call_by "ne" 0); (case z_h => k_call_by "hf" 0))
  | fail)
local macro_rules | `(tactic| k_call_by "hq" 0) => `(tactic| first
  | with_reducible assumption
  | ((with_reducible refine L2.SqL.of ?z_h); (case z_h => k_call_by "hf" 0))
  | ((with_reducible refine Z.sq_same (H := ?z_H) ?z_s ?z_h); (case z_s => with_reducible assumption); (case z_h => k_call_by "hq" 0))
  | ((with_reducible refine Z.sq_new (H := ?z_H) (p := ?z_p) (o := ?z_o) ?z_n ?z_h); (case z_n => with_reducible assumption); (case z_h => k_call_by "hq" 0))
  | fail)
-- what stood stands
local macro_rules | `(tactic| k_call_by "fh" 0) => `(tactic| first
  | with_reducible assumption
  | ((with_reducible refine Z.New.fr (o := ?z_o) (H' := ?z_H') ?z_n); (case z_n => with_reducible assumption))
  | ((with_reducible refine Z.Made.fr (dx := ?z_dx) (C := ?z_C) (H' := ?z_H') ?z_n); (case z_n => with_reducible assumption))
  | ((with_reducible refine Z.fresh_made (H1 := ?z_H1) (H2 := ?z_H2) (dx := ?z_dx) (C := ?z_C) ?z_n ?z_s); (case z_n => with_reducible assumption); (case z_s => k_call_by "fr" 0))
  | ((with_reducible refine Z.fresh_by (H1 := ?z_H1) (H2 := ?z_H2) (o := ?z_o) ?z_n ?z_s); (case z_n => with_reducible assumption); (case z_s => k_call_by "fr" 0))
  | ((with_reducible refine Z.fresh_at (H1 := ?z_H1) ?z_n ?z_s); (case z_n => with_reducible assumption); (case z_s => k_call_by "fr" 0))
  | ((with_reducible refine Z.fresh_but (H1 := ?z_H1) (H2 := ?z_H2) (o := ?z_o) (a := ?z_a) ?z_n ?z_s ?z_ne); (case z_n => with_reducible assumption); (case z_s => k_call_by "fr" 0); (case z_ne => k_call_by "ne" 0))
  | fail)
local macro_rules | `(tactic| k_call_by "fr" 0) => `(tactic| first
  | with_reducible assumption
  | with_reducible exact L2.Same.refl _
  | with_reducible exact Z.But.refl
  | ((with_reducible refine Z.fr_new (H1 := ?z_H1) (p := ?z_p) (o := ?z_o) ?z_y ?z_x); (case z_y => with_reducible assumption); (case z_x => k_call_by "fr" 0))
  | ((with_reducible refine Z.fr_made (H1 := ?z_H1) (p := ?z_p) (dx := ?z_dx) (C := ?z_C) ?z_y ?z_x); (case z_y => with_reducible assumption); (case z_x => k_call_by "fr" 0))
  | ((with_reducible refine Z.fr_same (H1 := ?z_H1) ?z_y ?z_x); (case z_y => with_reducible assumption); (case z_x => k_call_by "fr" 0))
  | ((with_reducible refine Z.fr_up (H1 := ?z_H1) (p := ?z_p) (o := ?z_o) ?z_y ?z_x ?z_f); (case z_y => with_reducible assumption); (case z_x => k_call_by "fr" 0); (case z_f => k_call_by "fh" 0))
  | ((with_reducible refine Z.fr_but (H1 := ?z_H1) (p := ?z_p) ?z_y ?z_x ?z_f); (case z_y => with_reducible assumption); (case z_x => k_call_by "fr" 0); (case z_f => k_call_by "fh" 0))
  | ((with_reducible refine Z.fb_new (H1 := ?z_H1) (p := ?z_p) (o := ?z_o) ?z_y ?z_x); (case z_y => with_reducible assumption); (case z_x => k_call_by "fr" 0))
  | ((with_reducible refine Z.fb_same (H1 := ?z_H1) ?z_y ?z_x); (case z_y => with_reducible assumption); (case z_x => k_call_by "fr" 0))
  | ((with_reducible refine Z.fb_but (H1 := ?z_H1) ?z_y ?z_x); (case z_y => with_reducible assumption); (case z_x => k_call_by "fr" 0))
  | ((with_reducible refine Z.fb_up (H1 := ?z_H1) (o := ?z_o) ?z_y ?z_x); (case z_y => with_reducible assumption); (case z_x => k_call_by "fr" 0))
  | ((with_reducible refine Z.fb_upn (H1 := ?z_H1) (p := ?z_p) (o := ?z_o) ?z_y ?z_x ?z_f); (case z_y => with_reducible assumption); (case z_x => k_call_by "fr" 0); (case z_f => k_call_by "fh" 0))
  | ((with_reducible refine Z.fb_butn (H1 := ?z_H1) (p := ?z_p) ?z_y ?z_x ?z_f); (case z_y => with_reducible assumption); (case z_x => k_call_by "fr" 0); (case z_f => k_call_by "fh" 0))
  | fail)
-- sizes that fit
local macro_rules | `(tactic| k_call_by "sz" 0) => `(tactic| first
  | with_reducible assumption
  | omega
  | (simp only [PySem.sizeLine_eq, List.length_append, List.length_cons, List.length_nil, List.length_map, List.length_replicate, List.length_reverse, List.length_take, List.length_drop]; omega)
  | (simp only [PySem.sizeLine_eq, List.length_append, List.length_cons, List.length_nil, List.length_map, List.length_replicate, List.length_reverse] at *; omega)
  | fail)
local macro_rules | `(tactic| k_call_by "zb" 0) => `(tactic| first
  | omega
  | (simp only [PySem.sizeLine_eq, List.length_append, List.length_cons, List.length_nil, List.length_map, List.length_replicate, List.length_reverse, List.length_take, List.length_drop]; omega)
  | (simp only [List.length_append, List.length_cons, List.length_nil, List.length_map, List.length_replicate, List.length_reverse] at *; omega)
  | fail)
-- one step
local macro_rules | `(tactic| k_call_by "z" 0) => `(tactic| first
  | with_reducible refine Z.i_seq ?_
  | with_reducible refine Z.i_asg ?_
  | ((with_reducible refine Z.i_var (v := ?z_v) ?z_e ?_); (case z_e => exact rfl))
  | with_reducible refine Z.i_op ?_
  | with_reducible refine Z.i_c ?_
  | with_reducible refine Z.i_name ?_
  | with_reducible refine Z.i_cons ?_
  | with_reducible refine Z.i_nil ?_
  | with_reducible refine Z.i_ret ?_
  | with_reducible refine Z.i_drop ?_
  | with_reducible refine Z.i_if ?_
  | with_reducible refine Z.i_call ?_
  | ((with_reducible refine Z.i_len2 ?z_e ?z_f ?_); (case z_e => exact rfl); (case z_f => exact rfl))
  | with_reducible refine Z.i_cb ?_
  | with_reducible refine Z.i_test ?_
  | with_reducible refine Z.i_blV ?_
  | with_reducible refine Z.i_b ?_
  | with_reducible refine Z.i_and ?_
  | with_reducible refine Z.i_or ?_
  | with_reducible refine Z.i_not ?_
  | with_reducible refine Z.i_next ?_
  | with_reducible refine Z.i_addI ?_
  | with_reducible refine Z.i_I0 ?_
  | with_reducible refine Z.i_U ?_
  | with_reducible refine Z.i_un ?_
  | with_reducible refine Z.i_eqI ?_
  | with_reducible refine Z.i_neI ?_
  | with_reducible refine Z.i_eqS ?_
  | with_reducible refine Z.i_neS ?_
  | with_reducible refine Z.i_ifE ?_
  | with_reducible refine Z.i_sl ?_
  | with_reducible refine Z.i_nopart ?_
  | with_reducible refine Z.i_part ?_
  | with_reducible refine Z.i_partI ?_
  | with_reducible refine Z.i_tup ?_
  | with_reducible refine Z.i_lst ?_
  | ((with_reducible refine Z.i_sz ?z_c ?_); (case z_c => exact Nat.le_of_ble_eq_true rfl))
  | with_reducible refine Z.i_bm ?_
  | with_reducible refine Z.i_bm0 ?_
  | with_reducible refine Z.i_for ?_
  | with_reducible refine Z.i_iList ?_
  | with_reducible refine Z.i_iTup ?_
  | with_reducible refine Z.i_rng1 ?_
  | with_reducible refine Z.i_rng2 ?_
  | with_reducible refine Z.i_enum ?_
  | with_reducible refine Z.i_zip ?_
  | with_reducible refine Z.i_lc ?_
  | with_reducible refine Z.i_yes ?_
  | ((with_reducible refine Z.i_wipe ?z_e ?_); (case z_e => exact rfl))
  | ((with_reducible refine Z.i_mk1 ?z_e ?z_f ?_); (case z_e => exact rfl); (case z_f => exact rfl))
  | ((with_reducible refine Z.i_mk1S ?z_e ?z_f ?_); (case z_e => exact rfl); (case z_f => exact rfl))
  | with_reducible refine Z.i_M ?_
  | with_reducible refine Z.i_V ?_
  | with_reducible refine Z.i_make ?_
  | with_reducible refine Z.i_fldS ?_
  | with_reducible refine Z.i_fld ?_
  | with_reducible refine Z.i_chain ?_
  | with_reducible refine Z.i_notV ?_
  | with_reducible refine Z.ifNT ?_
  | with_reducible refine Z.ifNF ?_
  | with_reducible refine Z.i_iSeqS ?_
  | with_reducible refine Z.i_zipA ?_
  | with_reducible refine Z.i_gcons ?_
  | with_reducible refine Z.i_gnil ?_
  | with_reducible refine Z.i_gsub ?_
  | with_reducible refine Z.i_augS ?_
  | with_reducible refine Z.i_ipI ?_
  | ((with_reducible refine Z.i_aug (x := ?z_x) ?z_e ?_); (case z_e => exact rfl))
  | with_reducible refine Z.i_par ?_
  | with_reducible refine Z.i_par3 ?_
  | with_reducible refine Z.i_two ?_
  | with_reducible refine Z.i_three ?_
  | with_reducible refine Z.i_andV ?_
  | with_reducible refine Z.i_orV ?_
  | with_reducible refine Z.i_isR ?_
  | with_reducible refine Z.i_isN ?_
  | with_reducible refine Z.i_isI ?_
  | with_reducible refine Z.i_isnR ?_
  | with_reducible refine Z.i_isnN ?_
  | with_reducible refine Z.i_isnI ?_
  | with_reducible refine Z.i_dnew ?_
  | with_reducible refine Z.i_slK ?_
  | with_reducible refine Z.i_rng3 ?_
  | with_reducible refine Z.i_callS ?_
  | with_reducible refine Z.i_MSo ?_
  | with_reducible refine Z.i_VSo ?_
  | with_reducible refine Z.i_makeS ?_
  | with_reducible refine Z.i_tryAs ?_
  | with_reducible refine Z.i_raise0 ?_
  | with_reducible refine Z.i_raiseO ?_
  | with_reducible refine Z.i_ost ?_
  | with_reducible refine Z.i_xf ?_
  | with_reducible refine Z.i_retN ?_
  | with_reducible refine Z.i_break ?_
  | with_reducible refine Z.i_cont ?_
  | with_reducible refine Z.i_max2 ?_
  | with_reducible refine Z.i_min2 ?_
  | with_reducible refine Z.i_intI ?_
  | with_reducible refine Z.i_intB ?_
  | with_reducible refine Z.i_abs ?_
  | with_reducible refine Z.i_part ?_
  | with_reducible refine Z.i_dget ?_
  | with_reducible refine Z.i_din ?_
  | with_reducible refine Z.i_dnin ?_
  | with_reducible refine Z.i_pnil ?_
  | with_reducible refine Z.i_pcons ?_
  | with_reducible refine Z.i_items ?_
  | with_reducible refine Z.i_dc ?_
  | with_reducible refine Z.i_m1 ?_
  | with_reducible refine Z.i_m0 ?_
  | with_reducible refine Z.i_tx ?_
  | with_reducible refine Z.i_iStr ?_
  | with_reducible refine Z.i_itS ?_
  | with_reducible refine Z.i_inS ?_
  | with_reducible refine Z.i_ninS ?_
  | with_reducible refine Z.i_enumA ?_
  | with_reducible refine L2.iteT ?_
  | with_reducible refine L2.iteF ?_
  | k_call_by "zh" 0
  | k_call_by "zn" 0
  | ((with_reducible refine Z.i_isi0 ?_); k_call_by "isi" 0)
  | fail)
local macro_rules | `(tactic| k_call_by "y" 0) => `(tactic| first
  | with_reducible refine Z.i_asg ?_
  | ((with_reducible refine Z.i_var (v := ?z_v) ?z_e ?_); (case z_e => exact rfl))
  | with_reducible refine Z.i_op ?_
  | with_reducible refine Z.i_c ?_
  | with_reducible refine Z.i_name ?_
  | with_reducible refine Z.i_cons ?_
  | with_reducible refine Z.i_nil ?_
  | with_reducible refine Z.i_ret ?_
  | with_reducible refine Z.i_drop ?_
  | with_reducible refine Z.i_call ?_
  | ((with_reducible refine Z.i_len2 ?z_e ?z_f ?_); (case z_e => exact rfl); (case z_f => exact rfl))
  | with_reducible refine Z.i_cb ?_
  | with_reducible refine Z.i_test ?_
  | with_reducible refine Z.i_blV ?_
  | with_reducible refine Z.i_b ?_
  | with_reducible refine Z.i_and ?_
  | with_reducible refine Z.i_or ?_
  | with_reducible refine Z.i_not ?_
  | with_reducible refine Z.i_next ?_
  | with_reducible refine Z.i_addI ?_
  | with_reducible refine Z.i_I0 ?_
  | with_reducible refine Z.i_U ?_
  | with_reducible refine Z.i_un ?_
  | with_reducible refine Z.i_eqI ?_
  | with_reducible refine Z.i_neI ?_
  | with_reducible refine Z.i_eqS ?_
  | with_reducible refine Z.i_neS ?_
  | with_reducible refine Z.i_ifE ?_
  | with_reducible refine Z.i_sl ?_
  | with_reducible refine Z.i_nopart ?_
  | with_reducible refine Z.i_part ?_
  | with_reducible refine Z.i_partI ?_
  | with_reducible refine Z.i_tup ?_
  | with_reducible refine Z.i_lst ?_
  | ((with_reducible refine Z.i_sz ?z_c ?_); (case z_c => exact Nat.le_of_ble_eq_true rfl))
  | with_reducible refine Z.i_bm ?_
  | with_reducible refine Z.i_bm0 ?_
  | with_reducible refine Z.i_for ?_
  | with_reducible refine Z.i_iList ?_
  | with_reducible refine Z.i_iTup ?_
  | with_reducible refine Z.i_rng1 ?_
  | with_reducible refine Z.i_rng2 ?_
  | with_reducible refine Z.i_enum ?_
  | with_reducible refine Z.i_zip ?_
  | with_reducible refine Z.i_lc ?_
  | with_reducible refine Z.i_yes ?_
  | ((with_reducible refine Z.i_wipe ?z_e ?_); (case z_e => exact rfl))
  | ((with_reducible refine Z.i_mk1 ?z_e ?z_f ?_); (case z_e => exact rfl); (case z_f => exact rfl))
  | ((with_reducible refine Z.i_mk1S ?z_e ?z_f ?_); (case z_e => exact rfl); (case z_f => exact rfl))
  | with_reducible refine Z.i_M ?_
  | with_reducible refine Z.i_V ?_
  | with_reducible refine Z.i_make ?_
  | with_reducible refine Z.i_fldS ?_
  | with_reducible refine Z.i_fld ?_
  | with_reducible refine Z.i_chain ?_
  | with_reducible refine Z.i_notV ?_
  | with_reducible refine Z.ifNT ?_
  | with_reducible refine Z.ifNF ?_
  | with_reducible refine Z.i_iSeqS ?_
  | with_reducible refine Z.i_zipA ?_
  | with_reducible refine Z.i_gcons ?_
  | with_reducible refine Z.i_gnil ?_
  | with_reducible refine Z.i_gsub ?_
  | with_reducible refine Z.i_augS ?_
  | with_reducible refine Z.i_ipI ?_
  | ((with_reducible refine Z.i_aug (x := ?z_x) ?z_e ?_); (case z_e => exact rfl))
  | with_reducible refine Z.i_par ?_
  | with_reducible refine Z.i_par3 ?_
  | with_reducible refine Z.i_two ?_
  | with_reducible refine Z.i_three ?_
  | with_reducible refine Z.i_andV ?_
  | with_reducible refine Z.i_orV ?_
  | with_reducible refine Z.i_isR ?_
  | with_reducible refine Z.i_isN ?_
  | with_reducible refine Z.i_isI ?_
  | with_reducible refine Z.i_isnR ?_
  | with_reducible refine Z.i_isnN ?_
  | with_reducible refine Z.i_isnI ?_
  | with_reducible refine Z.i_dnew ?_
  | with_reducible refine Z.i_slK ?_
  | with_reducible refine Z.i_rng3 ?_
  | with_reducible refine Z.i_callS ?_
  | with_reducible refine Z.i_MSo ?_
  | with_reducible refine Z.i_VSo ?_
  | with_reducible refine Z.i_makeS ?_
  | with_reducible refine Z.i_tryAs ?_
  | with_reducible refine Z.i_raise0 ?_
  | with_reducible refine Z.i_raiseO ?_
  | with_reducible refine Z.i_ost ?_
  | with_reducible refine Z.i_xf ?_
  | with_reducible refine Z.i_retN ?_
  | with_reducible refine Z.i_break ?_
  | with_reducible refine Z.i_cont ?_
  | with_reducible refine Z.i_max2 ?_
  | with_reducible refine Z.i_min2 ?_
  | with_reducible refine Z.i_intI ?_
  | with_reducible refine Z.i_intB ?_
  | with_reducible refine Z.i_abs ?_
  | with_reducible refine Z.i_part ?_
  | with_reducible refine Z.i_dget ?_
  | with_reducible refine Z.i_din ?_
  | with_reducible refine Z.i_dnin ?_
  | with_reducible refine Z.i_pnil ?_
  | with_reducible refine Z.i_pcons ?_
  | with_reducible refine Z.i_items ?_
  | with_reducible refine Z.i_dc ?_
  | with_reducible refine Z.i_m1 ?_
  | with_reducible refine Z.i_m0 ?_
  | with_reducible refine Z.i_tx ?_
  | with_reducible refine Z.i_iStr ?_
  | with_reducible refine Z.i_itS ?_
  | with_reducible refine Z.i_inS ?_
  | with_reducible refine Z.i_ninS ?_
  | with_reducible refine Z.i_enumA ?_
  | with_reducible refine L2.iteT ?_
  | with_reducible refine L2.iteF ?_
  | k_call_by "zh" 0
  | k_call_by "zn" 0
  | ((with_reducible refine Z.i_isi0 ?_); k_call_by "isi" 0)
  | fail)
local macro_rules | `(tactic| k_call_by "isi" 0) => `(tactic| first
  | with_reducible refine Z.isi_I_int ?_
  | with_reducible refine Z.isi_B_int ?_
  | with_reducible refine Z.isi_S_int ?_
  | with_reducible refine Z.isi_N_int ?_
  | ((with_reducible refine Z.isi_L_int (xs := ?z_xs) ?z_h ?_); (case z_h => k_call_by "hf" 0))
  | ((with_reducible refine Z.isi_T_int (xs := ?z_xs) ?z_h ?_); (case z_h => k_call_by "hf" 0))
  | ((with_reducible refine Z.isi_D_int (xs := ?z_xs) ?z_h ?_); (case z_h => k_call_by "hf" 0))
  | with_reducible refine Z.isi_I_bool ?_
  | with_reducible refine Z.isi_B_bool ?_
  | with_reducible refine Z.isi_S_bool ?_
  | with_reducible refine Z.isi_N_bool ?_
  | ((with_reducible refine Z.isi_L_bool (xs := ?z_xs) ?z_h ?_); (case z_h => k_call_by "hf" 0))
  | ((with_reducible refine Z.isi_T_bool (xs := ?z_xs) ?z_h ?_); (case z_h => k_call_by "hf" 0))
  | ((with_reducible refine Z.isi_D_bool (xs := ?z_xs) ?z_h ?_); (case z_h => k_call_by "hf" 0))
  | with_reducible refine Z.isi_I_str ?_
  | with_reducible refine Z.isi_B_str ?_
  | with_reducible refine Z.isi_S_str ?_
  | with_reducible refine Z.isi_N_str ?_
  | ((with_reducible refine Z.isi_L_str (xs := ?z_xs) ?z_h ?_); (case z_h => k_call_by "hf" 0))
  | ((with_reducible refine Z.isi_T_str (xs := ?z_xs) ?z_h ?_); (case z_h => k_call_by "hf" 0))
  | ((with_reducible refine Z.isi_D_str (xs := ?z_xs) ?z_h ?_); (case z_h => k_call_by "hf" 0))
  | with_reducible refine Z.isi_I_list ?_
  | with_reducible refine Z.isi_B_list ?_
  | with_reducible refine Z.isi_S_list ?_
  | with_reducible refine Z.isi_N_list ?_
  | ((with_reducible refine Z.isi_L_list (xs := ?z_xs) ?z_h ?_); (case z_h => k_call_by "hf" 0))
  | ((with_reducible refine Z.isi_T_list (xs := ?z_xs) ?z_h ?_); (case z_h => k_call_by "hf" 0))
  | ((with_reducible refine Z.isi_D_list (xs := ?z_xs) ?z_h ?_); (case z_h => k_call_by "hf" 0))
  | with_reducible refine Z.isi_I_tuple ?_
  | with_reducible refine Z.isi_B_tuple ?_
  | with_reducible refine Z.isi_S_tuple ?_
  | with_reducible refine Z.isi_N_tuple ?_
  | ((with_reducible refine Z.isi_L_tuple (xs := ?z_xs) ?z_h ?_); (case z_h => k_call_by "hf" 0))
  | ((with_reducible refine Z.isi_T_tuple (xs := ?z_xs) ?z_h ?_); (case z_h => k_call_by "hf" 0))
  | ((with_reducible refine Z.isi_D_tuple (xs := ?z_xs) ?z_h ?_); (case z_h => k_call_by "hf" 0))
  | with_reducible refine Z.isi_I_dict ?_
  | with_reducible refine Z.isi_B_dict ?_
  | with_reducible refine Z.isi_S_dict ?_
  | with_reducible refine Z.isi_N_dict ?_
  | ((with_reducible refine Z.isi_L_dict (xs := ?z_xs) ?z_h ?_); (case z_h => k_call_by "hf" 0))
  | ((with_reducible refine Z.isi_T_dict (xs := ?z_xs) ?z_h ?_); (case z_h => k_call_by "hf" 0))
  | ((with_reducible refine Z.isi_D_dict (xs := ?z_xs) ?z_h ?_); (case z_h => k_call_by "hf" 0))
  | fail)
-- steps that ask the heap
local macro_rules | `(tactic| k_call_by "rf" 0) => `(tactic| exact rfl)
local macro_rules | `(tactic| k_call_by "zh" 0) => `(tactic| first
  | ((with_reducible refine Z.i_ixL (xs := ?z_xs) (v := ?z_v) ?z_h ?z_e ?_); (case z_h => k_call_by "hf" 0); (case z_e => exact rfl))
  | ((with_reducible refine Z.i_ixT (xs := ?z_xs) (v := ?z_v) ?z_h ?z_e ?_); (case z_h => k_call_by "hf" 0); (case z_e => exact rfl))
  | ((with_reducible refine Z.i_lenLI (ns := ?z_ns) ?z_h ?_); (case z_h => k_call_by "hf" 0))
  | ((with_reducible refine Z.i_lenL (xs := ?z_xs) ?z_h ?_); (case z_h => k_call_by "hf" 0))
  | ((with_reducible refine Z.i_lenTI (ns := ?z_ns) ?z_h ?_); (case z_h => k_call_by "hf" 0))
  | ((with_reducible refine Z.i_lenT (xs := ?z_xs) ?z_h ?_); (case z_h => k_call_by "hf" 0))
  | ((with_reducible refine Z.i_lenQI (ns := ?z_ns) ?z_h ?_); (case z_h => k_call_by "hq" 0))
  | ((with_reducible refine Z.i_lenQ (xs := ?z_xs) ?z_h ?_); (case z_h => k_call_by "hq" 0))
  | ((with_reducible refine Z.i_slL (xs := ?z_xs) ?z_h ?_); (case z_h => k_call_by "hf" 0))
  | ((with_reducible refine Z.i_tyL (xs := ?z_xs) ?z_h ?_); (case z_h => k_call_by "hf" 0))
  | ((with_reducible refine Z.i_append (xs := ?z_xs) ?z_h ?z_z ?_); (case z_h => k_call_by "hf" 0); (case z_z => k_call_by "sz" 0))
  | ((with_reducible refine Z.i_reverse (xs := ?z_xs) ?z_h ?_); (case z_h => k_call_by "hf" 0))
  | ((with_reducible refine Z.i_clear (xs := ?z_xs) ?z_h ?_); (case z_h => k_call_by "hf" 0))
  | ((with_reducible refine Z.i_tupT (vs := ?z_vs) ?z_h ?z_hn ?_); (case z_h => k_call_by "hf" 0); (case z_hn => exact rfl))
  | ((with_reducible refine Z.i_setL (xs := ?z_xs) (j := ?z_j) ?z_h ?z_e ?_); (case z_h => k_call_by "hf" 0); (case z_e => exact rfl))
  | ((with_reducible refine Z.i_ixQ (xs := ?z_xs) (v := ?z_v) ?z_h ?z_e ?_); (case z_h => k_call_by "hq" 0); (case z_e => exact rfl))
  | ((with_reducible refine Z.i_enumL (xs := ?z_xs) ?z_h ?_); (case z_h => k_call_by "hq" 0))
  | ((with_reducible refine Z.i_itL (xs := ?z_xs) ?z_h ?_); (case z_h => k_call_by "hf" 0))
  | ((with_reducible refine Z.i_itT (xs := ?z_xs) ?z_h ?_); (case z_h => k_call_by "hf" 0))
  | ((with_reducible refine Z.i_itQ (xs := ?z_xs) ?z_h ?_); (case z_h => k_call_by "hq" 0))
  | ((with_reducible refine Z.i_zipL (xs := ?z_xs) (ys := ?z_ys) ?z_h ?z_h2 ?_); (case z_h => k_call_by "hq" 0); (case z_h2 => k_call_by "hq" 0))
  | ((with_reducible refine Z.i_addLI (ns := ?z_ns) (ms := ?z_ms) ?z_h1 ?z_h2 ?z_z ?_); (case z_h1 => k_call_by "hf" 0); (case z_h2 => k_call_by "hf" 0); (case z_z => k_call_by "sz" 0))
  | ((with_reducible refine Z.i_addL1 (ns := ?z_ns) (a := ?z_a) ?z_h1 ?z_h2 ?z_z ?_); (case z_h1 => k_call_by "hf" 0); (case z_h2 => k_call_by "hf" 0); (case z_z => k_call_by "sz" 0))
  | ((with_reducible refine Z.i_mulLI (a := ?z_a) ?z_h1 ?z_z ?_); (case z_h1 => k_call_by "hf" 0); (case z_z => k_call_by "zb" 0))
  | ((with_reducible refine Z.i_sum (ns := ?z_ns) ?z_h ?_); (case z_h => k_call_by "hf" 0))
  | ((with_reducible refine Z.i_all (bs := ?z_bs) ?z_h ?_); (case z_h => k_call_by "hf" 0))
  | ((with_reducible refine Z.i_any (bs := ?z_bs) ?z_h ?_); (case z_h => k_call_by "hf" 0))
  | ((with_reducible refine Z.i_listL (xs := ?z_xs) ?z_h ?_); (case z_h => k_call_by "hf" 0))
  | ((with_reducible refine Z.i_listT (xs := ?z_xs) ?z_h ?_); (case z_h => k_call_by "hf" 0))
  | ((with_reducible refine Z.i_tupleL (xs := ?z_xs) ?z_h ?_); (case z_h => k_call_by "hf" 0))
  | ((with_reducible refine Z.i_rng1N ?z_h ?_); (case z_h => omega))
  | ((with_reducible refine Z.i_sL (xs := ?z_xs) ?z_h ?_); (case z_h => k_call_by "hf" 0))
  | ((with_reducible refine Z.i_sT (xs := ?z_xs) ?z_h ?_); (case z_h => k_call_by "hf" 0))
  | ((with_reducible refine Z.i_sQ (xs := ?z_xs) ?z_h ?_); (case z_h => k_call_by "hq" 0))
  | ((with_reducible refine Z.i_zipAL (xs := ?z_xs) (ys := ?z_ys) ?z_h ?z_h2 ?_); (case z_h => k_call_by "hq" 0); (case z_h2 => k_call_by "hq" 0))
  | ((with_reducible refine Z.i_zipAT (xs := ?z_xs) (ys := ?z_ys) ?z_h ?z_h2 ?_); (case z_h => k_call_by "hf" 0); (case z_h2 => k_call_by "hf" 0))
  | ((with_reducible refine Z.i_fld1 (C := ?z_C) (dx := ?z_dx) (fs := ?z_fs) (v := ?z_v) ?z_h ?z_c ?z_n ?z_l ?_); (case z_h => k_call_by "hf" 0); (case z_c => with_reducible assumption); (case z_n => with_reducible assumption); (case z_l => exact rfl))
  | ((with_reducible refine Z.i_fldS1 (C := ?z_C) (dx := ?z_dx) (fs := ?z_fs) ?z_h ?z_c ?z_n ?z_l ?_); (case z_h => k_call_by "hf" 0); (case z_c => with_reducible assumption); (case z_n => with_reducible assumption); (case z_l => exact rfl))
  | ((with_reducible refine Z.i_enumAL (xs := ?z_xs) ?z_h ?_); (case z_h => k_call_by "hf" 0))
  | ((with_reducible refine Z.i_enumAT (xs := ?z_xs) ?z_h ?_); (case z_h => k_call_by "hf" 0))
  | ((with_reducible refine Z.i_dgK (kvs := ?z_kvs) (v := ?z_v) ?z_h ?z_e ?_); (case z_h => k_call_by "hf" 0); (case z_e => first | exact rfl | assumption))
  | ((with_reducible refine Z.i_diK (kvs := ?z_kvs) ?z_h ?_); (case z_h => k_call_by "hf" 0))
  | ((with_reducible refine Z.i_dnK (kvs := ?z_kvs) ?z_h ?_); (case z_h => k_call_by "hf" 0))
  | ((with_reducible refine Z.i_setD (kvs := ?z_kvs) ?z_h ?z_z ?_); (case z_h => k_call_by "hf" 0); (case z_z => k_call_by "sz" 0))
  | ((with_reducible refine Z.i_ne0 (xs := ?z_xs) ?z_h ?z_h2 ?_); (case z_h => k_call_by "hf" 0); (case z_h2 => k_call_by "hf" 0))
  | ((with_reducible refine Z.i_eq0 (xs := ?z_xs) ?z_h ?z_h2 ?_); (case z_h => k_call_by "hf" 0); (case z_h2 => k_call_by "hf" 0))
  | ((with_reducible refine Z.i_inL (ys := ?z_ys) ?z_h ?_); (case z_h => k_call_by "hf" 0))
  | ((with_reducible refine Z.i_ninL (ys := ?z_ys) ?z_h ?_); (case z_h => k_call_by "hf" 0))
  | ((with_reducible refine Z.i_itemsK (kvs := ?z_kvs) (od := ?z_od) ?z_h ?_); (case z_h => k_call_by "hf" 0))
  | fail)
-- operations whose numbers are written
local macro_rules | `(tactic| k_call_by "zc" 0) => `(tactic| first
  | (show (0 : Int) < _; omega)
  | assumption
  | (refine ⟨?_, ?_, ?_⟩ <;> decide)
  | (refine ⟨?_, ?_⟩ <;> first | decide | omega)
  | fail)
local macro_rules | `(tactic| k_call_by "zn" 0) => `(tactic| first
  | ((with_reducible refine Z.i_I ?z_c ?_); (case z_c => k_call_by "zc" 0))
  | ((with_reducible refine Z.i_mulR ?z_c ?_); (case z_c => k_call_by "zc" 0))
  | ((with_reducible refine Z.i_mulJ ?z_c ?_); (case z_c => k_call_by "zc" 0))
  | fail)
local macro_rules | `(tactic| k_call_by "zz" 0) => `(tactic| repeat k_call_by "z" 0)
local macro_rules | `(tactic| k_call_by "zi" 0) => `(tactic| first
  | k_call_by "z" 0
  | with_reducible refine fun (_ : PySem.Addr) (_ : L2.Hp) (_ : Z.New _ _ _ _) => ?_
  | with_reducible refine fun (_ : L2.Hp) (_ : Z.Up _ _ _ _) => ?_
  | with_reducible refine fun (_ : PySem.Addr) (_ : PySem.Addr) (_ : L2.Hp) (_ : Z.Made _ _ _ _ _) => ?_
  | fail)
local macro_rules | `(tactic| k_call_by "za" 0) => `(tactic| repeat k_call_by "zi" 0)
local macro_rules | `(tactic| k_call_by "yi" 0) => `(tactic| first
  | k_call_by "y" 0
  | with_reducible refine fun (_ : PySem.Addr) (_ : L2.Hp) (_ : Z.New _ _ _ _) => ?_
  | with_reducible refine fun (_ : L2.Hp) (_ : Z.Up _ _ _ _) => ?_
  | with_reducible refine fun (_ : PySem.Addr) (_ : PySem.Addr) (_ : L2.Hp) (_ : Z.Made _ _ _ _ _) => ?_
  | fail)
local macro_rules | `(tactic| k_call_by "ya" 0) => `(tactic| repeat k_call_by "yi" 0)

namespace L
open PySem PySem.Spec PyProof.Rows L2
def top (i : Nat) : Stmt := PySem.Challenge.pw_sampleweave_k28_equal_and_long.main.body.getD i (.Pass ⟨0, 0, 0, 0⟩)
abbrev s_l_pot : Stmt := top 59
abbrev n_l_pot : List Str := ["_law_script", "_law_k", "_law_cell"]
abbrev p_l_pot : List Str := ["_law_script", "_law_k"]
theorem sc_l_pot : FnScope n_l_pot p_l_pot (defScope s_l_pot) := ⟨rfl, rfl, rfl, by decide +kernel, rfl, by decide +kernel, by decide +kernel⟩
def d_l_pot : He.DefD := ⟨("_law_pot", none), "_law_pot", "_law_pot", defArgs s_l_pot, defBody s_l_pot, defScope s_l_pot, [], []⟩
theorem bd_l_pot : Z.Bd d_l_pot p_l_pot 2 [] (fun _ vs _ => vs) := Z.Bd.plain rfl rfl rfl (fun _ _ _ _ _ _ us hl => match us, hl with | [_, _], _ => rfl)
abbrev s_l_take : Stmt := top 60
abbrev n_l_take : List Str := ["_law_pot_here", "_law_many", "_law_digit"]
abbrev p_l_take : List Str := ["_law_pot_here", "_law_many"]
theorem sc_l_take : FnScope n_l_take p_l_take (defScope s_l_take) := ⟨rfl, rfl, rfl, by decide +kernel, rfl, by decide +kernel, by decide +kernel⟩
def d_l_take : He.DefD := ⟨("_law_take", none), "_law_take", "_law_take", defArgs s_l_take, defBody s_l_take, defScope s_l_take, [], []⟩
theorem bd_l_take : Z.Bd d_l_take p_l_take 2 [] (fun _ vs _ => vs) := Z.Bd.plain rfl rfl rfl (fun _ _ _ _ _ _ us hl => match us, hl with | [_, _], _ => rfl)
abbrev s_l_pick : Stmt := top 68
abbrev n_l_pick : List Str := ["_law_pot_here", "_law_some"]
abbrev p_l_pick : List Str := ["_law_pot_here", "_law_some"]
theorem sc_l_pick : FnScope n_l_pick p_l_pick (defScope s_l_pick) := ⟨rfl, rfl, rfl, by decide +kernel, rfl, by decide +kernel, by decide +kernel⟩
def d_l_pick : He.DefD := ⟨("_law_pick", none), "_law_pick", "_law_pick", defArgs s_l_pick, defBody s_l_pick, defScope s_l_pick, [], []⟩
theorem bd_l_pick : Z.Bd d_l_pick p_l_pick 2 [] (fun _ vs _ => vs) := Z.Bd.plain rfl rfl rfl (fun _ _ _ _ _ _ us hl => match us, hl with | [_, _], _ => rfl)
abbrev s_l_turned : Stmt := top 66
abbrev n_l_turned : List Str := ["_law_pot_here", "_law_row", "_law_left", "_law_found"]
abbrev p_l_turned : List Str := ["_law_pot_here", "_law_row"]
theorem sc_l_turned : FnScope n_l_turned p_l_turned (defScope s_l_turned) := ⟨rfl, rfl, rfl, by decide +kernel, rfl, by decide +kernel, by decide +kernel⟩
def d_l_turned : He.DefD := ⟨("_law_turned", none), "_law_turned", "_law_turned", defArgs s_l_turned, defBody s_l_turned, defScope s_l_turned, [], []⟩
theorem bd_l_turned : Z.Bd d_l_turned p_l_turned 2 [] (fun _ vs _ => vs) := Z.Bd.plain rfl rfl rfl (fun _ _ _ _ _ _ us hl => match us, hl with | [_, _], _ => rfl)
abbrev s_is_name : Stmt := top 41
abbrev n_is_name : List Str := ["thing", "sign"]
abbrev p_is_name : List Str := ["thing"]
theorem sc_is_name : FnScope n_is_name p_is_name (defScope s_is_name) := ⟨rfl, rfl, rfl, by decide +kernel, rfl, by decide +kernel, by decide +kernel⟩
def d_is_name : He.DefD := ⟨("is_name", none), "is_name", "is_name", defArgs s_is_name, defBody s_is_name, defScope s_is_name, [], []⟩
theorem bd_is_name : Z.Bd d_is_name p_is_name 1 [] (fun _ vs _ => vs) := Z.Bd.plain rfl rfl rfl (fun _ _ _ _ _ _ us hl => match us, hl with | [_], _ => rfl)
abbrev s_l_name : Stmt := top 61
abbrev n_l_name : List Str := ["_law_pot_here", "_law_taken", "_law_letters", "_law_many", "_law_tag", "_law_k", "_law_letter"]
abbrev p_l_name : List Str := ["_law_pot_here", "_law_taken"]
theorem sc_l_name : FnScope n_l_name p_l_name (defScope s_l_name) := ⟨rfl, rfl, rfl, by decide +kernel, rfl, by decide +kernel, by decide +kernel⟩
def d_l_name : He.DefD := ⟨("_law_name", none), "_law_name", "_law_name", defArgs s_l_name, defBody s_l_name, defScope s_l_name, [], []⟩
theorem bd_l_name : Z.Bd d_l_name p_l_name 2 [] (fun _ vs _ => vs) := Z.Bd.plain rfl rfl rfl (fun _ _ _ _ _ _ us hl => match us, hl with | [_, _], _ => rfl)
abbrev s_is_whole_ramps : Stmt := top 15
abbrev n_is_whole_ramps : List Str := ["thing"]
abbrev p_is_whole_ramps : List Str := ["thing"]
theorem sc_is_whole_ramps : FnScope n_is_whole_ramps p_is_whole_ramps (defScope s_is_whole_ramps) := ⟨rfl, rfl, rfl, by decide +kernel, rfl, by decide +kernel, by decide +kernel⟩
def d_is_whole_ramps : He.DefD := ⟨("is_whole_ramps", none), "is_whole", "is_whole", defArgs s_is_whole_ramps, defBody s_is_whole_ramps, defScope s_is_whole_ramps, [], []⟩
theorem bd_is_whole_ramps : Z.Bd d_is_whole_ramps p_is_whole_ramps 1 [] (fun _ vs _ => vs) := Z.Bd.plain rfl rfl rfl (fun _ _ _ _ _ _ us hl => match us, hl with | [_], _ => rfl)
abbrev s_is_whole_from : Stmt := top 17
abbrev n_is_whole_from : List Str := ["thing", "least", "most"]
abbrev p_is_whole_from : List Str := ["thing", "least", "most"]
theorem sc_is_whole_from : FnScope n_is_whole_from p_is_whole_from (defScope s_is_whole_from) := ⟨rfl, rfl, rfl, by decide +kernel, rfl, by decide +kernel, by decide +kernel⟩
def d_is_whole_from : He.DefD := ⟨("is_whole_from", none), "is_whole_from", "is_whole_from", defArgs s_is_whole_from, defBody s_is_whole_from, defScope s_is_whole_from, [], []⟩
theorem bd_is_whole_from : Z.Bd d_is_whole_from p_is_whole_from 3 [] (fun _ vs _ => vs) := Z.Bd.plain rfl rfl rfl (fun _ _ _ _ _ _ us hl => match us, hl with | [_, _, _], _ => rfl)
abbrev s_want : Stmt := top 24
abbrev n_want : List Str := ["truth", "field"]
abbrev p_want : List Str := ["truth", "field"]
theorem sc_want : FnScope n_want p_want (defScope s_want) := ⟨rfl, rfl, rfl, by decide +kernel, rfl, by decide +kernel, by decide +kernel⟩
def d_want : He.DefD := ⟨("want", none), "want", "want", defArgs s_want, defBody s_want, defScope s_want, [], []⟩
theorem bd_want : Z.Bd d_want p_want 2 [] (fun _ vs _ => vs) := Z.Bd.plain rfl rfl rfl (fun _ _ _ _ _ _ us hl => match us, hl with | [_, _], _ => rfl)
abbrev s_Node_u__init : Stmt := inClass (top 25) 0
abbrev n_Node_u__init : List Str := ["self", "late", "begin"]
abbrev p_Node_u__init : List Str := ["self", "late", "begin"]
theorem sc_Node_u__init : FnScope n_Node_u__init p_Node_u__init (defScope s_Node_u__init) := ⟨rfl, rfl, rfl, by decide +kernel, rfl, by decide +kernel, by decide +kernel⟩
def d_Node_u__init : He.DefD := ⟨("Node", some "__init__"), "__init__", "Node.__init__", defArgs s_Node_u__init, defBody s_Node_u__init, defScope s_Node_u__init, [], []⟩
theorem bd_Node_u__init : Z.Bd d_Node_u__init p_Node_u__init 3 [] (fun _ vs _ => vs) := Z.Bd.plain rfl rfl rfl (fun _ _ _ _ _ _ us hl => match us, hl with | [_, _, _], _ => rfl)
abbrev s_are_takes : Stmt := top 32
abbrev n_are_takes : List Str := ["thing", "many"]
abbrev p_are_takes : List Str := ["thing"]
theorem sc_are_takes : FnScope n_are_takes p_are_takes (defScope s_are_takes) := ⟨rfl, rfl, rfl, by decide +kernel, rfl, by decide +kernel, by decide +kernel⟩
def d_are_takes : He.DefD := ⟨("are_takes", none), "are_takes", "are_takes", defArgs s_are_takes, defBody s_are_takes, defScope s_are_takes, [], []⟩
theorem bd_are_takes : Z.Bd d_are_takes p_are_takes 1 [] (fun _ vs _ => vs) := Z.Bd.plain rfl rfl rfl (fun _ _ _ _ _ _ us hl => match us, hl with | [_], _ => rfl)
abbrev s_is_memory : Stmt := top 33
abbrev n_is_memory : List Str := ["thing", "part"]
abbrev p_is_memory : List Str := ["thing"]
theorem sc_is_memory : FnScope n_is_memory p_is_memory (defScope s_is_memory) := ⟨rfl, rfl, rfl, by decide +kernel, rfl, by decide +kernel, by decide +kernel⟩
def d_is_memory : He.DefD := ⟨("is_memory", none), "is_memory", "is_memory", defArgs s_is_memory, defBody s_is_memory, defScope s_is_memory, [], []⟩
theorem bd_is_memory : Z.Bd d_is_memory p_is_memory 1 [] (fun _ vs _ => vs) := Z.Bd.plain rfl rfl rfl (fun _ _ _ _ _ _ us hl => match us, hl with | [_], _ => rfl)
abbrev s_are_wholes : Stmt := top 53
abbrev n_are_wholes : List Str := ["thing", "most", "number"]
abbrev p_are_wholes : List Str := ["thing", "most"]
theorem sc_are_wholes : FnScope n_are_wholes p_are_wholes (defScope s_are_wholes) := ⟨rfl, rfl, rfl, by decide +kernel, rfl, by decide +kernel, by decide +kernel⟩
def d_are_wholes : He.DefD := ⟨("are_wholes", none), "are_wholes", "are_wholes", defArgs s_are_wholes, defBody s_are_wholes, defScope s_are_wholes, [], []⟩
theorem bd_are_wholes : Z.Bd d_are_wholes p_are_wholes 2 [] (fun _ vs _ => vs) := Z.Bd.plain rfl rfl rfl (fun _ _ _ _ _ _ us hl => match us, hl with | [_, _], _ => rfl)
abbrev s_Inlet_u__init : Stmt := inClass (top 26) 0
abbrev n_Inlet_u__init : List Str := ["self"]
abbrev p_Inlet_u__init : List Str := ["self"]
theorem sc_Inlet_u__init : FnScope n_Inlet_u__init p_Inlet_u__init (defScope s_Inlet_u__init) := ⟨rfl, rfl, rfl, by decide +kernel, rfl, by decide +kernel, by decide +kernel⟩
def d_Inlet_u__init : He.DefD := ⟨("Inlet", some "__init__"), "__init__", "Inlet.__init__", defArgs s_Inlet_u__init, defBody s_Inlet_u__init, defScope s_Inlet_u__init, [], []⟩
theorem bd_Inlet_u__init : Z.Bd d_Inlet_u__init p_Inlet_u__init 1 [] (fun _ vs _ => vs) := Z.Bd.plain rfl rfl rfl (fun _ _ _ _ _ _ us hl => match us, hl with | [_], _ => rfl)
abbrev s_Outlet_u__init : Stmt := inClass (top 27) 0
abbrev n_Outlet_u__init : List Str := ["self"]
abbrev p_Outlet_u__init : List Str := ["self"]
theorem sc_Outlet_u__init : FnScope n_Outlet_u__init p_Outlet_u__init (defScope s_Outlet_u__init) := ⟨rfl, rfl, rfl, by decide +kernel, rfl, by decide +kernel, by decide +kernel⟩
def d_Outlet_u__init : He.DefD := ⟨("Outlet", some "__init__"), "__init__", "Outlet.__init__", defArgs s_Outlet_u__init, defBody s_Outlet_u__init, defScope s_Outlet_u__init, [], []⟩
theorem bd_Outlet_u__init : Z.Bd d_Outlet_u__init p_Outlet_u__init 1 [] (fun _ vs _ => vs) := Z.Bd.plain rfl rfl rfl (fun _ _ _ _ _ _ us hl => match us, hl with | [_], _ => rfl)
abbrev s_Gain_u__init : Stmt := inClass (top 28) 0
abbrev n_Gain_u__init : List Str := ["self", "by", "late", "begin"]
abbrev p_Gain_u__init : List Str := ["self", "by", "late", "begin"]
theorem sc_Gain_u__init : FnScope n_Gain_u__init p_Gain_u__init (defScope s_Gain_u__init) := ⟨rfl, rfl, rfl, by decide +kernel, rfl, by decide +kernel, by decide +kernel⟩
def d_Gain_u__init : He.DefD := ⟨("Gain", some "__init__"), "__init__", "Gain.__init__", defArgs s_Gain_u__init, defBody s_Gain_u__init, defScope s_Gain_u__init, [], [("late", .int 0), ("begin", .int 0)]⟩
abbrev s_Mix_u__init : Stmt := inClass (top 29) 0
abbrev n_Mix_u__init : List Str := ["self", "many", "late", "begin"]
abbrev p_Mix_u__init : List Str := ["self", "many", "late", "begin"]
theorem sc_Mix_u__init : FnScope n_Mix_u__init p_Mix_u__init (defScope s_Mix_u__init) := ⟨rfl, rfl, rfl, by decide +kernel, rfl, by decide +kernel, by decide +kernel⟩
def d_Mix_u__init : He.DefD := ⟨("Mix", some "__init__"), "__init__", "Mix.__init__", defArgs s_Mix_u__init, defBody s_Mix_u__init, defScope s_Mix_u__init, [], [("late", .int 0), ("begin", .int 0)]⟩
abbrev s_Times_u__init : Stmt := inClass (top 30) 0
abbrev n_Times_u__init : List Str := ["self", "late", "begin"]
abbrev p_Times_u__init : List Str := ["self", "late", "begin"]
theorem sc_Times_u__init : FnScope n_Times_u__init p_Times_u__init (defScope s_Times_u__init) := ⟨rfl, rfl, rfl, by decide +kernel, rfl, by decide +kernel, by decide +kernel⟩
def d_Times_u__init : He.DefD := ⟨("Times", some "__init__"), "__init__", "Times.__init__", defArgs s_Times_u__init, defBody s_Times_u__init, defScope s_Times_u__init, [], [("late", .int 0), ("begin", .int 0)]⟩
abbrev s_Choose_u__init : Stmt := inClass (top 31) 0
abbrev n_Choose_u__init : List Str := ["self", "late", "begin"]
abbrev p_Choose_u__init : List Str := ["self", "late", "begin"]
theorem sc_Choose_u__init : FnScope n_Choose_u__init p_Choose_u__init (defScope s_Choose_u__init) := ⟨rfl, rfl, rfl, by decide +kernel, rfl, by decide +kernel, by decide +kernel⟩
def d_Choose_u__init : He.DefD := ⟨("Choose", some "__init__"), "__init__", "Choose.__init__", defArgs s_Choose_u__init, defBody s_Choose_u__init, defScope s_Choose_u__init, [], [("late", .int 0), ("begin", .int 0)]⟩
abbrev s_Own_u__init : Stmt := inClass (top 34) 0
abbrev n_Own_u__init : List Str := ["self", "deed", "takes", "gives", "first", "late", "begin"]
abbrev p_Own_u__init : List Str := ["self", "deed", "takes", "gives", "first", "late", "begin"]
theorem sc_Own_u__init : FnScope n_Own_u__init p_Own_u__init (defScope s_Own_u__init) := ⟨rfl, rfl, rfl, by decide +kernel, rfl, by decide +kernel, by decide +kernel⟩
def d_Own_u__init : He.DefD := ⟨("Own", some "__init__"), "__init__", "Own.__init__", defArgs s_Own_u__init, defBody s_Own_u__init, defScope s_Own_u__init, [.adr (He.dflAt ("Own", some "__init__") 0), .int 1, .int 0], [("late", .int 0), ("begin", .int 0)]⟩
abbrev s_Up_u__init : Stmt := inClass (top 55) 0
abbrev n_Up_u__init : List Str := ["self", "many", "hold", "late", "begin"]
abbrev p_Up_u__init : List Str := ["self", "many", "hold", "late", "begin"]
theorem sc_Up_u__init : FnScope n_Up_u__init p_Up_u__init (defScope s_Up_u__init) := ⟨rfl, rfl, rfl, by decide +kernel, rfl, by decide +kernel, by decide +kernel⟩
def d_Up_u__init : He.DefD := ⟨("Up", some "__init__"), "__init__", "Up.__init__", defArgs s_Up_u__init, defBody s_Up_u__init, defScope s_Up_u__init, [.bl false], [("late", .int 0), ("begin", .int 0)]⟩
abbrev s_Down_u__init : Stmt := inClass (top 56) 0
abbrev n_Down_u__init : List Str := ["self", "many", "late", "begin"]
abbrev p_Down_u__init : List Str := ["self", "many", "late", "begin"]
theorem sc_Down_u__init : FnScope n_Down_u__init p_Down_u__init (defScope s_Down_u__init) := ⟨rfl, rfl, rfl, by decide +kernel, rfl, by decide +kernel, by decide +kernel⟩
def d_Down_u__init : He.DefD := ⟨("Down", some "__init__"), "__init__", "Down.__init__", defArgs s_Down_u__init, defBody s_Down_u__init, defScope s_Down_u__init, [], [("late", .int 0), ("begin", .int 0)]⟩
abbrev s_Resample_u__init : Stmt := inClass (top 57) 0
abbrev n_Resample_u__init : List Str := ["self", "up", "down", "numbers", "late", "begin"]
abbrev p_Resample_u__init : List Str := ["self", "up", "down", "numbers", "late", "begin"]
theorem sc_Resample_u__init : FnScope n_Resample_u__init p_Resample_u__init (defScope s_Resample_u__init) := ⟨rfl, rfl, rfl, by decide +kernel, rfl, by decide +kernel, by decide +kernel⟩
def d_Resample_u__init : He.DefD := ⟨("Resample", some "__init__"), "__init__", "Resample.__init__", defArgs s_Resample_u__init, defBody s_Resample_u__init, defScope s_Resample_u__init, [], [("late", .int 0), ("begin", .int 0)]⟩
abbrev s_Node_takes : Stmt := inClass (top 25) 3
abbrev n_Node_takes : List Str := ["self"]
abbrev p_Node_takes : List Str := ["self"]
theorem sc_Node_takes : FnScope n_Node_takes p_Node_takes (defScope s_Node_takes) := ⟨rfl, rfl, rfl, by decide +kernel, rfl, by decide +kernel, by decide +kernel⟩
def d_Node_takes : He.DefD := ⟨("Node", some "takes"), "takes", "Node.takes", defArgs s_Node_takes, defBody s_Node_takes, defScope s_Node_takes, [], []⟩
theorem bd_Node_takes : Z.Bd d_Node_takes p_Node_takes 1 [] (fun _ vs _ => vs) := Z.Bd.plain rfl rfl rfl (fun _ _ _ _ _ _ us hl => match us, hl with | [_], _ => rfl)
abbrev s_Inlet_takes : Stmt := inClass (top 26) 2
abbrev n_Inlet_takes : List Str := ["self"]
abbrev p_Inlet_takes : List Str := ["self"]
theorem sc_Inlet_takes : FnScope n_Inlet_takes p_Inlet_takes (defScope s_Inlet_takes) := ⟨rfl, rfl, rfl, by decide +kernel, rfl, by decide +kernel, by decide +kernel⟩
def d_Inlet_takes : He.DefD := ⟨("Inlet", some "takes"), "takes", "Inlet.takes", defArgs s_Inlet_takes, defBody s_Inlet_takes, defScope s_Inlet_takes, [], []⟩
theorem bd_Inlet_takes : Z.Bd d_Inlet_takes p_Inlet_takes 1 [] (fun _ vs _ => vs) := Z.Bd.plain rfl rfl rfl (fun _ _ _ _ _ _ us hl => match us, hl with | [_], _ => rfl)
abbrev s_Mix_takes : Stmt := inClass (top 29) 3
abbrev n_Mix_takes : List Str := ["self"]
abbrev p_Mix_takes : List Str := ["self"]
theorem sc_Mix_takes : FnScope n_Mix_takes p_Mix_takes (defScope s_Mix_takes) := ⟨rfl, rfl, rfl, by decide +kernel, rfl, by decide +kernel, by decide +kernel⟩
def d_Mix_takes : He.DefD := ⟨("Mix", some "takes"), "takes", "Mix.takes", defArgs s_Mix_takes, defBody s_Mix_takes, defScope s_Mix_takes, [], []⟩
theorem bd_Mix_takes : Z.Bd d_Mix_takes p_Mix_takes 1 [] (fun _ vs _ => vs) := Z.Bd.plain rfl rfl rfl (fun _ _ _ _ _ _ us hl => match us, hl with | [_], _ => rfl)
abbrev s_Times_takes : Stmt := inClass (top 30) 2
abbrev n_Times_takes : List Str := ["self"]
abbrev p_Times_takes : List Str := ["self"]
theorem sc_Times_takes : FnScope n_Times_takes p_Times_takes (defScope s_Times_takes) := ⟨rfl, rfl, rfl, by decide +kernel, rfl, by decide +kernel, by decide +kernel⟩
def d_Times_takes : He.DefD := ⟨("Times", some "takes"), "takes", "Times.takes", defArgs s_Times_takes, defBody s_Times_takes, defScope s_Times_takes, [], []⟩
theorem bd_Times_takes : Z.Bd d_Times_takes p_Times_takes 1 [] (fun _ vs _ => vs) := Z.Bd.plain rfl rfl rfl (fun _ _ _ _ _ _ us hl => match us, hl with | [_], _ => rfl)
abbrev s_Choose_takes : Stmt := inClass (top 31) 2
abbrev n_Choose_takes : List Str := ["self"]
abbrev p_Choose_takes : List Str := ["self"]
theorem sc_Choose_takes : FnScope n_Choose_takes p_Choose_takes (defScope s_Choose_takes) := ⟨rfl, rfl, rfl, by decide +kernel, rfl, by decide +kernel, by decide +kernel⟩
def d_Choose_takes : He.DefD := ⟨("Choose", some "takes"), "takes", "Choose.takes", defArgs s_Choose_takes, defBody s_Choose_takes, defScope s_Choose_takes, [], []⟩
theorem bd_Choose_takes : Z.Bd d_Choose_takes p_Choose_takes 1 [] (fun _ vs _ => vs) := Z.Bd.plain rfl rfl rfl (fun _ _ _ _ _ _ us hl => match us, hl with | [_], _ => rfl)
abbrev s_Own_takes : Stmt := inClass (top 34) 3
abbrev n_Own_takes : List Str := ["self"]
abbrev p_Own_takes : List Str := ["self"]
theorem sc_Own_takes : FnScope n_Own_takes p_Own_takes (defScope s_Own_takes) := ⟨rfl, rfl, rfl, by decide +kernel, rfl, by decide +kernel, by decide +kernel⟩
def d_Own_takes : He.DefD := ⟨("Own", some "takes"), "takes", "Own.takes", defArgs s_Own_takes, defBody s_Own_takes, defScope s_Own_takes, [], []⟩
theorem bd_Own_takes : Z.Bd d_Own_takes p_Own_takes 1 [] (fun _ vs _ => vs) := Z.Bd.plain rfl rfl rfl (fun _ _ _ _ _ _ us hl => match us, hl with | [_], _ => rfl)
abbrev s_Down_takes : Stmt := inClass (top 56) 3
abbrev n_Down_takes : List Str := ["self"]
abbrev p_Down_takes : List Str := ["self"]
theorem sc_Down_takes : FnScope n_Down_takes p_Down_takes (defScope s_Down_takes) := ⟨rfl, rfl, rfl, by decide +kernel, rfl, by decide +kernel, by decide +kernel⟩
def d_Down_takes : He.DefD := ⟨("Down", some "takes"), "takes", "Down.takes", defArgs s_Down_takes, defBody s_Down_takes, defScope s_Down_takes, [], []⟩
theorem bd_Down_takes : Z.Bd d_Down_takes p_Down_takes 1 [] (fun _ vs _ => vs) := Z.Bd.plain rfl rfl rfl (fun _ _ _ _ _ _ us hl => match us, hl with | [_], _ => rfl)
abbrev s_Resample_takes : Stmt := inClass (top 57) 3
abbrev n_Resample_takes : List Str := ["self"]
abbrev p_Resample_takes : List Str := ["self"]
theorem sc_Resample_takes : FnScope n_Resample_takes p_Resample_takes (defScope s_Resample_takes) := ⟨rfl, rfl, rfl, by decide +kernel, rfl, by decide +kernel, by decide +kernel⟩
def d_Resample_takes : He.DefD := ⟨("Resample", some "takes"), "takes", "Resample.takes", defArgs s_Resample_takes, defBody s_Resample_takes, defScope s_Resample_takes, [], []⟩
theorem bd_Resample_takes : Z.Bd d_Resample_takes p_Resample_takes 1 [] (fun _ vs _ => vs) := Z.Bd.plain rfl rfl rfl (fun _ _ _ _ _ _ us hl => match us, hl with | [_], _ => rfl)
abbrev s_Node_gives : Stmt := inClass (top 25) 4
abbrev n_Node_gives : List Str := ["self"]
abbrev p_Node_gives : List Str := ["self"]
theorem sc_Node_gives : FnScope n_Node_gives p_Node_gives (defScope s_Node_gives) := ⟨rfl, rfl, rfl, by decide +kernel, rfl, by decide +kernel, by decide +kernel⟩
def d_Node_gives : He.DefD := ⟨("Node", some "gives"), "gives", "Node.gives", defArgs s_Node_gives, defBody s_Node_gives, defScope s_Node_gives, [], []⟩
theorem bd_Node_gives : Z.Bd d_Node_gives p_Node_gives 1 [] (fun _ vs _ => vs) := Z.Bd.plain rfl rfl rfl (fun _ _ _ _ _ _ us hl => match us, hl with | [_], _ => rfl)
abbrev s_Outlet_gives : Stmt := inClass (top 27) 2
abbrev n_Outlet_gives : List Str := ["self"]
abbrev p_Outlet_gives : List Str := ["self"]
theorem sc_Outlet_gives : FnScope n_Outlet_gives p_Outlet_gives (defScope s_Outlet_gives) := ⟨rfl, rfl, rfl, by decide +kernel, rfl, by decide +kernel, by decide +kernel⟩
def d_Outlet_gives : He.DefD := ⟨("Outlet", some "gives"), "gives", "Outlet.gives", defArgs s_Outlet_gives, defBody s_Outlet_gives, defScope s_Outlet_gives, [], []⟩
theorem bd_Outlet_gives : Z.Bd d_Outlet_gives p_Outlet_gives 1 [] (fun _ vs _ => vs) := Z.Bd.plain rfl rfl rfl (fun _ _ _ _ _ _ us hl => match us, hl with | [_], _ => rfl)
abbrev s_Own_gives : Stmt := inClass (top 34) 4
abbrev n_Own_gives : List Str := ["self"]
abbrev p_Own_gives : List Str := ["self"]
theorem sc_Own_gives : FnScope n_Own_gives p_Own_gives (defScope s_Own_gives) := ⟨rfl, rfl, rfl, by decide +kernel, rfl, by decide +kernel, by decide +kernel⟩
def d_Own_gives : He.DefD := ⟨("Own", some "gives"), "gives", "Own.gives", defArgs s_Own_gives, defBody s_Own_gives, defScope s_Own_gives, [], []⟩
theorem bd_Own_gives : Z.Bd d_Own_gives p_Own_gives 1 [] (fun _ vs _ => vs) := Z.Bd.plain rfl rfl rfl (fun _ _ _ _ _ _ us hl => match us, hl with | [_], _ => rfl)
abbrev s_Up_gives : Stmt := inClass (top 55) 3
abbrev n_Up_gives : List Str := ["self"]
abbrev p_Up_gives : List Str := ["self"]
theorem sc_Up_gives : FnScope n_Up_gives p_Up_gives (defScope s_Up_gives) := ⟨rfl, rfl, rfl, by decide +kernel, rfl, by decide +kernel, by decide +kernel⟩
def d_Up_gives : He.DefD := ⟨("Up", some "gives"), "gives", "Up.gives", defArgs s_Up_gives, defBody s_Up_gives, defScope s_Up_gives, [], []⟩
theorem bd_Up_gives : Z.Bd d_Up_gives p_Up_gives 1 [] (fun _ vs _ => vs) := Z.Bd.plain rfl rfl rfl (fun _ _ _ _ _ _ us hl => match us, hl with | [_], _ => rfl)
abbrev s_Resample_gives : Stmt := inClass (top 57) 4
abbrev n_Resample_gives : List Str := ["self"]
abbrev p_Resample_gives : List Str := ["self"]
theorem sc_Resample_gives : FnScope n_Resample_gives p_Resample_gives (defScope s_Resample_gives) := ⟨rfl, rfl, rfl, by decide +kernel, rfl, by decide +kernel, by decide +kernel⟩
def d_Resample_gives : He.DefD := ⟨("Resample", some "gives"), "gives", "Resample.gives", defArgs s_Resample_gives, defBody s_Resample_gives, defScope s_Resample_gives, [], []⟩
theorem bd_Resample_gives : Z.Bd d_Resample_gives p_Resample_gives 1 [] (fun _ vs _ => vs) := Z.Bd.plain rfl rfl rfl (fun _ _ _ _ _ _ us hl => match us, hl with | [_], _ => rfl)
abbrev s_Inlet_sort_word : Stmt := inClass (top 26) 1
abbrev n_Inlet_sort_word : List Str := ["self"]
abbrev p_Inlet_sort_word : List Str := ["self"]
theorem sc_Inlet_sort_word : FnScope n_Inlet_sort_word p_Inlet_sort_word (defScope s_Inlet_sort_word) := ⟨rfl, rfl, rfl, by decide +kernel, rfl, by decide +kernel, by decide +kernel⟩
def d_Inlet_sort_word : He.DefD := ⟨("Inlet", some "sort_word"), "sort_word", "Inlet.sort_word", defArgs s_Inlet_sort_word, defBody s_Inlet_sort_word, defScope s_Inlet_sort_word, [], []⟩
theorem bd_Inlet_sort_word : Z.Bd d_Inlet_sort_word p_Inlet_sort_word 1 [] (fun _ vs _ => vs) := Z.Bd.plain rfl rfl rfl (fun _ _ _ _ _ _ us hl => match us, hl with | [_], _ => rfl)
abbrev s_Outlet_sort_word : Stmt := inClass (top 27) 1
abbrev n_Outlet_sort_word : List Str := ["self"]
abbrev p_Outlet_sort_word : List Str := ["self"]
theorem sc_Outlet_sort_word : FnScope n_Outlet_sort_word p_Outlet_sort_word (defScope s_Outlet_sort_word) := ⟨rfl, rfl, rfl, by decide +kernel, rfl, by decide +kernel, by decide +kernel⟩
def d_Outlet_sort_word : He.DefD := ⟨("Outlet", some "sort_word"), "sort_word", "Outlet.sort_word", defArgs s_Outlet_sort_word, defBody s_Outlet_sort_word, defScope s_Outlet_sort_word, [], []⟩
theorem bd_Outlet_sort_word : Z.Bd d_Outlet_sort_word p_Outlet_sort_word 1 [] (fun _ vs _ => vs) := Z.Bd.plain rfl rfl rfl (fun _ _ _ _ _ _ us hl => match us, hl with | [_], _ => rfl)
abbrev s_Gain_sort_word : Stmt := inClass (top 28) 1
abbrev n_Gain_sort_word : List Str := ["self"]
abbrev p_Gain_sort_word : List Str := ["self"]
theorem sc_Gain_sort_word : FnScope n_Gain_sort_word p_Gain_sort_word (defScope s_Gain_sort_word) := ⟨rfl, rfl, rfl, by decide +kernel, rfl, by decide +kernel, by decide +kernel⟩
def d_Gain_sort_word : He.DefD := ⟨("Gain", some "sort_word"), "sort_word", "Gain.sort_word", defArgs s_Gain_sort_word, defBody s_Gain_sort_word, defScope s_Gain_sort_word, [], []⟩
theorem bd_Gain_sort_word : Z.Bd d_Gain_sort_word p_Gain_sort_word 1 [] (fun _ vs _ => vs) := Z.Bd.plain rfl rfl rfl (fun _ _ _ _ _ _ us hl => match us, hl with | [_], _ => rfl)
abbrev s_Mix_sort_word : Stmt := inClass (top 29) 1
abbrev n_Mix_sort_word : List Str := ["self"]
abbrev p_Mix_sort_word : List Str := ["self"]
theorem sc_Mix_sort_word : FnScope n_Mix_sort_word p_Mix_sort_word (defScope s_Mix_sort_word) := ⟨rfl, rfl, rfl, by decide +kernel, rfl, by decide +kernel, by decide +kernel⟩
def d_Mix_sort_word : He.DefD := ⟨("Mix", some "sort_word"), "sort_word", "Mix.sort_word", defArgs s_Mix_sort_word, defBody s_Mix_sort_word, defScope s_Mix_sort_word, [], []⟩
theorem bd_Mix_sort_word : Z.Bd d_Mix_sort_word p_Mix_sort_word 1 [] (fun _ vs _ => vs) := Z.Bd.plain rfl rfl rfl (fun _ _ _ _ _ _ us hl => match us, hl with | [_], _ => rfl)
abbrev s_Times_sort_word : Stmt := inClass (top 30) 1
abbrev n_Times_sort_word : List Str := ["self"]
abbrev p_Times_sort_word : List Str := ["self"]
theorem sc_Times_sort_word : FnScope n_Times_sort_word p_Times_sort_word (defScope s_Times_sort_word) := ⟨rfl, rfl, rfl, by decide +kernel, rfl, by decide +kernel, by decide +kernel⟩
def d_Times_sort_word : He.DefD := ⟨("Times", some "sort_word"), "sort_word", "Times.sort_word", defArgs s_Times_sort_word, defBody s_Times_sort_word, defScope s_Times_sort_word, [], []⟩
theorem bd_Times_sort_word : Z.Bd d_Times_sort_word p_Times_sort_word 1 [] (fun _ vs _ => vs) := Z.Bd.plain rfl rfl rfl (fun _ _ _ _ _ _ us hl => match us, hl with | [_], _ => rfl)
abbrev s_Choose_sort_word : Stmt := inClass (top 31) 1
abbrev n_Choose_sort_word : List Str := ["self"]
abbrev p_Choose_sort_word : List Str := ["self"]
theorem sc_Choose_sort_word : FnScope n_Choose_sort_word p_Choose_sort_word (defScope s_Choose_sort_word) := ⟨rfl, rfl, rfl, by decide +kernel, rfl, by decide +kernel, by decide +kernel⟩
def d_Choose_sort_word : He.DefD := ⟨("Choose", some "sort_word"), "sort_word", "Choose.sort_word", defArgs s_Choose_sort_word, defBody s_Choose_sort_word, defScope s_Choose_sort_word, [], []⟩
theorem bd_Choose_sort_word : Z.Bd d_Choose_sort_word p_Choose_sort_word 1 [] (fun _ vs _ => vs) := Z.Bd.plain rfl rfl rfl (fun _ _ _ _ _ _ us hl => match us, hl with | [_], _ => rfl)
abbrev s_Own_sort_word : Stmt := inClass (top 34) 1
abbrev n_Own_sort_word : List Str := ["self"]
abbrev p_Own_sort_word : List Str := ["self"]
theorem sc_Own_sort_word : FnScope n_Own_sort_word p_Own_sort_word (defScope s_Own_sort_word) := ⟨rfl, rfl, rfl, by decide +kernel, rfl, by decide +kernel, by decide +kernel⟩
def d_Own_sort_word : He.DefD := ⟨("Own", some "sort_word"), "sort_word", "Own.sort_word", defArgs s_Own_sort_word, defBody s_Own_sort_word, defScope s_Own_sort_word, [], []⟩
theorem bd_Own_sort_word : Z.Bd d_Own_sort_word p_Own_sort_word 1 [] (fun _ vs _ => vs) := Z.Bd.plain rfl rfl rfl (fun _ _ _ _ _ _ us hl => match us, hl with | [_], _ => rfl)
abbrev s_Up_sort_word : Stmt := inClass (top 55) 1
abbrev n_Up_sort_word : List Str := ["self"]
abbrev p_Up_sort_word : List Str := ["self"]
theorem sc_Up_sort_word : FnScope n_Up_sort_word p_Up_sort_word (defScope s_Up_sort_word) := ⟨rfl, rfl, rfl, by decide +kernel, rfl, by decide +kernel, by decide +kernel⟩
def d_Up_sort_word : He.DefD := ⟨("Up", some "sort_word"), "sort_word", "Up.sort_word", defArgs s_Up_sort_word, defBody s_Up_sort_word, defScope s_Up_sort_word, [], []⟩
theorem bd_Up_sort_word : Z.Bd d_Up_sort_word p_Up_sort_word 1 [] (fun _ vs _ => vs) := Z.Bd.plain rfl rfl rfl (fun _ _ _ _ _ _ us hl => match us, hl with | [_], _ => rfl)
abbrev s_Down_sort_word : Stmt := inClass (top 56) 1
abbrev n_Down_sort_word : List Str := ["self"]
abbrev p_Down_sort_word : List Str := ["self"]
theorem sc_Down_sort_word : FnScope n_Down_sort_word p_Down_sort_word (defScope s_Down_sort_word) := ⟨rfl, rfl, rfl, by decide +kernel, rfl, by decide +kernel, by decide +kernel⟩
def d_Down_sort_word : He.DefD := ⟨("Down", some "sort_word"), "sort_word", "Down.sort_word", defArgs s_Down_sort_word, defBody s_Down_sort_word, defScope s_Down_sort_word, [], []⟩
theorem bd_Down_sort_word : Z.Bd d_Down_sort_word p_Down_sort_word 1 [] (fun _ vs _ => vs) := Z.Bd.plain rfl rfl rfl (fun _ _ _ _ _ _ us hl => match us, hl with | [_], _ => rfl)
abbrev s_Resample_sort_word : Stmt := inClass (top 57) 1
abbrev n_Resample_sort_word : List Str := ["self"]
abbrev p_Resample_sort_word : List Str := ["self"]
theorem sc_Resample_sort_word : FnScope n_Resample_sort_word p_Resample_sort_word (defScope s_Resample_sort_word) := ⟨rfl, rfl, rfl, by decide +kernel, rfl, by decide +kernel, by decide +kernel⟩
def d_Resample_sort_word : He.DefD := ⟨("Resample", some "sort_word"), "sort_word", "Resample.sort_word", defArgs s_Resample_sort_word, defBody s_Resample_sort_word, defScope s_Resample_sort_word, [], []⟩
theorem bd_Resample_sort_word : Z.Bd d_Resample_sort_word p_Resample_sort_word 1 [] (fun _ vs _ => vs) := Z.Bd.plain rfl rfl rfl (fun _ _ _ _ _ _ us hl => match us, hl with | [_], _ => rfl)
abbrev s_Node_own_parts : Stmt := inClass (top 25) 2
abbrev n_Node_own_parts : List Str := ["self"]
abbrev p_Node_own_parts : List Str := ["self"]
theorem sc_Node_own_parts : FnScope n_Node_own_parts p_Node_own_parts (defScope s_Node_own_parts) := ⟨rfl, rfl, rfl, by decide +kernel, rfl, by decide +kernel, by decide +kernel⟩
def d_Node_own_parts : He.DefD := ⟨("Node", some "own_parts"), "own_parts", "Node.own_parts", defArgs s_Node_own_parts, defBody s_Node_own_parts, defScope s_Node_own_parts, [], []⟩
theorem bd_Node_own_parts : Z.Bd d_Node_own_parts p_Node_own_parts 1 [] (fun _ vs _ => vs) := Z.Bd.plain rfl rfl rfl (fun _ _ _ _ _ _ us hl => match us, hl with | [_], _ => rfl)
abbrev s_Gain_own_parts : Stmt := inClass (top 28) 2
abbrev n_Gain_own_parts : List Str := ["self"]
abbrev p_Gain_own_parts : List Str := ["self"]
theorem sc_Gain_own_parts : FnScope n_Gain_own_parts p_Gain_own_parts (defScope s_Gain_own_parts) := ⟨rfl, rfl, rfl, by decide +kernel, rfl, by decide +kernel, by decide +kernel⟩
def d_Gain_own_parts : He.DefD := ⟨("Gain", some "own_parts"), "own_parts", "Gain.own_parts", defArgs s_Gain_own_parts, defBody s_Gain_own_parts, defScope s_Gain_own_parts, [], []⟩
theorem bd_Gain_own_parts : Z.Bd d_Gain_own_parts p_Gain_own_parts 1 [] (fun _ vs _ => vs) := Z.Bd.plain rfl rfl rfl (fun _ _ _ _ _ _ us hl => match us, hl with | [_], _ => rfl)
abbrev s_Mix_own_parts : Stmt := inClass (top 29) 2
abbrev n_Mix_own_parts : List Str := ["self"]
abbrev p_Mix_own_parts : List Str := ["self"]
theorem sc_Mix_own_parts : FnScope n_Mix_own_parts p_Mix_own_parts (defScope s_Mix_own_parts) := ⟨rfl, rfl, rfl, by decide +kernel, rfl, by decide +kernel, by decide +kernel⟩
def d_Mix_own_parts : He.DefD := ⟨("Mix", some "own_parts"), "own_parts", "Mix.own_parts", defArgs s_Mix_own_parts, defBody s_Mix_own_parts, defScope s_Mix_own_parts, [], []⟩
theorem bd_Mix_own_parts : Z.Bd d_Mix_own_parts p_Mix_own_parts 1 [] (fun _ vs _ => vs) := Z.Bd.plain rfl rfl rfl (fun _ _ _ _ _ _ us hl => match us, hl with | [_], _ => rfl)
abbrev s_Own_own_parts : Stmt := inClass (top 34) 2
abbrev n_Own_own_parts : List Str := ["self"]
abbrev p_Own_own_parts : List Str := ["self"]
theorem sc_Own_own_parts : FnScope n_Own_own_parts p_Own_own_parts (defScope s_Own_own_parts) := ⟨rfl, rfl, rfl, by decide +kernel, rfl, by decide +kernel, by decide +kernel⟩
def d_Own_own_parts : He.DefD := ⟨("Own", some "own_parts"), "own_parts", "Own.own_parts", defArgs s_Own_own_parts, defBody s_Own_own_parts, defScope s_Own_own_parts, [], []⟩
theorem bd_Own_own_parts : Z.Bd d_Own_own_parts p_Own_own_parts 1 [] (fun _ vs _ => vs) := Z.Bd.plain rfl rfl rfl (fun _ _ _ _ _ _ us hl => match us, hl with | [_], _ => rfl)
abbrev s_Up_own_parts : Stmt := inClass (top 55) 2
abbrev n_Up_own_parts : List Str := ["self"]
abbrev p_Up_own_parts : List Str := ["self"]
theorem sc_Up_own_parts : FnScope n_Up_own_parts p_Up_own_parts (defScope s_Up_own_parts) := ⟨rfl, rfl, rfl, by decide +kernel, rfl, by decide +kernel, by decide +kernel⟩
def d_Up_own_parts : He.DefD := ⟨("Up", some "own_parts"), "own_parts", "Up.own_parts", defArgs s_Up_own_parts, defBody s_Up_own_parts, defScope s_Up_own_parts, [], []⟩
theorem bd_Up_own_parts : Z.Bd d_Up_own_parts p_Up_own_parts 1 [] (fun _ vs _ => vs) := Z.Bd.plain rfl rfl rfl (fun _ _ _ _ _ _ us hl => match us, hl with | [_], _ => rfl)
abbrev s_Down_own_parts : Stmt := inClass (top 56) 2
abbrev n_Down_own_parts : List Str := ["self"]
abbrev p_Down_own_parts : List Str := ["self"]
theorem sc_Down_own_parts : FnScope n_Down_own_parts p_Down_own_parts (defScope s_Down_own_parts) := ⟨rfl, rfl, rfl, by decide +kernel, rfl, by decide +kernel, by decide +kernel⟩
def d_Down_own_parts : He.DefD := ⟨("Down", some "own_parts"), "own_parts", "Down.own_parts", defArgs s_Down_own_parts, defBody s_Down_own_parts, defScope s_Down_own_parts, [], []⟩
theorem bd_Down_own_parts : Z.Bd d_Down_own_parts p_Down_own_parts 1 [] (fun _ vs _ => vs) := Z.Bd.plain rfl rfl rfl (fun _ _ _ _ _ _ us hl => match us, hl with | [_], _ => rfl)
abbrev s_Resample_own_parts : Stmt := inClass (top 57) 2
abbrev n_Resample_own_parts : List Str := ["self"]
abbrev p_Resample_own_parts : List Str := ["self"]
theorem sc_Resample_own_parts : FnScope n_Resample_own_parts p_Resample_own_parts (defScope s_Resample_own_parts) := ⟨rfl, rfl, rfl, by decide +kernel, rfl, by decide +kernel, by decide +kernel⟩
def d_Resample_own_parts : He.DefD := ⟨("Resample", some "own_parts"), "own_parts", "Resample.own_parts", defArgs s_Resample_own_parts, defBody s_Resample_own_parts, defScope s_Resample_own_parts, [], []⟩
theorem bd_Resample_own_parts : Z.Bd d_Resample_own_parts p_Resample_own_parts 1 [] (fun _ vs _ => vs) := Z.Bd.plain rfl rfl rfl (fun _ _ _ _ _ _ us hl => match us, hl with | [_], _ => rfl)
abbrev s_Node_u__eq : Stmt := inClass (top 25) 14
abbrev n_Node_u__eq : List Str := ["self", "other", "one"]
abbrev p_Node_u__eq : List Str := ["self", "other"]
theorem sc_Node_u__eq : FnScope n_Node_u__eq p_Node_u__eq (defScope s_Node_u__eq) := ⟨rfl, rfl, rfl, by decide +kernel, rfl, by decide +kernel, by decide +kernel⟩
def d_Node_u__eq : He.DefD := ⟨("Node", some "__eq__"), "__eq__", "Node.__eq__", defArgs s_Node_u__eq, defBody s_Node_u__eq, defScope s_Node_u__eq, [], []⟩
theorem bd_Node_u__eq : Z.Bd d_Node_u__eq p_Node_u__eq 2 [] (fun _ vs _ => vs) := Z.Bd.plain rfl rfl rfl (fun _ _ _ _ _ _ us hl => match us, hl with | [_, _], _ => rfl)
abbrev s_named_nodes : Stmt := top 44
abbrev n_named_nodes : List Str := ["nodes", "found", "name", "node"]
abbrev p_named_nodes : List Str := ["nodes"]
theorem sc_named_nodes : FnScope n_named_nodes p_named_nodes (defScope s_named_nodes) := ⟨rfl, rfl, rfl, by decide +kernel, rfl, by decide +kernel, by decide +kernel⟩
def d_named_nodes : He.DefD := ⟨("named_nodes", none), "named_nodes", "named_nodes", defArgs s_named_nodes, defBody s_named_nodes, defScope s_named_nodes, [], []⟩
theorem bd_named_nodes : Z.Bd d_named_nodes p_named_nodes 1 [] (fun _ vs _ => vs) := Z.Bd.plain rfl rfl rfl (fun _ _ _ _ _ _ us hl => match us, hl with | [_], _ => rfl)
abbrev s_want_known : Stmt := top 45
abbrev n_want_known : List Str := ["nodes", "name"]
abbrev p_want_known : List Str := ["nodes", "name"]
theorem sc_want_known : FnScope n_want_known p_want_known (defScope s_want_known) := ⟨rfl, rfl, rfl, by decide +kernel, rfl, by decide +kernel, by decide +kernel⟩
def d_want_known : He.DefD := ⟨("want_known", none), "want_known", "want_known", defArgs s_want_known, defBody s_want_known, defScope s_want_known, [], []⟩
theorem bd_want_known : Z.Bd d_want_known p_want_known 2 [] (fun _ vs _ => vs) := Z.Bd.plain rfl rfl rfl (fun _ _ _ _ _ _ us hl => match us, hl with | [_, _], _ => rfl)
abbrev s_is_whole_weaves : Stmt := top 42
abbrev n_is_whole_weaves : List Str := ["thing", "most"]
abbrev p_is_whole_weaves : List Str := ["thing", "most"]
theorem sc_is_whole_weaves : FnScope n_is_whole_weaves p_is_whole_weaves (defScope s_is_whole_weaves) := ⟨rfl, rfl, rfl, by decide +kernel, rfl, by decide +kernel, by decide +kernel⟩
def d_is_whole_weaves : He.DefD := ⟨("is_whole_weaves", none), "is_whole", "is_whole", defArgs s_is_whole_weaves, defBody s_is_whole_weaves, defScope s_is_whole_weaves, [], []⟩
theorem bd_is_whole_weaves : Z.Bd d_is_whole_weaves p_is_whole_weaves 2 [] (fun _ vs _ => vs) := Z.Bd.plain rfl rfl rfl (fun _ _ _ _ _ _ us hl => match us, hl with | [_, _], _ => rfl)
abbrev s_want_wire : Stmt := top 46
abbrev n_want_wire : List Str := ["nodes", "wires", "number", "source", "goal", "place", "delay", "row"]
abbrev p_want_wire : List Str := ["nodes", "wires", "number"]
theorem sc_want_wire : FnScope n_want_wire p_want_wire (defScope s_want_wire) := ⟨rfl, rfl, rfl, by decide +kernel, rfl, by decide +kernel, by decide +kernel⟩
def d_want_wire : He.DefD := ⟨("want_wire", none), "want_wire", "want_wire", defArgs s_want_wire, defBody s_want_wire, defScope s_want_wire, [], []⟩
theorem bd_want_wire : Z.Bd d_want_wire p_want_wire 3 [] (fun _ vs _ => vs) := Z.Bd.plain rfl rfl rfl (fun _ _ _ _ _ _ us hl => match us, hl with | [_, _, _], _ => rfl)
abbrev s_steps_onward : Stmt := top 49
abbrev n_steps_onward : List Str := ["names", "wires", "name", "row"]
abbrev p_steps_onward : List Str := ["names", "wires"]
theorem sc_steps_onward : FnScope n_steps_onward p_steps_onward (defScope s_steps_onward) := ⟨rfl, rfl, rfl, by decide +kernel, rfl, by decide +kernel, by decide +kernel⟩
def d_steps_onward : He.DefD := ⟨("steps_onward", none), "steps_onward", "steps_onward", defArgs s_steps_onward, defBody s_steps_onward, defScope s_steps_onward, [], []⟩
theorem bd_steps_onward : Z.Bd d_steps_onward p_steps_onward 2 [] (fun _ vs _ => vs) := Z.Bd.plain rfl rfl rfl (fun _ _ _ _ _ _ us hl => match us, hl with | [_, _], _ => rfl)
abbrev s_come_to : Stmt := top 48
abbrev n_come_to : List Str := ["steps", "names", "found", "waiting", "here"]
abbrev p_come_to : List Str := ["steps", "names"]
theorem sc_come_to : FnScope n_come_to p_come_to (defScope s_come_to) := ⟨rfl, rfl, rfl, by decide +kernel, rfl, by decide +kernel, by decide +kernel⟩
def d_come_to : He.DefD := ⟨("come_to", none), "come_to", "come_to", defArgs s_come_to, defBody s_come_to, defScope s_come_to, [], []⟩
theorem bd_come_to : Z.Bd d_come_to p_come_to 2 [] (fun _ vs _ => vs) := Z.Bd.plain rfl rfl rfl (fun _ _ _ _ _ _ us hl => match us, hl with | [_, _], _ => rfl)
abbrev s_wires_into : Stmt := top 47
abbrev n_wires_into : List Str := ["nodes", "wires", "found", "name", "node", "place", "numbers", "number", "row"]
abbrev p_wires_into : List Str := ["nodes", "wires"]
theorem sc_wires_into : FnScope n_wires_into p_wires_into (defScope s_wires_into) := ⟨rfl, rfl, rfl, by decide +kernel, rfl, by decide +kernel, by decide +kernel⟩
def d_wires_into : He.DefD := ⟨("wires_into", none), "wires_into", "wires_into", defArgs s_wires_into, defBody s_wires_into, defScope s_wires_into, [], []⟩
theorem bd_wires_into : Z.Bd d_wires_into p_wires_into 2 [] (fun _ vs _ => vs) := Z.Bd.plain rfl rfl rfl (fun _ _ _ _ _ _ us hl => match us, hl with | [_, _], _ => rfl)
abbrev s_Weave_names : Stmt := inClass (top 50) 3
abbrev n_Weave_names : List Str := ["self", "name", "node"]
abbrev p_Weave_names : List Str := ["self"]
theorem sc_Weave_names : FnScope n_Weave_names p_Weave_names (defScope s_Weave_names) := ⟨rfl, rfl, rfl, by decide +kernel, rfl, by decide +kernel, by decide +kernel⟩
def d_Weave_names : He.DefD := ⟨("Weave", some "names"), "names", "Weave.names", defArgs s_Weave_names, defBody s_Weave_names, defScope s_Weave_names, [], []⟩
theorem bd_Weave_names : Z.Bd d_Weave_names p_Weave_names 1 [] (fun _ vs _ => vs) := Z.Bd.plain rfl rfl rfl (fun _ _ _ _ _ _ us hl => match us, hl with | [_], _ => rfl)
abbrev s_Weave_inlets : Stmt := inClass (top 50) 6
abbrev n_Weave_inlets : List Str := ["self", "name", "node"]
abbrev p_Weave_inlets : List Str := ["self"]
theorem sc_Weave_inlets : FnScope n_Weave_inlets p_Weave_inlets (defScope s_Weave_inlets) := ⟨rfl, rfl, rfl, by decide +kernel, rfl, by decide +kernel, by decide +kernel⟩
def d_Weave_inlets : He.DefD := ⟨("Weave", some "inlets"), "inlets", "Weave.inlets", defArgs s_Weave_inlets, defBody s_Weave_inlets, defScope s_Weave_inlets, [], []⟩
theorem bd_Weave_inlets : Z.Bd d_Weave_inlets p_Weave_inlets 1 [] (fun _ vs _ => vs) := Z.Bd.plain rfl rfl rfl (fun _ _ _ _ _ _ us hl => match us, hl with | [_], _ => rfl)
abbrev s_Weave_u__init : Stmt := inClass (top 50) 0
abbrev n_Weave_u__init : List Str := ["self", "nodes", "wires", "number", "reached", "name"]
abbrev p_Weave_u__init : List Str := ["self", "nodes", "wires"]
theorem sc_Weave_u__init : FnScope n_Weave_u__init p_Weave_u__init (defScope s_Weave_u__init) := ⟨rfl, rfl, rfl, by decide +kernel, rfl, by decide +kernel, by decide +kernel⟩
def d_Weave_u__init : He.DefD := ⟨("Weave", some "__init__"), "__init__", "Weave.__init__", defArgs s_Weave_u__init, defBody s_Weave_u__init, defScope s_Weave_u__init, [], []⟩
theorem bd_Weave_u__init : Z.Bd d_Weave_u__init p_Weave_u__init 3 [] (fun _ vs _ => vs) := Z.Bd.plain rfl rfl rfl (fun _ _ _ _ _ _ us hl => match us, hl with | [_, _, _], _ => rfl)
abbrev s_Weave_u__len : Stmt := inClass (top 50) 2
abbrev n_Weave_u__len : List Str := ["self"]
abbrev p_Weave_u__len : List Str := ["self"]
theorem sc_Weave_u__len : FnScope n_Weave_u__len p_Weave_u__len (defScope s_Weave_u__len) := ⟨rfl, rfl, rfl, by decide +kernel, rfl, by decide +kernel, by decide +kernel⟩
def d_Weave_u__len : He.DefD := ⟨("Weave", some "__len__"), "__len__", "Weave.__len__", defArgs s_Weave_u__len, defBody s_Weave_u__len, defScope s_Weave_u__len, [], []⟩
theorem bd_Weave_u__len : Z.Bd d_Weave_u__len p_Weave_u__len 1 [] (fun _ vs _ => vs) := Z.Bd.plain rfl rfl rfl (fun _ _ _ _ _ _ us hl => match us, hl with | [_], _ => rfl)
abbrev s_Weave_wires : Stmt := inClass (top 50) 5
abbrev n_Weave_wires : List Str := ["self"]
abbrev p_Weave_wires : List Str := ["self"]
theorem sc_Weave_wires : FnScope n_Weave_wires p_Weave_wires (defScope s_Weave_wires) := ⟨rfl, rfl, rfl, by decide +kernel, rfl, by decide +kernel, by decide +kernel⟩
def d_Weave_wires : He.DefD := ⟨("Weave", some "wires"), "wires", "Weave.wires", defArgs s_Weave_wires, defBody s_Weave_wires, defScope s_Weave_wires, [], []⟩
theorem bd_Weave_wires : Z.Bd d_Weave_wires p_Weave_wires 1 [] (fun _ vs _ => vs) := Z.Bd.plain rfl rfl rfl (fun _ _ _ _ _ _ us hl => match us, hl with | [_], _ => rfl)
abbrev s_Weave_node : Stmt := inClass (top 50) 4
abbrev n_Weave_node : List Str := ["self", "name"]
abbrev p_Weave_node : List Str := ["self", "name"]
theorem sc_Weave_node : FnScope n_Weave_node p_Weave_node (defScope s_Weave_node) := ⟨rfl, rfl, rfl, by decide +kernel, rfl, by decide +kernel, by decide +kernel⟩
def d_Weave_node : He.DefD := ⟨("Weave", some "node"), "node", "Weave.node", defArgs s_Weave_node, defBody s_Weave_node, defScope s_Weave_node, [], []⟩
theorem bd_Weave_node : Z.Bd d_Weave_node p_Weave_node 2 [] (fun _ vs _ => vs) := Z.Bd.plain rfl rfl rfl (fun _ _ _ _ _ _ us hl => match us, hl with | [_, _], _ => rfl)
abbrev s_Weave_u__eq : Stmt := inClass (top 50) 1
abbrev n_Weave_u__eq : List Str := ["self", "other"]
abbrev p_Weave_u__eq : List Str := ["self", "other"]
theorem sc_Weave_u__eq : FnScope n_Weave_u__eq p_Weave_u__eq (defScope s_Weave_u__eq) := ⟨rfl, rfl, rfl, by decide +kernel, rfl, by decide +kernel, by decide +kernel⟩
def d_Weave_u__eq : He.DefD := ⟨("Weave", some "__eq__"), "__eq__", "Weave.__eq__", defArgs s_Weave_u__eq, defBody s_Weave_u__eq, defScope s_Weave_u__eq, [], []⟩
theorem bd_Weave_u__eq : Z.Bd d_Weave_u__eq p_Weave_u__eq 2 [] (fun _ vs _ => vs) := Z.Bd.plain rfl rfl rfl (fun _ _ _ _ _ _ us hl => match us, hl with | [_, _], _ => rfl)
abbrev s_l_sources : Stmt := top 67
abbrev n_l_sources : List Str := ["_law_knots", "_law_spec_here", "_law_tag"]
abbrev p_l_sources : List Str := ["_law_knots"]
theorem sc_l_sources : FnScope n_l_sources p_l_sources (defScope s_l_sources) := ⟨rfl, rfl, rfl, by decide +kernel, rfl, by decide +kernel, by decide +kernel⟩
def d_l_sources : He.DefD := ⟨("_law_sources", none), "_law_sources", "_law_sources", defArgs s_l_sources, defBody s_l_sources, defScope s_l_sources, [], []⟩
theorem bd_l_sources : Z.Bd d_l_sources p_l_sources 1 [] (fun _ vs _ => vs) := Z.Bd.plain rfl rfl rfl (fun _ _ _ _ _ _ us hl => match us, hl with | [_], _ => rfl)
abbrev s_l_spec : Stmt := top 62
abbrev n_l_spec : List Str := ["_law_pot_here", "_law_way", "_law_one", "_law_other_here", "_law_k"]
abbrev p_l_spec : List Str := ["_law_pot_here"]
theorem sc_l_spec : FnScope n_l_spec p_l_spec (defScope s_l_spec) := ⟨rfl, rfl, rfl, by decide +kernel, rfl, by decide +kernel, by decide +kernel⟩
def d_l_spec : He.DefD := ⟨("_law_spec", none), "_law_spec", "_law_spec", defArgs s_l_spec, defBody s_l_spec, defScope s_l_spec, [], []⟩
theorem bd_l_spec : Z.Bd d_l_spec p_l_spec 1 [] (fun _ vs _ => vs) := Z.Bd.plain rfl rfl rfl (fun _ _ _ _ _ _ us hl => match us, hl with | [_], _ => rfl)
abbrev s_l_takes : Stmt := top 63
abbrev n_l_takes : List Str := ["_law_spec_here"]
abbrev p_l_takes : List Str := ["_law_spec_here"]
theorem sc_l_takes : FnScope n_l_takes p_l_takes (defScope s_l_takes) := ⟨rfl, rfl, rfl, by decide +kernel, rfl, by decide +kernel, by decide +kernel⟩
def d_l_takes : He.DefD := ⟨("_law_takes", none), "_law_takes", "_law_takes", defArgs s_l_takes, defBody s_l_takes, defScope s_l_takes, [], []⟩
theorem bd_l_takes : Z.Bd d_l_takes p_l_takes 1 [] (fun _ vs _ => vs) := Z.Bd.plain rfl rfl rfl (fun _ _ _ _ _ _ us hl => match us, hl with | [_], _ => rfl)
abbrev s_l_made : Stmt := top 65
abbrev n_l_made : List Str := ["_law_spec_here"]
abbrev p_l_made : List Str := ["_law_spec_here"]
theorem sc_l_made : FnScope n_l_made p_l_made (defScope s_l_made) := ⟨rfl, rfl, rfl, by decide +kernel, rfl, by decide +kernel, by decide +kernel⟩
def d_l_made : He.DefD := ⟨("_law_made", none), "_law_made", "_law_made", defArgs s_l_made, defBody s_l_made, defScope s_l_made, [], []⟩
theorem bd_l_made : Z.Bd d_l_made p_l_made 1 [] (fun _ vs _ => vs) := Z.Bd.plain rfl rfl rfl (fun _ _ _ _ _ _ us hl => match us, hl with | [_], _ => rfl)
abbrev s_l_drawn : Stmt := top 69
abbrev n_l_drawn : List Str := ["_law_pot_here", "_law_knots", "_law_cords", "_law_is_long", "_law_k", "_law_tag", "_law_spec_here", "_law_ahead", "_law_place", "_law_delay", "_law_at", "_law_one", "_law_other_here"]
abbrev p_l_drawn : List Str := ["_law_pot_here"]
theorem sc_l_drawn : FnScope n_l_drawn p_l_drawn (defScope s_l_drawn) := ⟨rfl, rfl, rfl, by decide +kernel, rfl, by decide +kernel, by decide +kernel⟩
def d_l_drawn : He.DefD := ⟨("_law_drawn", none), "_law_drawn", "_law_drawn", defArgs s_l_drawn, defBody s_l_drawn, defScope s_l_drawn, [], []⟩
theorem bd_l_drawn : Z.Bd d_l_drawn p_l_drawn 1 [] (fun _ vs _ => vs) := Z.Bd.plain rfl rfl rfl (fun _ _ _ _ _ _ us hl => match us, hl with | [_], _ => rfl)
abbrev s_l_pairs : Stmt := top 70
abbrev n_l_pairs : List Str := ["_law_knots", "_law_made_here", "_law_tag", "_law_spec_here"]
abbrev p_l_pairs : List Str := ["_law_knots"]
theorem sc_l_pairs : FnScope n_l_pairs p_l_pairs (defScope s_l_pairs) := ⟨rfl, rfl, rfl, by decide +kernel, rfl, by decide +kernel, by decide +kernel⟩
def d_l_pairs : He.DefD := ⟨("_law_pairs", none), "_law_pairs", "_law_pairs", defArgs s_l_pairs, defBody s_l_pairs, defScope s_l_pairs, [], []⟩
theorem bd_l_pairs : Z.Bd d_l_pairs p_l_pairs 1 [] (fun _ vs _ => vs) := Z.Bd.plain rfl rfl rfl (fun _ _ _ _ _ _ us hl => match us, hl with | [_], _ => rfl)
abbrev s_l_right : Stmt := top 74
abbrev n_l_right : List Str := ["_law_one", "_law_other_here", "_law_due", "_law_some"]
abbrev p_l_right : List Str := ["_law_one", "_law_other_here", "_law_due"]
theorem sc_l_right : FnScope n_l_right p_l_right (defScope s_l_right) := ⟨rfl, rfl, rfl, by decide +kernel, rfl, by decide +kernel, by decide +kernel⟩
def d_l_right : He.DefD := ⟨("_law_right", none), "_law_right", "_law_right", defArgs s_l_right, defBody s_l_right, defScope s_l_right, [], []⟩
theorem bd_l_right : Z.Bd d_l_right p_l_right 3 [] (fun _ vs _ => vs) := Z.Bd.plain rfl rfl rfl (fun _ _ _ _ _ _ us hl => match us, hl with | [_, _, _], _ => rfl)
abbrev s_l_exchanged : Stmt := top 71
abbrev n_l_exchanged : List Str := ["_law_pot_here", "_law_row", "_law_found", "_law_one", "_law_other_here"]
abbrev p_l_exchanged : List Str := ["_law_pot_here", "_law_row"]
theorem sc_l_exchanged : FnScope n_l_exchanged p_l_exchanged (defScope s_l_exchanged) := ⟨rfl, rfl, rfl, by decide +kernel, rfl, by decide +kernel, by decide +kernel⟩
def d_l_exchanged : He.DefD := ⟨("_law_exchanged", none), "_law_exchanged", "_law_exchanged", defArgs s_l_exchanged, defBody s_l_exchanged, defScope s_l_exchanged, [], []⟩
theorem bd_l_exchanged : Z.Bd d_l_exchanged p_l_exchanged 2 [] (fun _ vs _ => vs) := Z.Bd.plain rfl rfl rfl (fun _ _ _ _ _ _ us hl => match us, hl with | [_, _], _ => rfl)
abbrev s_l_named : Stmt := top 72
abbrev n_l_named : List Str := ["_law_pot_here", "_law_knots", "_law_cords", "_law_elder", "_law_tag", "_law_rows", "_law_other_here", "_law_spec_here", "_law_row", "_law_part", "_law_one"]
abbrev p_l_named : List Str := ["_law_pot_here", "_law_knots", "_law_cords"]
theorem sc_l_named : FnScope n_l_named p_l_named (defScope s_l_named) := ⟨rfl, rfl, rfl, by decide +kernel, rfl, by decide +kernel, by decide +kernel⟩
def d_l_named : He.DefD := ⟨("_law_named", none), "_law_named", "_law_named", defArgs s_l_named, defBody s_l_named, defScope s_l_named, [], []⟩
theorem bd_l_named : Z.Bd d_l_named p_l_named 3 [] (fun _ vs _ => vs) := Z.Bd.plain rfl rfl rfl (fun _ _ _ _ _ _ us hl => match us, hl with | [_, _, _], _ => rfl)
abbrev s_l_other : Stmt := top 73
abbrev n_l_other : List Str := ["_law_pot_here", "_law_knots", "_law_cords", "_law_way", "_law_at", "_law_tag", "_law_spec_here"]
abbrev p_l_other : List Str := ["_law_pot_here", "_law_knots", "_law_cords"]
theorem sc_l_other : FnScope n_l_other p_l_other (defScope s_l_other) := ⟨rfl, rfl, rfl, by decide +kernel, rfl, by decide +kernel, by decide +kernel⟩
def d_l_other : He.DefD := ⟨("_law_other", none), "_law_other", "_law_other", defArgs s_l_other, defBody s_l_other, defScope s_l_other, [], []⟩
theorem bd_l_other : Z.Bd d_l_other p_l_other 3 [] (fun _ vs _ => vs) := Z.Bd.plain rfl rfl rfl (fun _ _ _ _ _ _ us hl => match us, hl with | [_, _, _], _ => rfl)
abbrev s_law : Stmt := top 75
abbrev n_law : List Str := ["_law_script", "_law_k", "_law_pot_here", "_law_knots", "_law_cords", "_law_web", "_law_others", "_law_other_here", "_law_thing"]
abbrev p_law : List Str := ["_law_script"]
theorem sc_law : FnScope n_law p_law (defScope s_law) := ⟨rfl, rfl, rfl, by decide +kernel, rfl, by decide +kernel, by decide +kernel⟩
def d_law : He.DefD := ⟨("law", none), "law", "law", defArgs s_law, defBody s_law, defScope s_law, [], []⟩
theorem bd_law : Z.Bd d_law p_law 1 [] (fun _ vs _ => vs) := Z.Bd.plain rfl rfl rfl (fun _ _ _ _ _ _ us hl => match us, hl with | [_], _ => rfl)
theorem kb_Own_u__init_4 : Z.Bd d_Own_u__init p_Own_u__init 4 [] (fun K vs zs => Z.gP [0, 1, 2, 3, 6, 7, 8] (vs ++ ([V.ref (He.dflAt ("Own", some "__init__") 0 K), V.int 1, V.int 0] ++ (([V.int 0, V.int 0] : List V) ++ zs)))) := Z.Bd.c [("late", .int 0), ("begin", .int 0)] [0, 1, 2, 3, 6, 7, 8] (List.cons_ne_nil _ _) (List.cons_ne_nil _ _) (fun q h => by
  cases h with
  | head => exact (.head _)
  | tail _ h => cases h with
    | head => exact (.tail _ (.head _))
    | tail _ h => cases h) (fun T D doc pm an cdv ct us its mv ws l1 l2 l3 l4 => match us, its, mv, ws, l1, l2, l3, l4 with | [a0, a1, a2, a3], [i0, i1, i2], [m0, m1], [], _, _, _, _ => ⟨_, rfl, ⟨_, _, _, _, _, _, rfl, rfl, ⟨_, _, _, _, _, _, rfl, rfl, rfl⟩⟩⟩)
theorem kb_Resample_u__init_4 : Z.Bd d_Resample_u__init p_Resample_u__init 4 [] (fun K vs zs => Z.gP [0, 1, 2, 3, 4, 5] (vs ++ (([V.int 0, V.int 0] : List V) ++ zs))) := Z.Bd.b [("late", .int 0), ("begin", .int 0)] [0, 1, 2, 3, 4, 5] rfl (List.cons_ne_nil _ _) (fun q h => by
  cases h with
  | head => exact (.head _)
  | tail _ h => cases h with
    | head => exact (.tail _ (.head _))
    | tail _ h => cases h) (fun D doc pm an cdv ct us mv ws l1 l2 l3 => match us, mv, ws, l1, l2, l3 with | [a0, a1, a2, a3], [m0, m1], [], _, _, _ => ⟨_, _, _, _, _, _, rfl, rfl, ⟨_, _, _, _, _, _, rfl, rfl, rfl⟩⟩)
theorem kb_Up_u__init_2 : Z.Bd d_Up_u__init p_Up_u__init 2 [] (fun K vs zs => Z.gP [0, 1, 2, 3, 4] (vs ++ ([V.bl false] ++ (([V.int 0, V.int 0] : List V) ++ zs)))) := Z.Bd.c [("late", .int 0), ("begin", .int 0)] [0, 1, 2, 3, 4] (List.cons_ne_nil _ _) (List.cons_ne_nil _ _) (fun q h => by
  cases h with
  | head => exact (.head _)
  | tail _ h => cases h with
    | head => exact (.tail _ (.head _))
    | tail _ h => cases h) (fun T D doc pm an cdv ct us its mv ws l1 l2 l3 l4 => match us, its, mv, ws, l1, l2, l3, l4 with | [a0, a1], [i0], [m0, m1], [], _, _, _, _ => ⟨_, rfl, ⟨_, _, _, _, _, _, rfl, rfl, ⟨_, _, _, _, _, _, rfl, rfl, rfl⟩⟩⟩)
theorem kb_Down_u__init_2 : Z.Bd d_Down_u__init p_Down_u__init 2 [] (fun K vs zs => Z.gP [0, 1, 2, 3] (vs ++ (([V.int 0, V.int 0] : List V) ++ zs))) := Z.Bd.b [("late", .int 0), ("begin", .int 0)] [0, 1, 2, 3] rfl (List.cons_ne_nil _ _) (fun q h => by
  cases h with
  | head => exact (.head _)
  | tail _ h => cases h with
    | head => exact (.tail _ (.head _))
    | tail _ h => cases h) (fun D doc pm an cdv ct us mv ws l1 l2 l3 => match us, mv, ws, l1, l2, l3 with | [a0, a1], [m0, m1], [], _, _, _ => ⟨_, _, _, _, _, _, rfl, rfl, ⟨_, _, _, _, _, _, rfl, rfl, rfl⟩⟩)
theorem kb_Times_u__init_1 : Z.Bd d_Times_u__init p_Times_u__init 1 [] (fun K vs zs => Z.gP [0, 1, 2] (vs ++ (([V.int 0, V.int 0] : List V) ++ zs))) := Z.Bd.b [("late", .int 0), ("begin", .int 0)] [0, 1, 2] rfl (List.cons_ne_nil _ _) (fun q h => by
  cases h with
  | head => exact (.head _)
  | tail _ h => cases h with
    | head => exact (.tail _ (.head _))
    | tail _ h => cases h) (fun D doc pm an cdv ct us mv ws l1 l2 l3 => match us, mv, ws, l1, l2, l3 with | [a0], [m0, m1], [], _, _, _ => ⟨_, _, _, _, _, _, rfl, rfl, ⟨_, _, _, _, _, _, rfl, rfl, rfl⟩⟩)
theorem kb_Choose_u__init_1 : Z.Bd d_Choose_u__init p_Choose_u__init 1 [] (fun K vs zs => Z.gP [0, 1, 2] (vs ++ (([V.int 0, V.int 0] : List V) ++ zs))) := Z.Bd.b [("late", .int 0), ("begin", .int 0)] [0, 1, 2] rfl (List.cons_ne_nil _ _) (fun q h => by
  cases h with
  | head => exact (.head _)
  | tail _ h => cases h with
    | head => exact (.tail _ (.head _))
    | tail _ h => cases h) (fun D doc pm an cdv ct us mv ws l1 l2 l3 => match us, mv, ws, l1, l2, l3 with | [a0], [m0, m1], [], _, _, _ => ⟨_, _, _, _, _, _, rfl, rfl, ⟨_, _, _, _, _, _, rfl, rfl, rfl⟩⟩)
theorem kb_Mix_u__init_2 : Z.Bd d_Mix_u__init p_Mix_u__init 2 [] (fun K vs zs => Z.gP [0, 1, 2, 3] (vs ++ (([V.int 0, V.int 0] : List V) ++ zs))) := Z.Bd.b [("late", .int 0), ("begin", .int 0)] [0, 1, 2, 3] rfl (List.cons_ne_nil _ _) (fun q h => by
  cases h with
  | head => exact (.head _)
  | tail _ h => cases h with
    | head => exact (.tail _ (.head _))
    | tail _ h => cases h) (fun D doc pm an cdv ct us mv ws l1 l2 l3 => match us, mv, ws, l1, l2, l3 with | [a0, a1], [m0, m1], [], _, _, _ => ⟨_, _, _, _, _, _, rfl, rfl, ⟨_, _, _, _, _, _, rfl, rfl, rfl⟩⟩)
theorem kb_Gain_u__init_2_late_begin : Z.Bd d_Gain_u__init p_Gain_u__init 2 ["late", "begin"] (fun K vs zs => Z.gP [0, 1, 2, 3] (vs ++ (([] : List V) ++ zs))) := Z.Bd.b [] [0, 1, 2, 3] rfl (List.cons_ne_nil _ _) (fun q h => by
  cases h) (fun D doc pm an cdv ct us mv ws l1 l2 l3 => match us, mv, ws, l1, l2, l3 with | [a0, a1], [], [w0, w1], _, _, _ => rfl)
def fa : List He.Fa := [.cls "Inlet", .cls "Outlet", .cls "Gain", .cls "Mix", .cls "Times", .cls "Choose", .cls "Own", .cls "Up", .cls "Down", .cls "Resample", .noat "Inlet" "own_late", .noat "Inlet" "own_begin", .noat "Outlet" "own_late", .noat "Outlet" "own_begin", .noat "Gain" "own_late", .noat "Gain" "own_begin", .noat "Mix" "own_late", .noat "Mix" "own_begin", .noat "Times" "own_late", .noat "Times" "own_begin", .noat "Choose" "own_late", .noat "Choose" "own_begin", .noat "Own" "own_late", .noat "Own" "own_begin", .noat "Up" "own_late", .noat "Up" "own_begin", .noat "Down" "own_late", .noat "Down" "own_begin", .noat "Resample" "own_late", .noat "Resample" "own_begin", .cls "Weave", .free "max", .free "len", .free "divmod", .glo "_law_take", .free "list", .free "all", .str "LETTERS" "abcdefghijklmnopqrstuvwxyz", .int "MOST_LETTERS" 8, .free "isinstance", .free "str", .free "range", .free "bool", .free "int", .glo "is_whole_ramps", .glo "want", .glo "is_whole_from", .int "MOST_BEGIN" 9999, .int "MOST_LATE" 99, .int "MOST_RATE" 8, .int "MOST_TAKES" 4, .free "tuple", .glo "Node", .int "MOST_PLACES" 8, .glo "is_memory", .glo "are_takes", .glo "are_wholes", .int "MOST_TAPS" 12, .glo "is_name", .glo "is_whole_weaves", .int "MOST_DELAY" 9999, .glo "Outlet", .glo "want_known", .free "enumerate", .glo "Inlet", .glo "come_to", .glo "steps_onward", .glo "wires_into", .glo "want_wire", .glo "named_nodes", .int "MOST_WIRES" 48, .int "MOST_NODES" 24, .glo "Weave", .mkr "Inlet", .mkr "Outlet", .mkr "Own", .glo "Own", .glo "_law_deed", .mkr "Resample", .glo "Resample", .mkr "Up", .glo "Up", .mkr "Down", .glo "Down", .mkr "Times", .glo "Times", .mkr "Choose", .glo "Choose", .mkr "Mix", .glo "Mix", .mkr "Gain", .glo "Gain", .glo "_law_turned", .glo "_law_pick", .glo "_law_sources", .glo "_law_takes", .glo "_law_spec", .glo "_law_name", .free "repr", .glo "_law_made", .glo "_law_named", .glo "_law_exchanged", .mkr "Weave", .free "min", .glo "_law_right", .glo "_law_pairs", .glo "_law_other", .glo "_law_drawn", .glo "_law_pot", .noat "Gain" "own_by", .noat "Mix" "own_many", .noat "Own" "own_deed", .noat "Own" "own_first", .noat "Own" "own_gives", .noat "Own" "own_takes", .noat "Up" "own_hold", .noat "Up" "own_many", .noat "Down" "own_many", .noat "Resample" "own_down", .noat "Resample" "own_numbers", .noat "Resample" "own_up", .noat "Weave" "pairs", .noat "Weave" "by_name", .noat "Weave" "numbers", .noat "Weave" "rows", .glo "law"]
def fx : List Z.Fx := [Z.fxIns "Inlet", Z.fxKit "Inlet" "Node" true, Z.fxIns "Outlet", Z.fxKit "Outlet" "Node" true, Z.fxIns "Gain", Z.fxKit "Gain" "Node" true, Z.fxIns "Mix", Z.fxKit "Mix" "Node" true, Z.fxIns "Times", Z.fxKit "Times" "Node" true, Z.fxIns "Choose", Z.fxKit "Choose" "Node" true, Z.fxIns "Own", Z.fxKit "Own" "Node" true, Z.fxIns "Up", Z.fxKit "Up" "Node" true, Z.fxIns "Down", Z.fxKit "Down" "Node" true, Z.fxIns "Resample", Z.fxKit "Resample" "Node" true, Z.fxKit "Inlet" "Inlet" true, Z.fxKit "Outlet" "Inlet" false, Z.fxKit "Gain" "Inlet" false, Z.fxKit "Mix" "Inlet" false, Z.fxKit "Times" "Inlet" false, Z.fxKit "Choose" "Inlet" false, Z.fxKit "Own" "Inlet" false, Z.fxKit "Up" "Inlet" false, Z.fxKit "Down" "Inlet" false, Z.fxKit "Resample" "Inlet" false, Z.fxKit "Inlet" "Outlet" false, Z.fxKit "Outlet" "Outlet" true, Z.fxKit "Gain" "Outlet" false, Z.fxKit "Mix" "Outlet" false, Z.fxKit "Times" "Outlet" false, Z.fxKit "Choose" "Outlet" false, Z.fxKit "Own" "Outlet" false, Z.fxKit "Up" "Outlet" false, Z.fxKit "Down" "Outlet" false, Z.fxKit "Resample" "Outlet" false, Z.fxNFs ["Inlet", "Outlet", "Gain", "Mix", "Times", "Choose", "Own", "Up", "Down", "Resample"], Z.fxDist ["Inlet", "Outlet", "Gain", "Mix", "Times", "Choose", "Own", "Up", "Down", "Resample"], Z.fxKitB "NoneType" "Weave" false, Z.fxKitB "int" "Weave" false, Z.fxKitB "bool" "Weave" false, Z.fxKitB "str" "Weave" false, Z.fxKitB "list" "Weave" false, Z.fxKitB "tuple" "Weave" false, Z.fxKitB "dict" "Weave" false, Z.fxIns "Weave", Z.fxKit "Weave" "Weave" true, Z.fxNFt "Weave" ["NoneType", "int", "bool", "str", "list", "tuple", "dict"], Z.fxNeDef "Weave", Z.fxC "Node" "__init__", Z.fxM "Resample" "own_parts" "Resample", Z.fxM "Down" "own_parts" "Down", Z.fxM "Up" "own_parts" "Up", Z.fxM "Own" "own_parts" "Own", Z.fxM "Choose" "own_parts" "Node", Z.fxM "Times" "own_parts" "Node", Z.fxM "Mix" "own_parts" "Mix", Z.fxM "Gain" "own_parts" "Gain", Z.fxM "Outlet" "own_parts" "Node", Z.fxM "Inlet" "own_parts" "Node", Z.fxM "Resample" "sort_word" "Resample", Z.fxM "Down" "sort_word" "Down", Z.fxM "Up" "sort_word" "Up", Z.fxM "Own" "sort_word" "Own", Z.fxM "Choose" "sort_word" "Choose", Z.fxM "Times" "sort_word" "Times", Z.fxM "Mix" "sort_word" "Mix", Z.fxM "Gain" "sort_word" "Gain", Z.fxM "Outlet" "sort_word" "Outlet", Z.fxM "Inlet" "sort_word" "Inlet", Z.fxM "Resample" "takes" "Resample", Z.fxM "Down" "takes" "Down", Z.fxM "Up" "takes" "Node", Z.fxM "Own" "takes" "Own", Z.fxM "Choose" "takes" "Choose", Z.fxM "Times" "takes" "Times", Z.fxM "Mix" "takes" "Mix", Z.fxM "Gain" "takes" "Node", Z.fxM "Outlet" "takes" "Node", Z.fxM "Inlet" "takes" "Inlet", Z.fxM "Weave" "names" "Weave", Z.fxM "Weave" "inlets" "Weave", Z.fxM "Resample" "__eq__" "Node", Z.fxM "Down" "__eq__" "Node", Z.fxM "Up" "__eq__" "Node", Z.fxM "Own" "__eq__" "Node", Z.fxM "Choose" "__eq__" "Node", Z.fxM "Times" "__eq__" "Node", Z.fxM "Mix" "__eq__" "Node", Z.fxM "Gain" "__eq__" "Node", Z.fxM "Outlet" "__eq__" "Node", Z.fxM "Inlet" "__eq__" "Node", Z.fxM "Weave" "__eq__" "Weave", Z.fxM "Weave" "__len__" "Weave"]
def dl : List He.DefD := [d_l_pot, d_l_take, d_l_pick, d_l_turned, d_is_name, d_l_name, d_is_whole_ramps, d_is_whole_from, d_want, d_Node_u__init, d_are_takes, d_is_memory, d_are_wholes, d_Inlet_u__init, d_Outlet_u__init, d_Gain_u__init, d_Mix_u__init, d_Times_u__init, d_Choose_u__init, d_Own_u__init, d_Up_u__init, d_Down_u__init, d_Resample_u__init, d_Node_takes, d_Inlet_takes, d_Mix_takes, d_Times_takes, d_Choose_takes, d_Own_takes, d_Down_takes, d_Resample_takes, d_Node_gives, d_Outlet_gives, d_Own_gives, d_Up_gives, d_Resample_gives, d_Inlet_sort_word, d_Outlet_sort_word, d_Gain_sort_word, d_Mix_sort_word, d_Times_sort_word, d_Choose_sort_word, d_Own_sort_word, d_Up_sort_word, d_Down_sort_word, d_Resample_sort_word, d_Node_own_parts, d_Gain_own_parts, d_Mix_own_parts, d_Own_own_parts, d_Up_own_parts, d_Down_own_parts, d_Resample_own_parts, d_Node_u__eq, d_named_nodes, d_want_known, d_is_whole_weaves, d_want_wire, d_steps_onward, d_come_to, d_wires_into, d_Weave_names, d_Weave_inlets, d_Weave_u__init, d_Weave_u__len, d_Weave_wires, d_Weave_node, d_Weave_u__eq, d_l_sources, d_l_spec, d_l_takes, d_l_made, d_l_drawn, d_l_pairs, d_l_right, d_l_exchanged, d_l_named, d_l_other, d_law]
abbrev Ev (K : PySem.W.Frag) (mg : Str → Option Value) : Prop := Z.Ev fa fx dl K mg
abbrev R : PySem.W.OpenRow := PySem.W.OpenLaw.row PySem.Challenge.rw_sampleweave_k28_equal_and_long
abbrev hk : PySem.W.Hook := Z.hookX 4 fa fx dl
def obs (s : PySem.W.SharedT) : He.AlD := Z.obsXG 4 fa fx dl (HandSHeadRun.getT s)
theorem obs_eq (s : PySem.W.SharedT) : obs s = hk.obs s.abs := Z.obsXG_eq (HandSHeadRun.getT_eq s)
def names : List Str := (["_wall", "WeaveError", "NoNode", "TooMany", "NoName", "Twice", "Unknown", "NoPlace", "NoDelay", "Taken", "Bare", "Unfed", "Unlike", "is_whole", "is_whole_ramps", "is_whole_from", "MOST_LATE", "MOST_BEGIN", "MOST_PLACES", "MOST_RATE", "MOST_TAKES", "want", "Node", "Inlet", "Outlet", "Gain", "Mix", "Times", "Choose", "are_takes"] : List Str) ++ (["is_memory", "Own", "LETTERS", "MOST_LETTERS", "MOST_NODES", "MOST_WIRES", "MOST_DELAY", "is_name", "is_whole_weaves", "named_nodes", "want_known", "want_wire", "wires_into", "come_to", "steps_onward", "Weave", "MOST_TAPS", "are_wholes", "Up", "Down", "Resample", "_law_pot", "_law_take", "_law_name", "_law_spec", "_law_takes", "_law_deed", "_law_made", "_law_turned", "_law_sources"] : List Str) ++ (["_law_pick", "_law_drawn", "_law_pairs", "_law_exchanged", "_law_named", "_law_other", "_law_right"] : List Str)
theorem run (w : World) : HandSHeadRun.RunEq R (PySem.W.view R.prog [75]) hk obs 16000 names w := by
  intro os
  kernel_rfl


theorem divW {i m : Int} (h : 0 < m) (b : m.natAbs < 2 ^ 250) : CDivW i m := wide_div h b (by decide) (by decide)
theorem divP {i m : Int} (h : 0 < m) (b : m.natAbs < 2 ^ 250) : CDivP i m := Z.divP h b (by decide) (by decide)
/-- a pot: digits that are left, a number to mix, how often it was mixed -/
def Pot (H : Hp) (a : Addr) : Prop := ∃ x y z : Int, H a = some (.lst [.int x, .int y, .int z]) ∧ 0 ≤ y ∧ y < 4294967296
/-- tuples and instances stand -/
structure Kept (H H' : Hp) : Prop where
  t : ∀ r xs, H r = some (.tup xs) → H' r = some (.tup xs)
  i : ∀ r C dx fs, H r = some (.ins C dx fs) → H' r = some (.ins C dx fs)
/-- dicts, too -/
structure KeptD (H H' : Hp) : Prop extends Kept H H' where
  d : ∀ r kvs, H r = some (.dK kvs) → H' r = some (.dK kvs)
theorem ne_dl {H : Hp} {a b : Addr} {xs : List (Key × V)} {ys : List V} (h : H a = some (.dK xs)) (h' : H b = some (.lst ys)) : a ≠ b := fun e => by subst e; rw [h] at h'; cases h'
section
variable {H H1 H' : Hp} {a : Addr} {xs : List V} {o : HO}
theorem Kept.of (s : Same H H') : Kept H H' := ⟨fun _ _ h => s _ _ h, fun _ _ _ _ h => s _ _ h⟩
theorem Kept.but (b : Z.But a H H') (h : H a = some (.lst xs)) : Kept H H' := ⟨fun _ _ e => b.get (Z.ne_tl e h) e, fun _ _ _ _ e => b.get (Z.ne_il e h) e⟩
theorem Kept.butD {kvs : List (Key × V)} (b : Z.But a H H') (h : H a = some (.dK kvs)) : Kept H H' := ⟨fun _ _ e => b.get (fun z => by subst z; rw [h] at e; cases e) e, fun _ _ _ _ e => b.get (fun z => by subst z; rw [h] at e; cases e) e⟩
theorem Kept.up (u : Z.Up H a o H') (h : H a = some (.lst xs)) : Kept H H' := .but u.but h
theorem Kept.upD {kvs : List (Key × V)} (u : Z.Up H a o H') (h : H a = some (.dK kvs)) : Kept H H' := .butD u.but h
theorem Kept.trans (x : Kept H H1) (y : Kept H1 H') : Kept H H' := ⟨fun _ _ h => y.t _ _ (x.t _ _ h), fun _ _ _ _ h => y.i _ _ _ _ (x.i _ _ _ _ h)⟩
theorem Kept.refl : Kept H H := ⟨fun _ _ h => h, fun _ _ _ _ h => h⟩
theorem KeptD.of (s : Same H H') : KeptD H H' := ⟨.of s, fun _ _ h => s _ _ h⟩
theorem KeptD.but (b : Z.But a H H') (h : H a = some (.lst xs)) : KeptD H H' := ⟨.but b h, fun _ _ e => b.get (ne_dl e h) e⟩
theorem KeptD.trans (x : KeptD H H1) (y : KeptD H1 H') : KeptD H H' := ⟨x.toKept.trans y.toKept, fun _ _ h => y.d _ _ (x.d _ _ h)⟩
theorem Pot.keptD (p : Pot H a) (b : Z.But a H H') : KeptD H H' := by
  obtain ⟨x, y, z, h, _⟩ := p
  exact .but b h
theorem Pot.kept (p : Pot H a) (b : Z.But a H H') : Kept H H' := by
  obtain ⟨x, y, z, h, _⟩ := p
  exact .but b h
theorem Pot.ne {D : Addr} (p : Pot H a) (f : H D = none) : D ≠ a := by
  obtain ⟨x, y, z, h, _⟩ := p
  exact (L2.ne_of_none h f).symm
theorem Pot.mono (p : Pot H a) (s : Same H H') : Pot H' a := by
  obtain ⟨x, y, z, h, q⟩ := p
  exact ⟨x, y, z, s _ _ h, q⟩
theorem Pot.up {D : Addr} (p : Pot H a) (u : Z.Up H D o H') (ne : a ≠ D) : Pot H' a := by
  obtain ⟨x, y, z, h, q⟩ := p
  exact ⟨x, y, z, u.get ne h, q⟩
theorem Pot.but {D : Addr} (p : Pot H a) (u : Z.But D H H') (ne : a ≠ D) : Pot H' a := by
  obtain ⟨x, y, z, h, q⟩ := p
  exact ⟨x, y, z, u.get ne h, q⟩
end
theorem fresh_of {H H' : Hp} {p : Addr} (s : Same H H') (f : H' p = none) : H p = none := Z.free_back s f
theorem map_take_succ {α β : Type} (f : α → β) {xs : List α} {i : Nat} {x : α} (h : xs[i]? = some x) : (xs.take (i + 1)).map f = (xs.take i).map f ++ [f x] := by
  rw [List.take_add_one, h, List.map_append]; rfl
theorem ints_at {ns : List Int} {i : Nat} {v : V} (h : (ns.map V.int)[i]? = some v) : ∃ z, ns[i]? = some z ∧ v = .int z := by
  rw [List.getElem?_map] at h
  cases e : ns[i]? with
  | none => rw [e] at h; cases h
  | some z => rw [e] at h; exact ⟨z, rfl, (Option.some.inj h).symm⟩
theorem strs_at {ns : List Str} {i : Nat} {v : V} (h : (ns.map V.str)[i]? = some v) : ∃ z, ns[i]? = some z ∧ v = .str z := by
  rw [List.getElem?_map] at h
  cases e : ns[i]? with
  | none => rw [e] at h; cases h
  | some z => rw [e] at h; exact ⟨z, rfl, (Option.some.inj h).symm⟩
theorem pick {xs : List Int} {r : Int} (h0 : 0 ≤ r) (h1 : r < xs.length) : ∃ v, atI (xs.map V.int) r = some (.int v) ∧ xs[r.toNat]? = some v := by
  obtain ⟨n, rfl⟩ : ∃ n : Nat, r = n := ⟨r.toNat, by omega⟩
  have hn : n < xs.length := by omega
  refine ⟨xs[n], atI_nat (by rw [List.getElem?_map, List.getElem?_eq_getElem hn]; rfl), by simp⟩
theorem pickV {xs : List V} {r : Int} (h0 : 0 ≤ r) (h1 : r < xs.length) : ∃ v, atI xs r = some v ∧ xs[r.toNat]? = some v := by
  obtain ⟨n, rfl⟩ : ∃ n : Nat, r = n := ⟨r.toNat, by omega⟩
  have hn : n < xs.length := by omega
  refine ⟨xs[n], atI_nat (List.getElem?_eq_getElem hn), by simp⟩
theorem take_snoc {α : Type} {xs : List α} {i : Nat} {x : α} (h : xs[i]? = some x) : xs.take (i + 1) = xs.take i ++ [x] := by
  rw [List.take_add_one, h]; rfl
theorem erase_perm {α : Type} : ∀ {xs : List α} {m : Nat} {v : α}, xs[m]? = some v → (v :: xs.eraseIdx m).Perm xs
  | [], _, _, h => by simp at h
  | x :: xs, 0, v, h => by
    simp at h
    subst h
    exact .refl _
  | x :: xs, m + 1, v, h => by
    simp at h
    rw [List.eraseIdx_cons_succ]
    exact (List.Perm.swap x v _).trans ((erase_perm h).cons x)
def nats (ts : List Nat) : List Int := ts.map fun n => ((n : Nat) : Int)


theorem flat_prs {H : Hp} : ∀ ns : List Int, Prs DFlat (ns.map V.int) (ns.map V.int) H
  | [] => Prs.nil
  | n :: ns => Prs.cons ⟨rfl, rfl, by simp [eqV]⟩ (flat_prs ns)

def sp_l_pot (K : PySem.W.Frag) : Sp := fun vz H Q Ex => ∃ (s0 : Addr) (ns : List Int) (i : Nat), vz = [.ref s0, .int (i : Int)] ∧ (SqL K H s0 (ns.map V.int)) ∧ (i < 64) ∧ (∀ p H', H p = none → Same H H' → Pot H' p → Q (.ref p) H')
theorem c_l_pot {K : PySem.W.Frag} {H : Hp} {Q : VK} {Ex : XK} {s0 : Addr} {ns : List Int} {i : Nat} (h1 : SqL K H s0 (ns.map V.int)) (h2 : i < 64) (k : ∀ p H', H p = none → Same H H' → Pot H' p → Q (.ref p) H') : sp_l_pot K [.ref s0, .int (i : Int)] H Q Ex := ⟨s0, ns, i, rfl, h1, h2, k⟩
theorem ok_l_pot {g : Prop} {P : Program} {w : World} {K : PySem.W.Frag} {mg : Str → Option Value} {base : Heap} (E : Ev K mg) : Z.Pr g P w K mg base 1 (He.ga K "_law_pot") d_l_pot p_l_pot (sp_l_pot K) := by
  obtain ⟨fd, FD⟩ := E.fn 0 (d := d_l_pot)
  refine ⟨fd, FD, Z.FunD.okG FD sc_l_pot (fun vz H Q Ex h => ?_) (fun cdv A outer s H vz Q Ex hr hgd h => ?_)⟩
  · obtain ⟨_, _, _, rfl, _⟩ := h
    rfl
  · have hu := hr.units
    obtain ⟨s0, ns, i, rfl, h1, h2, k⟩ := h
    refine ⟨_, (Z.zs_cons (Z.z_set (i := 2) sc_l_pot.nd rfl (Or.inl rfl) (pe_ifExp (pt_cmpR op_lt (pv 1) (pe_callB (Z.clenK K rfl) (by rfl) (E.free 32) (by decide +kernel) (pa_cons (pv 0) pa_nil)) (nomark _)) (pe_ix (Z.ixUK K rfl) (pv 0) (pv 1) (fun _ _ => rfl)) pe_int))
   (Z.zs_one (Z.z_ret (pe_lst (pa_cons (pe_callB (Z.cmax2 rfl) (by rfl) (E.free 31) (by decide +kernel) (pa_cons pe_int (pa_cons (pe_op op_sub (pv 2) (pe_op op_pow pe_int pe_int)) pa_nil))) (pa_cons (pe_op op_mod (pe_op op_pow (pe_op (Z.opAddK K rfl) (pe_op (Z.opMulK K rfl) (pe_op op_mod (pv 2) pe_int) pe_int) (pe_op (Z.opMulK K rfl) pe_int (pe_op (Z.opAddK K rfl) (pv 1) pe_int))) pe_int) pe_int) (pa_cons pe_int pa_nil))))))), ?_⟩
    refine Z.i_start (σ := [some (.ref s0), some (.int (i : Int)), none]) rfl ?_
    try dsimp only [Z.cxK]
    k_call_by "za" 0
    refine Z.ite2' (fun hx => ?_) (fun hx => ?_)
    · k_call_by "za" 0
      obtain ⟨z, hz⟩ : ∃ z, ns[i]? = some z := ⟨ns[i]'(by omega), by simp⟩
      refine Z.i_ixQ h1 (atI_nat (by rw [List.getElem?_map, hz]; rfl)) ?_
      k_call_by "za" 0
      rename_i p H1 n1
      exact k p H1 n1.fr n1.same ⟨_, _, _, n1.at, Int.emod_nonneg _ (by decide), Int.lt_trans (Int.emod_lt_of_pos _ (by decide)) (by decide)⟩
    · k_call_by "za" 0
      rename_i p H1 n1
      exact k p H1 n1.fr n1.same ⟨_, _, _, n1.at, Int.emod_nonneg _ (by decide), Int.lt_trans (Int.emod_lt_of_pos _ (by decide)) (by decide)⟩
def sp_l_take (K : PySem.W.Frag) : Sp := fun vz H Q Ex => ∃ (a : Addr) (m : Int), vz = [.ref a, .int m] ∧ (Pot H a) ∧ (0 < m) ∧ (m.natAbs < 2 ^ 250) ∧ (∀ r H', 0 ≤ r → r < m → Pot H' a → Z.But a H H' → Q (.int r) H')
theorem c_l_take {K : PySem.W.Frag} {H : Hp} {Q : VK} {Ex : XK} {a : Addr} {m : Int} (h1 : Pot H a) (h2 : 0 < m) (h3 : m.natAbs < 2 ^ 250) (k : ∀ r H', 0 ≤ r → r < m → Pot H' a → Z.But a H H' → Q (.int r) H') : sp_l_take K [.ref a, .int m] H Q Ex := ⟨a, m, rfl, h1, h2, h3, k⟩
theorem ok_l_take {g : Prop} {P : Program} {w : World} {K : PySem.W.Frag} {mg : Str → Option Value} {base : Heap} (E : Ev K mg) : Z.Pr g P w K mg base 1 (He.ga K "_law_take") d_l_take p_l_take (sp_l_take K) := by
  obtain ⟨fd, FD⟩ := E.fn 1 (d := d_l_take)
  refine ⟨fd, FD, Z.FunD.okG FD sc_l_take (fun vz H Q Ex h => ?_) (fun cdv A outer s H vz Q Ex hr hgd h => ?_)⟩
  · obtain ⟨_, _, rfl, _⟩ := h
    rfl
  · have hu := hr.units
    obtain ⟨a, m, rfl, h1, h2, h3, k⟩ := h
    refine ⟨_, (Z.zs_cons (Z.z_if (pt_cmpR op_gt (pe_ix (Z.ixUK K rfl) (pv 0) pe_int (fun _ _ => rfl)) pe_int (nomark _)) (Z.zs_cons (Z.z_asg (pe_callB Z.cdivmod (by rfl) (E.free 33) (by decide +kernel) (pa_cons (pe_ix (Z.ixUK K rfl) (pv 0) pe_int (fun _ _ => rfl)) (pa_cons (pv 1) pa_nil))) (pg_tup (n := 2) (by rfl) (pgs_cons (pg_sub (pv 0) pe_int set_list) (pgs_cons (pg_name (i := 2) sc_l_take.nd rfl (Or.inl rfl)) pgs_nil))))
   (Z.zs_one (Z.z_ret (pv 2)))) Z.zs_nil)
   (Z.zs_cons (Z.z_asg (pe_op (Z.opAddK K rfl) (pe_ix (Z.ixUK K rfl) (pv 0) pe_int (fun _ _ => rfl)) pe_int) (pg_sub (pv 0) pe_int set_list))
   (Z.zs_cons (Z.z_asg (pe_op op_mod (pe_op (Z.opAddK K rfl) (pe_op (Z.opMulK K rfl) (pe_ix (Z.ixUK K rfl) (pv 0) pe_int (fun _ _ => rfl)) pe_int) (pe_op (Z.opMulK K rfl) pe_int (pe_ix (Z.ixUK K rfl) (pv 0) pe_int (fun _ _ => rfl)))) pe_int) (pg_sub (pv 0) pe_int set_list))
   (Z.zs_one (Z.z_ret (pe_op op_mod (pe_op op_fdivW (pe_op op_mod (pe_op (Z.opMulK K rfl) (pe_ix (Z.ixUK K rfl) (pv 0) pe_int (fun _ _ => rfl)) (pe_ix (Z.ixUK K rfl) (pv 0) pe_int (fun _ _ => rfl))) pe_int) pe_int) (pv 1))))))), ?_⟩
    refine Z.i_start (σ := [some (.ref a), some (.int m), none]) rfl ?_
    try dsimp only [Z.cxK]
    obtain ⟨x, y, z, hp, hy0, hy1⟩ := h1
    k_call_by "za" 0
    refine Z.ite2' (fun hx => ?_) (fun hx => ?_)
    · k_call_by "za" 0
      refine Z.i_divmod (divP h2 h3) ?_
      k_call_by "za" 0
      rename_i r1 H1 n1 H2 u2
      exact k _ _ (Int.emod_nonneg _ (by omega)) (Int.emod_lt_of_pos _ h2) ⟨_, _, _, u2.at, hy0, hy1⟩ (by k_call_by "fr" 0)
    · k_call_by "za" 0
      rename_i H2 u2 H1 u1
      have e0 : 0 ≤ (y * 69621 + 15487 * (z + 1)) % 2147483629 := Int.emod_nonneg _ (by decide)
      have e1 : (y * 69621 + 15487 * (z + 1)) % 2147483629 < 2147483629 := Int.emod_lt_of_pos _ (by decide)
      exact k _ _ (Int.emod_nonneg _ (by omega)) (Int.emod_lt_of_pos _ h2) ⟨_, _, _, u1.at, e0, by omega⟩ (by k_call_by "fr" 0)
def sp_l_pick (K : PySem.W.Frag) : Sp := fun vz H Q Ex => ∃ (a q : Addr) (xs : List V), vz = [.ref a, .ref q] ∧ (Pot H a) ∧ (H q = some (.lst xs)) ∧ (xs ≠ []) ∧ (xs.length ≤ 1000) ∧ (a ≠ q) ∧ (∀ v H', v ∈ xs → Pot H' a → Z.But a H H' → Q v H')
theorem c_l_pick {K : PySem.W.Frag} {H : Hp} {Q : VK} {Ex : XK} {a q : Addr} {xs : List V} (h1 : Pot H a) (h2 : H q = some (.lst xs)) (h3 : xs ≠ []) (h4 : xs.length ≤ 1000) (h5 : a ≠ q) (k : ∀ v H', v ∈ xs → Pot H' a → Z.But a H H' → Q v H') : sp_l_pick K [.ref a, .ref q] H Q Ex := ⟨a, q, xs, rfl, h1, h2, h3, h4, h5, k⟩
theorem ok_l_pick {g : Prop} {P : Program} {w : World} {K : PySem.W.Frag} {mg : Str → Option Value} {base : Heap} (E : Ev K mg) : Z.Pr g P w K mg base 2 (He.ga K "_law_pick") d_l_pick p_l_pick (sp_l_pick K) := by
  obtain ⟨fd, FD⟩ := E.fn 2 (d := d_l_pick)
  refine ⟨fd, FD, Z.FunD.okG FD sc_l_pick (fun vz H Q Ex h => ?_) (fun cdv A outer s H vz Q Ex hr hgd h => ?_)⟩
  · obtain ⟨_, _, _, rfl, _⟩ := h
    rfl
  · have hu := hr.units
    obtain ⟨a, q, xs, rfl, h1, h2, h3, h4, h5, k⟩ := h
    have F_l_take := ok_l_take (g := g) (P := P) (w := w) (base := base) E
    refine ⟨_, (Z.zs_one (Z.z_ret (pe_ix (Z.ixUK K rfl) (pv 1) (Z.pe_f F_l_take (hr.mono (by decide)) hgd (by rfl) (E.glo 34) bd_l_take (passL) (pa_cons (pv 0) (pa_cons (pe_callB (Z.clenK K rfl) (by rfl) (E.free 32) (by decide +kernel) (pa_cons (pv 1) pa_nil)) pa_nil))) (fun _ _ => rfl)))), ?_⟩
    refine Z.i_start (σ := [some (.ref a), some (.ref q)]) rfl ?_
    try dsimp only [Z.cxK]
    have hp : 0 < xs.length := List.length_pos_iff.mpr h3
    k_call_by "za" 0
    refine c_l_take h1 (by omega) (Nat.lt_of_le_of_lt (m := 1000) (by omega) (by decide)) fun r H1 r0 r1 p1 b1 => ?_
    obtain ⟨v, hv, ev⟩ := pickV r0 r1
    refine Z.i_ixL (b1.get h5.symm h2) hv ?_
    exact k v H1 (List.mem_of_getElem? ev) p1 b1
def sp_l_turned (K : PySem.W.Frag) : Sp := fun vz H Q Ex => ∃ (a q : Addr) (xs : List V), vz = [.ref a, .ref q] ∧ (Pot H a) ∧ (H q = some (.lst xs)) ∧ (xs.length ≤ 1000) ∧ (∀ p ys H', ys.Perm xs → H p = none → H' p = some (.lst ys) → Pot H' a → Z.But a H H' → Q (.ref p) H')
theorem c_l_turned {K : PySem.W.Frag} {H : Hp} {Q : VK} {Ex : XK} {a q : Addr} {xs : List V} (h1 : Pot H a) (h2 : H q = some (.lst xs)) (h3 : xs.length ≤ 1000) (k : ∀ p ys H', ys.Perm xs → H p = none → H' p = some (.lst ys) → Pot H' a → Z.But a H H' → Q (.ref p) H') : sp_l_turned K [.ref a, .ref q] H Q Ex := ⟨a, q, xs, rfl, h1, h2, h3, k⟩
theorem ok_l_turned {g : Prop} {P : Program} {w : World} {K : PySem.W.Frag} {mg : Str → Option Value} {base : Heap} (E : Ev K mg) : Z.Pr g P w K mg base 2 (He.ga K "_law_turned") d_l_turned p_l_turned (sp_l_turned K) := by
  obtain ⟨fd, FD⟩ := E.fn 3 (d := d_l_turned)
  refine ⟨fd, FD, Z.FunD.okG FD sc_l_turned (fun vz H Q Ex h => ?_) (fun cdv A outer s H vz Q Ex hr hgd h => ?_)⟩
  · obtain ⟨_, _, _, rfl, _⟩ := h
    rfl
  · have hu := hr.units
    obtain ⟨a, q, xs, rfl, h1, h2, h3, k⟩ := h
    have F_l_take := ok_l_take (g := g) (P := P) (w := w) (base := base) E
    refine ⟨_, (Z.zs_cons (Z.z_par (i := 2) (j := 3) rfl sc_l_turned.nd rfl rfl (by decide) rfl rfl (pa_cons (pe_callTy (Z.clistK K rfl) (by rfl) (E.free 35) (by decide +kernel) (pa_cons (pv 1) pa_nil)) (pa_cons (pe_lst pa_nil) pa_nil)) (by rfl))
   (Z.zs_cons (Z.z_while (passes_of rfl) (pt_cmpR (Z.opNe0 K rfl hu) (pv 2) (pe_lst pa_nil) (nomark _))
   (Z.zs_one (Z.z_expr (pe_bm PySem.F.plainAttrs_list PySem.F.slot_list_append PySem.F.type_list_append mt_append (pv 3) (pa_cons (pe_bm PySem.F.plainAttrs_list PySem.F.slot_list_pop PySem.F.type_list_pop mt_popAt (pv 2) (pa_cons (Z.pe_f F_l_take (hr.mono (by decide)) hgd (by rfl) (E.glo 34) bd_l_take (passL) (pa_cons (pv 0) (pa_cons (pe_callB (Z.clenK K rfl) (by rfl) (E.free 32) (by decide +kernel) (pa_cons (pv 2) pa_nil)) pa_nil))) pa_nil)) pa_nil)))))
   (Z.zs_one (Z.z_ret (pv 3))))), ?_⟩
    refine Z.i_start (σ := [some (.ref a), some (.ref q), none, none]) rfl ?_
    try dsimp only [Z.cxK]
    k_call_by "za" 0
    rename_i l H1 n1 f H2 n2
    have la : l ≠ a := h1.ne n1.fr
    have fa : f ≠ a := (h1.mono n1.same).ne n2.fr
    have lf : l ≠ f := n2.ne n1.at
    have fl : H l = none := n1.fr
    have ff : H f = none := fresh_of n1.same n2.fr
    refine Z.i_while (fun σ H' => σ = [some (.ref a), some (.ref q), some (.ref l), some (.ref f)] ∧ ∃ ls fs, H' l = some (.lst ls) ∧ H' f = some (.lst fs) ∧ (fs ++ ls).Perm xs ∧ Pot H' a ∧ (∀ b u, b ≠ a → H b = some u → H' b = some u)) (fun σ H' => match H' l with
      | some (.lst ls) => ls.length
      | _ => 0) ?_ ?_
    · exact ⟨rfl, xs, [], n2.get n1.at, n2.at, .refl _, (h1.mono n1.same).mono n2.same, fun b u _ h => n2.get (n1.get h)⟩
    · rintro σ H3 ⟨rfl, ls, fs, hl, hf, pm, p3, b3⟩
      have ll : ls.length ≤ 1000 := by have := pm.length_eq; rw [List.length_append] at this; omega
      k_call_by "za" 0
      rename_i e H4 n4
      cases ls with
      | nil =>
        refine Z.ifF rfl ?_
        k_call_by "za" 0
        exact k f fs _ (by simpa using pm) ff (n4.get hf) (p3.mono n4.same) ⟨fun b u ne h => n4.get (b3 b u ne h)⟩
      | cons l0 ls =>
        refine Z.ifT rfl ?_
        refine Z.i_body ?_
        k_call_by "za" 0
        have hl4 := n4.get hl
        have hf4 := n4.get hf
        refine c_l_take (p3.mono n4.same) (by rw [List.length_cons]; omega) (Nat.lt_of_le_of_lt (m := 1000) (by omega) (by decide)) fun r H5 r0 r1 p5 b5 => ?_
        obtain ⟨m, rfl⟩ : ∃ m : Nat, r = m := ⟨r.toNat, by omega⟩
        obtain ⟨v, ev⟩ : ∃ v, (l0 :: ls)[m]? = some v := ⟨_, List.getElem?_eq_getElem (by omega)⟩
        have hl5 := b5.get la hl4
        have hf5 := b5.get fa hf4
        k_call_by "za" 0
        refine Z.i_popAt hl5 ev (by omega) fun H6 u6 => ?_
        have hf6 := u6.get lf.symm hf5
        have pl := pm.length_eq
        rw [List.length_append] at pl
        k_call_by "za" 0
        rename_i H7 u7
        have hl7 := u7.get lf u6.at
        refine ⟨⟨rfl, _, _, hl7, u7.at, ?_, (p5.up u6 la.symm).up u7 fa.symm, ?_⟩, ?_⟩
        · refine List.Perm.trans ?_ pm
          rw [List.append_assoc]
          refine List.Perm.append_left fs ?_
          exact erase_perm ev
        · intro b u ne h
          exact u7.get (L2.ne_of_none h ff) (u6.get (L2.ne_of_none h fl) (b5.get ne (n4.get (b3 b u ne h))))
        · rw [hl7, hl]
          simp only
          rw [List.length_eraseIdx]
          have : m < (l0 :: ls).length := by omega
          rw [if_pos this]
          omega

def letters : Str := "abcdefghijklmnopqrstuvwxyz"
theorem letters_eq : letters.cps.toList = (List.range 26).map (· + 97) := by decide +kernel
theorem letters_mem (c : Nat) : (c ∈ letters.cps.toList) ↔ (97 ≤ c ∧ c ≤ 122) := by
  rw [letters_eq]
  constructor
  · intro h
    obtain ⟨x, hx, rfl⟩ := List.mem_map.mp h
    have := List.mem_range.mp hx
    omega
  · intro h
    exact List.mem_map.mpr ⟨c - 97, List.mem_range.mpr (by omega), by omega⟩
def isNm (a : Str) : Prop := (1 ≤ a.cps.toList.length ∧ a.cps.toList.length ≤ 8) ∧ ∀ c ∈ a.cps.toList, 97 ≤ c ∧ c ≤ 122
def nmB (a : Str) : Bool := decide (1 ≤ a.cps.toList.length ∧ a.cps.toList.length ≤ 8) && a.cps.toList.all fun c => decide (97 ≤ c ∧ c ≤ 122)
theorem isNm.b {a : Str} (h : isNm a) : nmB a = true := by
  unfold nmB
  rw [decide_eq_true h.1, Bool.true_and, List.all_eq_true]
  exact fun c hc => decide_eq_true (h.2 c hc)
theorem slen (a : Str) : a.length = a.cps.toList.length := by simp [Str.length]

def sp_is_name (K : PySem.W.Frag) : Sp := fun vz H Q Ex => ∃ (a : Str), vz = [.str a] ∧ (a.cps.toList.length ≤ 1000) ∧ (∀ H', Same H H' → Q (.bl (nmB a)) H')
theorem c_is_name {K : PySem.W.Frag} {H : Hp} {Q : VK} {Ex : XK} {a : Str} (h1 : a.cps.toList.length ≤ 1000) (k : ∀ H', Same H H' → Q (.bl (nmB a)) H') : sp_is_name K [.str a] H Q Ex := ⟨a, rfl, h1, k⟩
theorem ok_is_name {g : Prop} {P : Program} {w : World} {K : PySem.W.Frag} {mg : Str → Option Value} {base : Heap} (E : Ev K mg) : Z.Pr g P w K mg base 1 (He.ga K "is_name") d_is_name p_is_name (sp_is_name K) := by
  obtain ⟨fd, FD⟩ := E.fn 4 (d := d_is_name)
  refine ⟨fd, FD, Z.FunD.okG FD sc_is_name (fun vz H Q Ex h => ?_) (fun cdv A outer s H vz Q Ex hr hgd h => ?_)⟩
  · obtain ⟨_, rfl, _⟩ := h
    rfl
  · have hu := hr.units
    obtain ⟨a, rfl, h1, k⟩ := h
    refine ⟨_, (Z.zs_cons (Z.z_if (PW.pt (pw_or (pt_not (pt_val (pe_callB (Z.cisiK K rfl) (by rfl) (E.free 39) (by decide +kernel) (pa_cons (pv 0) (pa_cons (pe_bltn (v := .ty "str") (u := .type "str") (by rfl) (E.free 40) (by decide +kernel) rfl) pa_nil))))) (pw_or1 (pt_not (pt_chain op_le op_le pe_int (pe_callB Z.clenS (by rfl) (E.free 32) (by decide +kernel) (pa_cons (pv 0) pa_nil)) (Z.pe_gint rfl (E.int 38))))))) (Z.zs_one (Z.z_ret pe_bl)) Z.zs_nil)
   (Z.zs_one (Z.z_ret (pe_callB (Z.callK K rfl rfl) (by rfl) (E.free 36) (by decide +kernel) (pa_cons (pe_lc (own := [("sign", 1)]) (g := gName 1) rfl sc_is_name.nd (pi_str (pv 0)) (blkOk_by (own := [("sign", 1)]) (N := n_is_name) (sc := (defScope s_is_name)) (by decide +kernel)) (fun _ _ _ _ _ => (pg_name (i := 1) sc_is_name.nd rfl (Or.inl rfl))) (fun _ _ _ _ _ => pts_nil) (fun _ _ _ _ _ => (pe_cmpR (Z.opIn K rfl hr) (pv 1) (Z.pe_gstr rfl (E.str 37)) rfl))) pa_nil))))), ?_⟩
    refine Z.i_start (σ := [some (.str a), none]) rfl ?_
    try dsimp only [Z.cxK]
    k_call_by "za" 0
    refine Z.i_lenS (by rw [slen]; omega) ?_
    k_call_by "za" 0
    have l0 : a.length = a.cps.toList.length := slen a
    refine Z.ite2' (fun hx => ?_) (fun hx => ?_)
    · k_call_by "za" 0
      by_cases hy : (a.length : Int) ≤ 8
      case neg =>
        refine Z.itnT hy ?_
        k_call_by "za" 0
        have e : nmB a = false := by unfold nmB; rw [decide_eq_false (by omega)]; rfl
        rw [← e]
        exact k _ (Same.refl _)
      case pos =>
        refine Z.itnF hy ?_
        k_call_by "za" 0
        refine Z.comp_str (fun i acc H' => acc = ((a.cps.toList.take i).map fun c => decide (97 ≤ c ∧ c ≤ 122)).map V.bl ∧ Same H H') ?_ ?_ ?_
        · intro D H' n
          exact ⟨rfl, n.same⟩
        · rintro D i acc c H2 fD hc hD ⟨rfl, s2⟩
          k_call_by "za" 0
          refine Z.i_end hD (by simp only [List.length_map, List.length_take, sizeLine_eq]; omega) fun H6 u => ⟨?_, by k_call_by "fr" 0⟩
          rw [take_snoc hc, List.map_append, List.map_append, show decide (c ∈ (Str.ofString "abcdefghijklmnopqrstuvwxyz").cps.toList) = decide (97 ≤ c ∧ c ≤ 122) from decide_eq_decide.mpr (letters_mem c)]
          rfl
        · rintro D acc H2 fD hD ⟨rfl, s2⟩
          k_call_by "za" 0
          have e : nmB a = ((a.cps.toList.take a.cps.toList.length).map fun c => decide (97 ≤ c ∧ c ≤ 122)).all id := by
            unfold nmB
            rw [decide_eq_true (by omega), Bool.true_and, List.take_length, List.all_map]; rfl
          rw [← e]
          exact k _ s2
    · k_call_by "za" 0
      have e : nmB a = false := by unfold nmB; rw [decide_eq_false (by omega)]; rfl
      rw [← e]
      exact k _ (Same.refl _)
theorem W_is_name {K : PySem.W.Frag} {H : Hp} {Q : VK} {Ex : XK} {a : Str} (h : a.cps.toList.length ≤ 1000) (k : ∀ H', Same H H' → Q (.bl (nmB a)) H') : sp_is_name K [.str a] H Q Ex := c_is_name h k

theorem cut8 (a : Str) : (cutS a none (some 8)).cps.toList = a.cps.toList.take 8 := by
  unfold cutS
  rw [HT.sIx_none, show HT.sIx a.length a.length (some 8) = min 8 a.length from HT.sIx_nat _ _ 8, List.drop_zero, Nat.sub_zero, slen]
  by_cases h : 8 ≤ a.cps.toList.length
  · rw [Nat.min_eq_left h]
  · rw [Nat.min_eq_right (by omega), List.take_length, List.take_of_length_le (by omega)]
theorem app_cps (a b : Str) : (a ++ b).cps.toList = a.cps.toList ++ b.cps.toList := by
  show (Str.append a b).cps.toList = _
  simp [Str.append]
theorem str_ext {a b : Str} (h : a.cps.toList = b.cps.toList) : a = b := by
  cases a; cases b
  congr 1
  exact Array.toList_inj.mp h
theorem one_nm {c : Nat} (h : 97 ≤ c ∧ c ≤ 122) : isNm ⟨#[c]⟩ := ⟨⟨Nat.le_refl 1, Nat.le_of_ble_eq_true rfl⟩, fun x hx => by
  have : x = c := by simpa using hx
  subst this; exact h⟩
theorem join_ones : ∀ cs : List Nat, (Str.join ⟨#[]⟩ (cs.map fun c => (⟨#[c]⟩ : Str))).cps.toList = cs
  | [] => rfl
  | [c] => rfl
  | c :: d :: cs => by
    have ih := join_ones (d :: cs)
    show (((⟨#[c]⟩ : Str) ++ ⟨#[]⟩) ++ Str.join ⟨#[]⟩ ((d :: cs).map fun c => (⟨#[c]⟩ : Str))).cps.toList = _
    rw [app_cps, app_cps, ih]
    rfl
theorem nodup_le {α : Type} [DecidableEq α] : ∀ {xs ys : List α}, xs.Nodup → (∀ x ∈ xs, x ∈ ys) → xs.length ≤ ys.length
  | [], _, _, _ => Nat.zero_le _
  | x :: xs, ys, nd, h => by
    have hx := h x List.mem_cons_self
    have nd' := List.nodup_cons.mp nd
    have ih := nodup_le (ys := ys.erase x) nd'.2 (fun z hz => (List.mem_erase_of_ne (fun e => nd'.1 (by rw [← e]; exact hz))).mpr (h z (List.mem_cons_of_mem _ hz)))
    rw [List.length_erase_of_mem hx] at ih
    have : 0 < ys.length := List.length_pos_of_mem hx
    rw [List.length_cons]; omega
theorem exists_free {ys : List Str} (h : ys.length ≤ 25) : ∃ c, c ∈ letters.cps.toList ∧ (⟨#[c]⟩ : Str) ∉ ys := by
  rcases Classical.em (∃ c, c ∈ letters.cps.toList ∧ (⟨#[c]⟩ : Str) ∉ ys) with z | z
  · exact z
  exfalso
  have sub : ∀ x ∈ letters.cps.toList.map (fun c => (⟨#[c]⟩ : Str)), x ∈ ys := by
    intro x hx
    obtain ⟨c, hc, rfl⟩ := List.mem_map.mp hx
    exact Classical.byContradiction fun n => z ⟨c, hc, n⟩
  have nd : (letters.cps.toList.map (fun c => (⟨#[c]⟩ : Str))).Nodup := by rw [letters_eq]; decide +kernel
  have l := nodup_le nd sub
  rw [List.length_map, letters_eq] at l
  simp at l
  omega

def sp_l_name (K : PySem.W.Frag) : Sp := fun vz H Q Ex => ∃ (a q : Addr) (ys : List Str), vz = [.ref a, .ref q] ∧ (Pot H a) ∧ (H q = some (.lst (ys.map V.str))) ∧ (ys.length ≤ 25) ∧ (∀ y ∈ ys, isNm y) ∧ (a ≠ q) ∧ (∀ t H', isNm t → t ∉ ys → Pot H' a → Z.But a H H' → Q (.str t) H')
theorem c_l_name {K : PySem.W.Frag} {H : Hp} {Q : VK} {Ex : XK} {a q : Addr} {ys : List Str} (h1 : Pot H a) (h2 : H q = some (.lst (ys.map V.str))) (h3 : ys.length ≤ 25) (h4 : ∀ y ∈ ys, isNm y) (h5 : a ≠ q) (k : ∀ t H', isNm t → t ∉ ys → Pot H' a → Z.But a H H' → Q (.str t) H') : sp_l_name K [.ref a, .ref q] H Q Ex := ⟨a, q, ys, rfl, h1, h2, h3, h4, h5, k⟩
theorem ok_l_name {g : Prop} {P : Program} {w : World} {K : PySem.W.Frag} {mg : Str → Option Value} {base : Heap} (E : Ev K mg) : Z.Pr g P w K mg base 2 (He.ga K "_law_name") d_l_name p_l_name (sp_l_name K) := by
  obtain ⟨fd, FD⟩ := E.fn 5 (d := d_l_name)
  refine ⟨fd, FD, Z.FunD.okG FD sc_l_name (fun vz H Q Ex h => ?_) (fun cdv A outer s H vz Q Ex hr hgd h => ?_)⟩
  · obtain ⟨_, _, _, rfl, _⟩ := h
    rfl
  · have hu := hr.units
    obtain ⟨a, q, ys, rfl, h1, h2, h3, h4, h5, k⟩ := h
    have F_l_take := ok_l_take (g := g) (P := P) (w := w) (base := base) E
    refine ⟨_, (Z.zs_cons (Z.z_set (i := 2) sc_l_name.nd rfl (Or.inr rfl) pe_str)
   (Z.zs_cons (Z.z_set (i := 3) sc_l_name.nd rfl (Or.inl rfl) (pe_ix (Z.ixUK K rfl) (pe_lst (pa_cons pe_int (pa_cons pe_int (pa_cons pe_int (pa_cons pe_int pa_nil))))) (Z.pe_f F_l_take (hr.mono (by decide)) hgd (by rfl) (E.glo 34) bd_l_take (passL) (pa_cons (pv 0) (pa_cons pe_int pa_nil))) (fun _ _ => rfl)))
   (Z.zs_cons (Z.z_set (i := 4) sc_l_name.nd rfl (Or.inl rfl) (Z.pe_joinK K rfl pe_str (pe_lc (own := [("_law_k", 5)]) (g := gName 5) rfl sc_l_name.nd (pi_range1 (by rfl) (E.free 41) (pa_cons (pv 3) pa_nil)) (blkOk_by (own := [("_law_k", 5)]) (N := n_l_name) (sc := (defScope s_l_name)) (by decide +kernel)) (fun _ _ _ _ _ => (pg_name (i := 5) sc_l_name.nd rfl (Or.inl rfl))) (fun _ _ _ _ _ => pts_nil) (fun _ _ _ _ _ => (pe_ix (Z.ixUK K rfl) (pv 2) (Z.pe_f F_l_take (hr.mono (by decide)) hgd (by rfl) (E.glo 34) bd_l_take (passL) (pa_cons (pv 0) (pa_cons pe_int pa_nil))) (fun _ _ => rfl))))))
   (Z.zs_cons (Z.z_if (PW.pt (pw_and (pt_cmpR (Z.opNe0 K rfl hu) (pv 1) (pe_lst pa_nil) (nomark _)) (pw_and1 (pt_cmpR (Z.opEqK K rfl hu) (Z.pe_f F_l_take (hr.mono (by decide)) hgd (by rfl) (E.glo 34) bd_l_take (passL) (pa_cons (pv 0) (pa_cons pe_int pa_nil))) pe_int (nomark _))))) (Z.zs_one (Z.z_set (i := 4) sc_l_name.nd rfl (Or.inl rfl) (pe_slice sl_str (pe_op (Z.opAddK K rfl) (pe_ix (Z.ixUK K rfl) (pv 1) (pe_un un_neg pe_int) (fun _ _ => rfl)) (pv 4)) po_none (po_some pe_int)))) Z.zs_nil)
   (Z.zs_cons (Z.z_if (pt_cmpR (Z.opIn K rfl hr) (pv 4) (pv 1) rfl) (Z.zs_one (Z.z_set (i := 4) sc_l_name.nd rfl (Or.inl rfl) (pe_ix (Z.ixUK K rfl) (pe_lc (own := [("_law_letter", 6)]) (g := gName 6) rfl sc_l_name.nd (pi_str (pv 2)) (blkOk_by (own := [("_law_letter", 6)]) (N := n_l_name) (sc := (defScope s_l_name)) (by decide +kernel)) (fun _ _ _ _ _ => (pg_name (i := 6) sc_l_name.nd rfl (Or.inl rfl))) (fun _ _ _ _ _ => pts_one (pt_cmpR (Z.opNotIn K rfl hr) (pv 6) (pv 1) rfl)) (fun _ _ _ _ _ => (pv 6))) pe_int (fun _ _ => rfl)))) Z.zs_nil)
   (Z.zs_one (Z.z_ret (pv 4)))))))), ?_⟩
    refine Z.i_start (σ := [some (.ref a), some (.ref q), none, none, none, none, none]) rfl ?_
    try dsimp only [Z.cxK]
    k_call_by "za" 0
    rename_i l H1 n1
    refine c_l_take (h1.mono n1.same) (by decide) (by decide) fun r H2 r0 r1 p2 b2 => ?_
    have la := h1.ne n1.fr
    obtain ⟨m, hm, em⟩ := pick (xs := [1, 2, 5, 8]) (r := r) r0 (by show _ < (4 : Int); omega)
    have hb : 1 ≤ m ∧ m ≤ 8 := by
      obtain rfl | rfl | rfl | rfl : r = 0 ∨ r = 1 ∨ r = 2 ∨ r = 3 := by omega
      all_goals (cases em; decide)
    refine Z.i_ixL (b2.get la n1.at) hm ?_
    k_call_by "za" 0
    obtain ⟨n, rfl⟩ : ∃ n : Nat, m = n := ⟨m.toNat, by omega⟩
    refine Z.i_rng1N (by omega) ?_
    have b02 : Z.But a H H2 := .trans (.ofSame n1.same) b2
    refine Z.comp_range0 (fun i acc Hc => ∃ cs : List Nat, acc = (cs.map fun c => (⟨#[c]⟩ : Str)).map V.str ∧ cs.length = i ∧ (∀ c ∈ cs, 97 ≤ c ∧ c ≤ 122) ∧ Pot Hc a ∧ Z.But a H2 Hc) ?_ ?_ ?_
    · intro D H' n'
      exact ⟨[], rfl, rfl, (fun c hc => by cases hc), p2.mono n'.same, .ofSame n'.same⟩
    · rintro D i acc H3 fD hi hD ⟨cs, rfl, hl, hc, p3, b3⟩
      have nD := p2.ne fD
      k_call_by "za" 0
      refine c_l_take p3 (by decide) (by decide) fun r' H4 r0' r1' p4 b4 => ?_
      obtain ⟨j, rfl⟩ : ∃ j : Nat, r' = j := ⟨r'.toNat, by omega⟩
      have hj : j < 26 := by omega
      k_call_by "za" 0
      refine Z.i_ixS (a := letters) (c := j + 97) (by rw [slen, letters_eq, sizeLine_eq]; decide) (atI_nat (by rw [letters_eq, List.getElem?_map, List.getElem?_range hj]; rfl)) ?_
      refine Z.i_end (b4.get nD hD) (by rw [List.length_map, List.length_map, sizeLine_eq]; omega) fun H5 u5 => ⟨cs ++ [j + 97], by rw [List.map_append, List.map_append]; rfl, by rw [List.length_append, hl]; rfl, ?_, p4.up u5 nD.symm, Z.fb_upn u5 (b3.trans b4) fD⟩
      intro c hc'
      rcases List.mem_append.mp hc' with z | z
      · exact hc c z
      · rw [List.mem_singleton.mp z]; omega
    rintro D acc H3 fD hD ⟨cs, rfl, hl, hc, p3, b3⟩
    refine Z.i_join hD ?_ ?_
    · have e : ((cs.map fun c => (⟨#[c]⟩ : Str)).map (·.length)).sum = cs.length := by
        rw [List.map_map]
        clear hD hc hl
        induction cs with
        | nil => rfl
        | cons c cs ih => rw [List.map_cons, List.sum_cons, ih, List.length_cons, Nat.add_comm]; rfl
      rw [e, List.length_map]
      show cs.length + cs.length * (0 : Nat) ≤ _
      omega
    generalize ht : Txt.join (Str.ofString "") (cs.map fun c => (⟨#[c]⟩ : Str)) = t0
    have nt0 : isNm t0 := by
      have e : t0.cps.toList = cs := by rw [← ht, TL.join_eq]; exact join_ones cs
      unfold isNm
      rw [e]
      exact ⟨by omega, hc⟩
    have b03 := b02.trans b3
    clear ht hD fD hl hc
    k_call_by "ya" 0
    refine Z.i_ifG (fun σ' H' => ∃ t1, isNm t1 ∧ σ' = [some (.ref a), some (.ref q), some (.str letters), some (.int n), some (.str t1), none, none] ∧ Pot H' a ∧ Z.But a H H') ?_ ?_
    · rintro σ' H4 ⟨t1, nt1, rfl, p4, b4⟩
      have h24 := b4.get h5.symm h2
      k_call_by "za" 0
      refine Z.ite2' (fun hm => ?_) (fun hm => ?_)
      · k_call_by "za" 0
        refine Z.comp_str (a := letters) (fun i acc H' => acc = (((letters.cps.toList.take i).filter fun c => decide ((⟨#[c]⟩ : Str) ∉ ys)).map fun c => V.str ⟨#[c]⟩) ∧ Same H4 H') ?_ ?_ ?_
        · intro D H' n'
          exact ⟨rfl, n'.same⟩
        · rintro D i acc c H5 fD hci hD ⟨rfl, s5⟩
          k_call_by "za" 0
          have tk : letters.cps.toList.take (i + 1) = letters.cps.toList.take i ++ [c] := take_snoc hci
          refine Z.iten' (fun hin => ?_) (fun hin => ?_)
          · k_call_by "za" 0
            refine Z.i_end hD (by
              rw [List.length_map, sizeLine_eq]
              refine Nat.lt_of_le_of_lt (List.length_filter_le _ _) ?_
              rw [List.length_take, letters_eq]
              simp
              omega) fun H6 u6 => ⟨?_, by k_call_by "fr" 0⟩
            rw [tk, List.filter_append, List.map_append, List.filter_cons_of_pos (by simpa using hin)]
            rfl
          · refine Z.i_skip hD ⟨?_, s5⟩
            rw [tk, List.filter_append, List.filter_cons_of_neg (by simpa using hin)]
            simp
        · rintro D acc H5 fD hD ⟨rfl, s5⟩
          rw [List.take_length] at hD
          obtain ⟨c, hc, hn⟩ := exists_free h3
          cases hf : letters.cps.toList.filter (fun c => decide ((⟨#[c]⟩ : Str) ∉ ys)) with
          | nil =>
            have : c ∈ letters.cps.toList.filter (fun c => decide ((⟨#[c]⟩ : Str) ∉ ys)) := List.mem_filter.mpr ⟨hc, by simpa using hn⟩
            rw [hf] at this
            cases this
          | cons c0 r =>
            have m0 : c0 ∈ letters.cps.toList.filter (fun c => decide ((⟨#[c]⟩ : Str) ∉ ys)) := by rw [hf]; exact List.mem_cons_self
            obtain ⟨m1, m2⟩ := List.mem_filter.mp m0
            rw [hf] at hD
            refine Z.i_ixL hD (atI_nat (j := 0) rfl) ?_
            k_call_by "za" 0
            exact k ⟨#[c0]⟩ H5 (one_nm ((letters_mem c0).mp m1)) (by simpa using m2) (p4.mono s5) (b4.same s5)
      · k_call_by "za" 0
        exact k t1 H4 nt1 hm p4 b4
    · intro nx' k'
      k_call_by "za" 0
      have h23 := b03.get h5.symm h2
      rename_i e H4 n4
      cases hys : ys with
      | nil =>
        refine Z.ifF rfl ?_
        exact k' _ _ ⟨t0, nt0, rfl, p3.mono n4.same, b03.same n4.same⟩
      | cons y0 yr =>
        refine Z.ifT rfl ?_
        k_call_by "za" 0
        refine c_l_take (p3.mono n4.same) (by decide) (by decide) fun r5 H5 r50 r51 p5 b5 => ?_
        have b05 := (b03.same n4.same).trans b5
        k_call_by "za" 0
        refine Z.ite2' (fun hz => ?_) (fun hz => ?_)
        · k_call_by "za" 0
          obtain ⟨yl, hyl⟩ : ∃ yl, atI (ys.map V.str) (-1) = some (.str yl) ∧ yl ∈ ys := by
            obtain ⟨yi, yz, e⟩ : ∃ yi yz, ys = yi ++ [yz] := ⟨ys.dropLast, ys.getLast (by rw [hys]; simp), (List.dropLast_concat_getLast (by rw [hys]; simp)).symm⟩
            refine ⟨yz, ?_, by rw [e]; simp⟩
            rw [e, List.map_append]
            exact Z.atI_snoc _ _
          refine Z.i_ixL (b05.get h5.symm h2) hyl.1 ?_
          k_call_by "za" 0
          have nl := h4 yl hyl.2
          have la1 : (yl ++ t0).cps.toList.length ≤ 16 := by rw [app_cps, List.length_append]; have := nl.1.2; have := nt0.1.2; omega
          refine Z.i_addS (by rw [slen, slen, sizeLine_eq]; have := nl.1.2; have := nt0.1.2; omega) ?_
          k_call_by "za" 0
          refine Z.i_slS (by rw [slen]; omega) ?_
          refine k' _ _ ⟨cutS (yl ++ t0) none (some 8), ⟨⟨?_, ?_⟩, ?_⟩, rfl, p5, b05⟩
          · rw [cut8, List.length_take, app_cps, List.length_append]; have := nl.1.1; omega
          · rw [cut8, List.length_take]; omega
          · intro c hc
            rw [cut8, app_cps] at hc
            rcases List.mem_append.mp (List.mem_of_mem_take hc) with z | z
            · exact nl.2 c z
            · exact nt0.2 c z
        · k_call_by "za" 0
          exact k' _ _ ⟨t0, nt0, rfl, p5, b05⟩
/-! ### the sorts of nodes -/
inductive Nd where
  | inlet 
  | outlet 
  | gain (gn : Int) (l b : Nat)
  | mix (n : Nat)
  | times 
  | choose 
  | own (ts : List Nat) (n : Nat)
  | up (n : Nat)
  | down (n : Nat)
  | resample (ru rd : Nat)
  deriving DecidableEq
def Nd.takes : Nd → List Nat
  | .inlet  => []
  | .outlet  => [1]
  | .gain gn l b => [1]
  | .mix n => List.replicate n 1
  | .times  => [1, 1]
  | .choose  => [1, 1, 1]
  | .own ts n => ts
  | .up n => [1]
  | .down n => [n]
  | .resample ru rd => [rd]
def Nd.gives : Nd → Nat
  | .inlet  => 1
  | .outlet  => 0
  | .gain gn l b => 1
  | .mix n => 1
  | .times  => 1
  | .choose  => 1
  | .own ts n => n
  | .up n => n
  | .down n => 1
  | .resample ru rd => ru
def Nd.wf : Nd → Prop
  | .inlet  => True
  | .outlet  => True
  | .gain gn l b => (-9 ≤ gn ∧ gn ≤ 89) ∧ l ≤ 2 ∧ b ≤ 2
  | .mix n => 1 ≤ n ∧ n ≤ 8
  | .times  => True
  | .choose  => True
  | .own ts n => (1 ≤ ts.length ∧ ts.length ≤ 4) ∧ (∀ t ∈ ts, 1 ≤ t ∧ t ≤ 8) ∧ 1 ≤ n ∧ n ≤ 8
  | .up n => 1 ≤ n ∧ n ≤ 8
  | .down n => 1 ≤ n ∧ n ≤ 8
  | .resample ru rd => (1 ≤ ru ∧ ru ≤ 8) ∧ 1 ≤ rd ∧ rd ≤ 8
def Nd.word : Nd → Str
  | .inlet  => "Inlet"
  | .outlet  => "Outlet"
  | .gain gn l b => "Gain"
  | .mix n => "Mix"
  | .times  => "Times"
  | .choose  => "Choose"
  | .own ts n => "Own"
  | .up n => "Up"
  | .down n => "Down"
  | .resample ru rd => "Resample"
def Nd.ext : Nd → Option (List Int)
  | .inlet  => none
  | .outlet  => none
  | .gain gn l b => none
  | .mix n => none
  | .times  => none
  | .choose  => none
  | .own ts n => some (nats ts)
  | .up n => none
  | .down n => none
  | .resample ru rd => some [1, 2]
def Nd.cls : Nd → Str
  | .inlet  => "Inlet"
  | .outlet  => "Outlet"
  | .gain _ _ _ => "Gain"
  | .mix _ => "Mix"
  | .times  => "Times"
  | .choose  => "Choose"
  | .own _ _ => "Own"
  | .up _ => "Up"
  | .down _ => "Down"
  | .resample _ _ => "Resample"
def Nd.fs (K : PySem.W.Frag) (s : Addr) : Nd → List (Str × V)
  | .inlet  => [("own_late", .int (0 : Nat)), ("own_begin", .int (0 : Nat))]
  | .outlet  => [("own_late", .int (0 : Nat)), ("own_begin", .int (0 : Nat))]
  | .gain gn l b => [("own_late", .int (l : Nat)), ("own_begin", .int (b : Nat)), ("own_by", .int gn)]
  | .mix n => [("own_late", .int (0 : Nat)), ("own_begin", .int (0 : Nat)), ("own_many", .int (n : Nat))]
  | .times  => [("own_late", .int (0 : Nat)), ("own_begin", .int (0 : Nat))]
  | .choose  => [("own_late", .int (0 : Nat)), ("own_begin", .int (0 : Nat))]
  | .own ts n => [("own_late", .int (0 : Nat)), ("own_begin", .int (0 : Nat)), ("own_deed", .ref (He.ga K "_law_deed")), ("own_takes", .ref s), ("own_gives", .int (n : Nat)), ("own_first", .int 0)]
  | .up n => [("own_late", .int (0 : Nat)), ("own_begin", .int (0 : Nat)), ("own_many", .int (n : Nat)), ("own_hold", .bl false)]
  | .down n => [("own_late", .int (0 : Nat)), ("own_begin", .int (0 : Nat)), ("own_many", .int (n : Nat))]
  | .resample ru rd => [("own_late", .int (0 : Nat)), ("own_begin", .int (0 : Nat)), ("own_up", .int (ru : Nat)), ("own_down", .int (rd : Nat)), ("own_numbers", .ref s)]
def Nd.parts (K : PySem.W.Frag) (s : Addr) : Nd → List V
  | .inlet  => []
  | .outlet  => []
  | .gain gn l b => [.int gn]
  | .mix n => [.int (n : Nat)]
  | .times  => []
  | .choose  => []
  | .own ts n => [.ref (He.ga K "_law_deed"), .ref s, .int (n : Nat), .int 0]
  | .up n => [.int (n : Nat), .bl false]
  | .down n => [.int (n : Nat)]
  | .resample ru rd => [.int (ru : Nat), .int (rd : Nat), .ref s]
def Nd.spec (s : Addr) : Nd → List V
  | .inlet  => [.str "inlet"]
  | .outlet  => [.str "outlet"]
  | .gain gn l b => [.str "gain", .int gn, .int (l : Nat), .int (b : Nat)]
  | .mix n => [.str "mix", .int (n : Nat)]
  | .times  => [.str "times"]
  | .choose  => [.str "choose"]
  | .own ts n => [.str "own", .ref s, .int (n : Nat)]
  | .up n => [.str "up", .int (n : Nat)]
  | .down n => [.str "down", .int (n : Nat)]
  | .resample ru rd => [.str "resample", .int (ru : Nat), .int (rd : Nat)]

/-- what stands behind a part -/
def PartExt (H : Hp) (s : Addr) : Nd → Prop
  | .own ts _ => H s = some (.tup ((nats ts).map V.int))
  | .resample _ _ => H s = some (.lst [.int 1, .int 2])
  | _ => True

def Nd.tk (nd : Nd) : List Int := nats nd.takes
/-- at a stands the node nd -/
def IsNode (K : PySem.W.Frag) (H : Hp) (a : Addr) (nd : Nd) : Prop := ∃ dx s, H a = some (.ins (He.ga K nd.cls) dx (nd.fs K s)) ∧ ∀ ns, nd.ext = some ns → H s = some (.tup (ns.map V.int))
/-- v is the law's spec of nd -/
def SpecExt : Nd → Option (List Int)
  | .own ts _ => some (nats ts)
  | _ => none
def IsSpec (H : Hp) (v : V) (nd : Nd) : Prop := ∃ r s, v = .ref r ∧ H r = some (.tup (nd.spec s)) ∧ ∀ ns, SpecExt nd = some ns → H s = some (.tup (ns.map V.int))
theorem IsNode.kept {K : PySem.W.Frag} {H H' : Hp} {a : Addr} {nd : Nd} (h : IsNode K H a nd) (k : Kept H H') : IsNode K H' a nd := by
  obtain ⟨dx, s, h, g⟩ := h
  exact ⟨dx, s, k.i _ _ _ _ h, fun ns e => k.t _ _ (g ns e)⟩
theorem IsSpec.kept {H H' : Hp} {v : V} {nd : Nd} (h : IsSpec H v nd) (k : Kept H H') : IsSpec H' v nd := by
  obtain ⟨r, s, e, h, g⟩ := h
  exact ⟨r, s, e, k.t _ _ h, fun ns e => k.t _ _ (g ns e)⟩
def Nd.isIn : Nd → Bool
  | .inlet => true
  | _ => false
def Nd.isOut : Nd → Bool
  | .outlet => true
  | _ => false
theorem takes_pos {nd : Nd} (w : nd.wf) (h : nd.isIn = false) : 1 ≤ nd.takes.length := by
  cases nd <;> simp [Nd.takes, Nd.wf, Nd.isIn] at * <;> omega
theorem takes_le {nd : Nd} (w : nd.wf) : nd.takes.length ≤ 8 := by
  cases nd <;> simp [Nd.takes, Nd.wf] at * <;> omega
theorem takes_in {nd : Nd} (h : nd.isIn = true) : nd.takes = [] := by
  cases nd <;> first | rfl | cases h
theorem tk_len (nd : Nd) : nd.tk.length = nd.takes.length := by unfold Nd.tk nats; rw [List.length_map]

def sp_is_whole_ramps (K : PySem.W.Frag) : Sp := fun vz H Q Ex => ∃ (i : Int), vz = [.int i] ∧ (Q (.bl true) H)
theorem c_is_whole_ramps {K : PySem.W.Frag} {H : Hp} {Q : VK} {Ex : XK} {i : Int}  (k : Q (.bl true) H) : sp_is_whole_ramps K [.int i] H Q Ex := ⟨i, rfl, k⟩
theorem ok_is_whole_ramps {g : Prop} {P : Program} {w : World} {K : PySem.W.Frag} {mg : Str → Option Value} {base : Heap} (E : Ev K mg) : Z.Pr g P w K mg base 1 (He.ga K "is_whole_ramps") d_is_whole_ramps p_is_whole_ramps (sp_is_whole_ramps K) := by
  obtain ⟨fd, FD⟩ := E.fn 6 (d := d_is_whole_ramps)
  refine ⟨fd, FD, Z.FunD.okG FD sc_is_whole_ramps (fun vz H Q Ex h => ?_) (fun cdv A outer s H vz Q Ex hr hgd h => ?_)⟩
  · obtain ⟨_, rfl, _⟩ := h
    rfl
  · have hu := hr.units
    obtain ⟨i, rfl, k⟩ := h
    refine ⟨_, (Z.zs_one (Z.z_ret (pe_and (pe_callB (Z.cisiK K rfl) (by rfl) (E.free 39) (by decide +kernel) (pa_cons (pv 0) (pa_cons (pe_bltn (v := .ty "int") (u := .type "int") (by rfl) (E.free 43) (by decide +kernel) rfl) pa_nil))) (pe_one (pe_not (pe_callB (Z.cisiK K rfl) (by rfl) (E.free 39) (by decide +kernel) (pa_cons (pv 0) (pa_cons (pe_bltn (v := .ty "bool") (u := .type "bool") (by rfl) (E.free 42) (by decide +kernel) rfl) pa_nil)))))))), ?_⟩
    refine Z.i_start (σ := [some (.int i)]) rfl ?_
    try dsimp only [Z.cxK]
    k_call_by "za" 0
    exact k
def sp_is_whole_from (K : PySem.W.Frag) : Sp := fun vz H Q Ex => ∃ (i l m : Int), vz = [.int i, .int l, .int m] ∧ (l ≤ i) ∧ (i ≤ m) ∧ (Q (.bl true) H)
theorem c_is_whole_from {K : PySem.W.Frag} {H : Hp} {Q : VK} {Ex : XK} {i l m : Int} (h1 : l ≤ i) (h2 : i ≤ m) (k : Q (.bl true) H) : sp_is_whole_from K [.int i, .int l, .int m] H Q Ex := ⟨i, l, m, rfl, h1, h2, k⟩
theorem ok_is_whole_from {g : Prop} {P : Program} {w : World} {K : PySem.W.Frag} {mg : Str → Option Value} {base : Heap} (E : Ev K mg) : Z.Pr g P w K mg base 2 (He.ga K "is_whole_from") d_is_whole_from p_is_whole_from (sp_is_whole_from K) := by
  obtain ⟨fd, FD⟩ := E.fn 7 (d := d_is_whole_from)
  refine ⟨fd, FD, Z.FunD.okG FD sc_is_whole_from (fun vz H Q Ex h => ?_) (fun cdv A outer s H vz Q Ex hr hgd h => ?_)⟩
  · obtain ⟨_, _, _, rfl, _⟩ := h
    rfl
  · have hu := hr.units
    obtain ⟨i, l, m, rfl, h1, h2, k⟩ := h
    have F_is_whole_ramps := ok_is_whole_ramps (g := g) (P := P) (w := w) (base := base) E
    refine ⟨_, (Z.zs_one (Z.z_ret (pe_and (Z.pe_f F_is_whole_ramps (hr.mono (by decide)) hgd (by rfl) (E.glo 44) bd_is_whole_ramps (passL) (pa_cons (pv 0) pa_nil)) (pe_one (pe_chain op_le op_le (pv 1) (pv 0) (pv 2)))))), ?_⟩
    refine Z.i_start (σ := [some (.int i), some (.int l), some (.int m)]) rfl ?_
    try dsimp only [Z.cxK]
    k_call_by "za" 0
    refine c_is_whole_ramps ?_
    k_call_by "za" 0
    refine Z.itT h1 ?_
    k_call_by "za" 0
    rw [decide_eq_true h2]
    exact k
def sp_want (K : PySem.W.Frag) : Sp := fun vz H Q Ex => ∃ (f : Str), vz = [.bl true, .str f] ∧ (Q .non H)
theorem c_want {K : PySem.W.Frag} {H : Hp} {Q : VK} {Ex : XK} {f : Str}  (k : Q .non H) : sp_want K [.bl true, .str f] H Q Ex := ⟨f, rfl, k⟩
theorem ok_want {g : Prop} {P : Program} {w : World} {K : PySem.W.Frag} {mg : Str → Option Value} {base : Heap} (E : Ev K mg) : Z.Pr g P w K mg base 1 (He.ga K "want") d_want p_want (sp_want K) := by
  obtain ⟨fd, FD⟩ := E.fn 8 (d := d_want)
  refine ⟨fd, FD, Z.FunD.okG FD sc_want (fun vz H Q Ex h => ?_) (fun cdv A outer s H vz Q Ex hr hgd h => ?_)⟩
  · obtain ⟨_, rfl, _⟩ := h
    rfl
  · have hu := hr.units
    obtain ⟨f, rfl, k⟩ := h
    refine ⟨_, (Z.zs_one (Z.z_if (pt_not (pt_val (pv 0))) (Z.zs_one Z.z_never) Z.zs_nil)), ?_⟩
    refine Z.i_start (σ := [some (.bl true), some (.str f)]) rfl ?_
    try dsimp only [Z.cxK]
    k_call_by "za" 0
    exact k
def kinds (K : PySem.W.Frag) : List Addr := [He.ga K "Inlet", He.ga K "Outlet", He.ga K "Gain", He.ga K "Mix", He.ga K "Times", He.ga K "Choose", He.ga K "Own", He.ga K "Up", He.ga K "Down", He.ga K "Resample"]
def sp_Node_u__init (K : PySem.W.Frag) : Sp := fun vz H Q Ex => ∃ (a C dx : Addr) (l b : Nat), vz = [.ref a, .int (l : Nat), .int (b : Nat)] ∧ (H a = some (.ins C dx [])) ∧ (C ∈ kinds K) ∧ (l ≤ 99) ∧ (b ≤ 9999) ∧ (∀ H', Z.Up H a (.ins C dx [("own_late", .int (l : Nat)), ("own_begin", .int (b : Nat))]) H' → Q .non H')
theorem c_Node_u__init {K : PySem.W.Frag} {H : Hp} {Q : VK} {Ex : XK} {a C dx : Addr} {l b : Nat} (h1 : H a = some (.ins C dx [])) (h2 : C ∈ kinds K) (h3 : l ≤ 99) (h4 : b ≤ 9999) (k : ∀ H', Z.Up H a (.ins C dx [("own_late", .int (l : Nat)), ("own_begin", .int (b : Nat))]) H' → Q .non H') : sp_Node_u__init K [.ref a, .int (l : Nat), .int (b : Nat)] H Q Ex := ⟨a, C, dx, l, b, rfl, h1, h2, h3, h4, k⟩
theorem ok_Node_u__init {g : Prop} {P : Program} {w : World} {K : PySem.W.Frag} {mg : Str → Option Value} {base : Heap} (E : Ev K mg) : Z.Pr g P w K mg base 3 (He.ma K (He.ga K "Node") "__init__") d_Node_u__init p_Node_u__init (sp_Node_u__init K) := by
  obtain ⟨fd, FD⟩ := E.fn 9 (d := d_Node_u__init)
  refine ⟨fd, FD, Z.FunD.okG FD sc_Node_u__init (fun vz H Q Ex h => ?_) (fun cdv A outer s H vz Q Ex hr hgd h => ?_)⟩
  · obtain ⟨_, _, _, _, _, rfl, _⟩ := h
    rfl
  · have hu := hr.units
    obtain ⟨a, C, dx, l, b, rfl, h1, h2, h3, h4, k⟩ := h
    have F_is_whole_from := ok_is_whole_from (g := g) (P := P) (w := w) (base := base) E
    have F_want := ok_want (g := g) (P := P) (w := w) (base := base) E
    have cl_Inlet := E.cls 0
    have na_Inlet_own_begin := E.noat 11
    have na_Inlet_own_late := E.noat 10
    have cl_Outlet := E.cls 1
    have na_Outlet_own_begin := E.noat 13
    have na_Outlet_own_late := E.noat 12
    have cl_Gain := E.cls 2
    have na_Gain_own_begin := E.noat 15
    have na_Gain_own_late := E.noat 14
    have cl_Mix := E.cls 3
    have na_Mix_own_begin := E.noat 17
    have na_Mix_own_late := E.noat 16
    have cl_Times := E.cls 4
    have na_Times_own_begin := E.noat 19
    have na_Times_own_late := E.noat 18
    have cl_Choose := E.cls 5
    have na_Choose_own_begin := E.noat 21
    have na_Choose_own_late := E.noat 20
    have cl_Own := E.cls 6
    have na_Own_own_begin := E.noat 23
    have na_Own_own_late := E.noat 22
    have cl_Up := E.cls 7
    have na_Up_own_begin := E.noat 25
    have na_Up_own_late := E.noat 24
    have cl_Down := E.cls 8
    have na_Down_own_begin := E.noat 27
    have na_Down_own_late := E.noat 26
    have cl_Resample := E.cls 9
    have na_Resample_own_begin := E.noat 29
    have na_Resample_own_late := E.noat 28
    refine ⟨_, (Z.zs_cons (Z.z_expr (Z.pe_f F_want (hr.mono (by decide)) hgd (by rfl) (E.glo 45) bd_want (passL) (pa_cons (Z.pe_f F_is_whole_from (hr.mono (by decide)) hgd (by rfl) (E.glo 46) bd_is_whole_from (passL) (pa_cons (pv 1) (pa_cons pe_int (pa_cons (Z.pe_gint rfl (E.int 48)) pa_nil)))) (pa_cons pe_str pa_nil))))
   (Z.zs_cons (Z.z_expr (Z.pe_f F_want (hr.mono (by decide)) hgd (by rfl) (E.glo 45) bd_want (passL) (pa_cons (Z.pe_f F_is_whole_from (hr.mono (by decide)) hgd (by rfl) (E.glo 46) bd_is_whole_from (passL) (pa_cons (pv 2) (pa_cons pe_int (pa_cons (Z.pe_gint rfl (E.int 47)) pa_nil)))) (pa_cons pe_str pa_nil))))
   (Z.zs_cons (Z.z_fld (pv 0) (pv 1) rfl)
   (Z.zs_one (Z.z_fld (pv 0) (pv 2) rfl))))), ?_⟩
    refine Z.i_start (σ := [some (.ref a), some (.int (l : Nat)), some (.int (b : Nat))]) rfl ?_
    try dsimp only [Z.cxK]
    have hc : Cls K C := by 
      unfold kinds at h2
      simp only [List.mem_cons, List.not_mem_nil, or_false] at h2
      rcases h2 with rfl | rfl | rfl | rfl | rfl | rfl | rfl | rfl | rfl | rfl
      · exact cl_Inlet
      · exact cl_Outlet
      · exact cl_Gain
      · exact cl_Mix
      · exact cl_Times
      · exact cl_Choose
      · exact cl_Own
      · exact cl_Up
      · exact cl_Down
      · exact cl_Resample
    have n1 : NoAttr K C "own_late" := by 
      unfold kinds at h2
      simp only [List.mem_cons, List.not_mem_nil, or_false] at h2
      rcases h2 with rfl | rfl | rfl | rfl | rfl | rfl | rfl | rfl | rfl | rfl
      · exact na_Inlet_own_late
      · exact na_Outlet_own_late
      · exact na_Gain_own_late
      · exact na_Mix_own_late
      · exact na_Times_own_late
      · exact na_Choose_own_late
      · exact na_Own_own_late
      · exact na_Up_own_late
      · exact na_Down_own_late
      · exact na_Resample_own_late
    have n2 : NoAttr K C "own_begin" := by 
      unfold kinds at h2
      simp only [List.mem_cons, List.not_mem_nil, or_false] at h2
      rcases h2 with rfl | rfl | rfl | rfl | rfl | rfl | rfl | rfl | rfl | rfl
      · exact na_Inlet_own_begin
      · exact na_Outlet_own_begin
      · exact na_Gain_own_begin
      · exact na_Mix_own_begin
      · exact na_Times_own_begin
      · exact na_Choose_own_begin
      · exact na_Own_own_begin
      · exact na_Up_own_begin
      · exact na_Down_own_begin
      · exact na_Resample_own_begin
    k_call_by "za" 0
    refine c_is_whole_from (by omega) (by omega) ?_
    k_call_by "za" 0
    refine c_want ?_
    k_call_by "za" 0
    refine c_is_whole_from (by omega) (by omega) ?_
    k_call_by "za" 0
    refine c_want ?_
    k_call_by "za" 0
    rename_i H1 u1 H2 u2
    exact k H2 ⟨⟨_, h1⟩, by rw [u2.eq, u1.eq, Z.upd_upd]; rfl⟩
theorem all_true : ∀ n : Nat, (List.replicate n true).all id = true
  | 0 => rfl
  | n + 1 => by rw [List.replicate_succ, List.all_cons, all_true n]; rfl
def sp_are_takes (K : PySem.W.Frag) : Sp := fun vz H Q Ex => ∃ (p : Addr) (ts : List Nat), vz = [.ref p] ∧ (H p = some (.tup ((nats ts).map V.int))) ∧ (1 ≤ ts.length ∧ ts.length ≤ 4) ∧ (∀ t ∈ ts, 1 ≤ t ∧ t ≤ 8) ∧ (∀ H', Same H H' → Q (.bl true) H')
theorem c_are_takes {K : PySem.W.Frag} {H : Hp} {Q : VK} {Ex : XK} {p : Addr} {ts : List Nat} (h1 : H p = some (.tup ((nats ts).map V.int))) (h2 : 1 ≤ ts.length ∧ ts.length ≤ 4) (h3 : ∀ t ∈ ts, 1 ≤ t ∧ t ≤ 8) (k : ∀ H', Same H H' → Q (.bl true) H') : sp_are_takes K [.ref p] H Q Ex := ⟨p, ts, rfl, h1, h2, h3, k⟩
theorem ok_are_takes {g : Prop} {P : Program} {w : World} {K : PySem.W.Frag} {mg : Str → Option Value} {base : Heap} (E : Ev K mg) : Z.Pr g P w K mg base 3 (He.ga K "are_takes") d_are_takes p_are_takes (sp_are_takes K) := by
  obtain ⟨fd, FD⟩ := E.fn 10 (d := d_are_takes)
  refine ⟨fd, FD, Z.FunD.okG FD sc_are_takes (fun vz H Q Ex h => ?_) (fun cdv A outer s H vz Q Ex hr hgd h => ?_)⟩
  · obtain ⟨_, _, rfl, _⟩ := h
    rfl
  · have hu := hr.units
    obtain ⟨p, ts, rfl, h1, h2, h3, k⟩ := h
    have F_is_whole_from := ok_is_whole_from (g := g) (P := P) (w := w) (base := base) E
    refine ⟨_, (Z.zs_cons (Z.z_if (PW.pt (pw_or (pt_not (pt_val (pe_callB (Z.cisiK K rfl) (by rfl) (E.free 39) (by decide +kernel) (pa_cons (pv 0) (pa_cons (pe_bltn (v := .ty "tuple") (u := .type "tuple") (by rfl) (E.free 51) (by decide +kernel) rfl) pa_nil))))) (pw_or1 (pt_not (pt_chain op_le op_le pe_int (pe_callB (Z.clenK K rfl) (by rfl) (E.free 32) (by decide +kernel) (pa_cons (pv 0) pa_nil)) (Z.pe_gint rfl (E.int 50))))))) (Z.zs_one (Z.z_ret pe_bl)) Z.zs_nil)
   (Z.zs_one (Z.z_ret (pe_callB (Z.callK K rfl rfl) (by rfl) (E.free 36) (by decide +kernel) (pa_cons (pe_lc (own := [("many", 1)]) (g := gName 1) rfl sc_are_takes.nd (Z.pi_seqK K rfl (pv 0)) (blkOk_by (own := [("many", 1)]) (N := n_are_takes) (sc := (defScope s_are_takes)) (by decide +kernel)) (fun _ _ _ _ _ => (pg_name (i := 1) sc_are_takes.nd rfl (Or.inl rfl))) (fun _ _ _ _ _ => pts_nil) (fun _ _ _ _ _ => (Z.pe_f F_is_whole_from (hr.mono (by decide)) hgd (by rfl) (E.glo 46) bd_is_whole_from (passL) (pa_cons (pv 1) (pa_cons pe_int (pa_cons (Z.pe_gint rfl (E.int 49)) pa_nil)))))) pa_nil))))), ?_⟩
    refine Z.i_start (σ := [some (.ref p), none]) rfl ?_
    try dsimp only [Z.cxK]
    have hl : (nats ts).length = ts.length := by unfold nats; rw [List.length_map]
    k_call_by "za" 0
    refine Z.itT (by omega) ?_
    k_call_by "za" 0
    refine Z.itnF (by omega) ?_
    k_call_by "za" 0
    refine Z.comp_tup (xs := (nats ts).map V.int) (fun i acc H' => acc = (List.replicate i true).map V.bl ∧ Same H H') ?_ ?_ ?_ ?_
    · intro D H' n
      exact ⟨rfl, n.same⟩
    · rintro i acc H' hi ⟨rfl, s⟩
      exact SqT.of (s _ _ h1)
    · rintro D i acc x H' fD hx hD ⟨rfl, s⟩
      obtain ⟨z, hz, rfl⟩ := ints_at hx
      have hm := List.mem_of_getElem? hz
      unfold nats at hm
      obtain ⟨t, ht, rfl⟩ := List.mem_map.mp hm
      have hb := h3 t ht
      have hi := (List.getElem?_eq_some_iff.mp hz).1
      k_call_by "za" 0
      refine c_is_whole_from (by omega) (by omega) ?_
      refine Z.i_end (by k_call_by "hf" 0) (by rw [List.length_map, List.length_replicate, sizeLine_eq]; omega) fun H6 u => ⟨?_, by k_call_by "fr" 0⟩
      rw [List.replicate_succ', List.map_append]; rfl
    · rintro D acc H' fD hD ⟨rfl, s⟩
      k_call_by "za" 0
      rw [show (List.replicate ((nats ts).map V.int).length true).all id = true from all_true _]
      exact k H' s
def sp_is_memory (K : PySem.W.Frag) : Sp := fun vz H Q Ex => ∃ (i : Int), vz = [.int i] ∧ (Q (.bl true) H)
theorem c_is_memory {K : PySem.W.Frag} {H : Hp} {Q : VK} {Ex : XK} {i : Int}  (k : Q (.bl true) H) : sp_is_memory K [.int i] H Q Ex := ⟨i, rfl, k⟩
theorem ok_is_memory {g : Prop} {P : Program} {w : World} {K : PySem.W.Frag} {mg : Str → Option Value} {base : Heap} (E : Ev K mg) : Z.Pr g P w K mg base 2 (He.ga K "is_memory") d_is_memory p_is_memory (sp_is_memory K) := by
  obtain ⟨fd, FD⟩ := E.fn 11 (d := d_is_memory)
  refine ⟨fd, FD, Z.FunD.okG FD sc_is_memory (fun vz H Q Ex h => ?_) (fun cdv A outer s H vz Q Ex hr hgd h => ?_)⟩
  · obtain ⟨_, rfl, _⟩ := h
    rfl
  · have hu := hr.units
    obtain ⟨i, rfl, k⟩ := h
    have F_is_whole_ramps := ok_is_whole_ramps (g := g) (P := P) (w := w) (base := base) E
    refine ⟨_, (Z.zs_one (Z.z_ret (pe_or (Z.pe_f F_is_whole_ramps (hr.mono (by decide)) hgd (by rfl) (E.glo 44) bd_is_whole_ramps (passL) (pa_cons (pv 0) pa_nil)) (pe_one (pe_and (pe_callB (Z.cisiK K rfl) (by rfl) (E.free 39) (by decide +kernel) (pa_cons (pv 0) (pa_cons (pe_bltn (v := .ty "tuple") (u := .type "tuple") (by rfl) (E.free 51) (by decide +kernel) rfl) pa_nil))) (pe_one (pe_callB (Z.callK K rfl rfl) (by rfl) (E.free 36) (by decide +kernel) (pa_cons (pe_lc (own := [("part", 1)]) (g := gName 1) rfl sc_is_memory.nd (Z.pi_seqK K rfl (pv 0)) (blkOk_by (own := [("part", 1)]) (N := n_is_memory) (sc := (defScope s_is_memory)) (by decide +kernel)) (fun _ _ _ _ _ => (pg_name (i := 1) sc_is_memory.nd rfl (Or.inl rfl))) (fun _ _ _ _ _ => pts_nil) (fun _ _ _ _ _ => (Z.pe_f F_is_whole_ramps (hr.mono (by decide)) hgd (by rfl) (E.glo 44) bd_is_whole_ramps (passL) (pa_cons (pv 1) pa_nil)))) pa_nil)))))))), ?_⟩
    refine Z.i_start (σ := [some (.int i), none]) rfl ?_
    try dsimp only [Z.cxK]
    k_call_by "za" 0
    refine c_is_whole_ramps ?_
    k_call_by "za" 0
    exact k
def sp_are_wholes (K : PySem.W.Frag) : Sp := fun vz H Q Ex => ∃ (q : Addr) (ns : List Int) (m : Int), vz = [.ref q, .int m] ∧ (H q = some (.lst (ns.map V.int))) ∧ (1 ≤ ns.length) ∧ ((ns.length : Int) ≤ m) ∧ (ns.length ≤ 1000) ∧ (∀ H', Same H H' → Q (.bl true) H')
theorem c_are_wholes {K : PySem.W.Frag} {H : Hp} {Q : VK} {Ex : XK} {q : Addr} {ns : List Int} {m : Int} (h1 : H q = some (.lst (ns.map V.int))) (h2 : 1 ≤ ns.length) (h3 : (ns.length : Int) ≤ m) (h4 : ns.length ≤ 1000) (k : ∀ H', Same H H' → Q (.bl true) H') : sp_are_wholes K [.ref q, .int m] H Q Ex := ⟨q, ns, m, rfl, h1, h2, h3, h4, k⟩
theorem ok_are_wholes {g : Prop} {P : Program} {w : World} {K : PySem.W.Frag} {mg : Str → Option Value} {base : Heap} (E : Ev K mg) : Z.Pr g P w K mg base 2 (He.ga K "are_wholes") d_are_wholes p_are_wholes (sp_are_wholes K) := by
  obtain ⟨fd, FD⟩ := E.fn 12 (d := d_are_wholes)
  refine ⟨fd, FD, Z.FunD.okG FD sc_are_wholes (fun vz H Q Ex h => ?_) (fun cdv A outer s H vz Q Ex hr hgd h => ?_)⟩
  · obtain ⟨_, _, _, rfl, _⟩ := h
    rfl
  · have hu := hr.units
    obtain ⟨q, ns, m, rfl, h1, h2, h3, h4, k⟩ := h
    have F_is_whole_ramps := ok_is_whole_ramps (g := g) (P := P) (w := w) (base := base) E
    refine ⟨_, (Z.zs_one (Z.z_ret (pe_and (pe_callB (Z.cisiK K rfl) (by rfl) (E.free 39) (by decide +kernel) (pa_cons (pv 0) (pa_cons (pe_bltn (v := .ty "list") (u := .type "list") (by rfl) (E.free 35) (by decide +kernel) rfl) pa_nil))) (pe_and (pe_chain op_le op_le pe_int (pe_callB (Z.clenK K rfl) (by rfl) (E.free 32) (by decide +kernel) (pa_cons (pv 0) pa_nil)) (pv 1)) (pe_one (pe_callB (Z.callK K rfl rfl) (by rfl) (E.free 36) (by decide +kernel) (pa_cons (pe_lc (own := [("number", 2)]) (g := gName 2) rfl sc_are_wholes.nd (Z.pi_seqK K rfl (pv 0)) (blkOk_by (own := [("number", 2)]) (N := n_are_wholes) (sc := (defScope s_are_wholes)) (by decide +kernel)) (fun _ _ _ _ _ => (pg_name (i := 2) sc_are_wholes.nd rfl (Or.inl rfl))) (fun _ _ _ _ _ => pts_nil) (fun _ _ _ _ _ => (Z.pe_f F_is_whole_ramps (hr.mono (by decide)) hgd (by rfl) (E.glo 44) bd_is_whole_ramps (passL) (pa_cons (pv 2) pa_nil)))) pa_nil))))))), ?_⟩
    refine Z.i_start (σ := [some (.ref q), some (.int m), none]) rfl ?_
    try dsimp only [Z.cxK]
    k_call_by "za" 0
    refine Z.itT (by omega) ?_
    k_call_by "za" 0
    rw [decide_eq_true (by omega)]
    refine L2.iteT ?_
    k_call_by "za" 0
    refine Z.comp_list (xs := ns.map V.int) (fun i acc H' => acc = (List.replicate i true).map V.bl ∧ Same H H') ?_ ?_ ?_ ?_
    · intro D H' n
      exact ⟨rfl, n.same⟩
    · rintro i acc H' hi ⟨rfl, s⟩
      k_call_by "hq" 0
    · rintro D i acc x H' fD hx hD ⟨rfl, s⟩
      obtain ⟨z, hz, rfl⟩ := ints_at hx
      have hl := (List.getElem?_eq_some_iff.mp hz).1
      k_call_by "za" 0
      refine c_is_whole_ramps ?_
      refine Z.i_end (by k_call_by "hf" 0) (by rw [List.length_map, List.length_replicate, sizeLine_eq]; omega) fun H6 u => ⟨?_, by k_call_by "fr" 0⟩
      rw [List.replicate_succ', List.map_append]; rfl
    · rintro D acc H' fD hD ⟨rfl, s⟩
      k_call_by "za" 0
      rw [show (List.replicate (ns.map V.int).length true).all id = true from all_true _]
      exact k H' s
def sp_Inlet_u__init (K : PySem.W.Frag) : Sp := fun vz H Q Ex => ∃ (a dx : Addr) , vz = [.ref a] ∧ (H a = some (.ins (He.ga K "Inlet") dx [])) ∧ (∀ H', IsNode K H' a .inlet → Z.But a H H' → Q .non H')
theorem c_Inlet_u__init {K : PySem.W.Frag} {H : Hp} {Q : VK} {Ex : XK} {a dx : Addr} (h1 : H a = some (.ins (He.ga K "Inlet") dx [])) (k : ∀ H', IsNode K H' a .inlet → Z.But a H H' → Q .non H') : sp_Inlet_u__init K [.ref a] H Q Ex := ⟨a, dx, rfl, h1, k⟩
theorem ok_Inlet_u__init {g : Prop} {P : Program} {w : World} {K : PySem.W.Frag} {mg : Str → Option Value} {base : Heap} (E : Ev K mg) : Z.Pr g P w K mg base 4 (He.ma K (He.ga K "Inlet") "__init__") d_Inlet_u__init p_Inlet_u__init (sp_Inlet_u__init K) := by
  obtain ⟨fd, FD⟩ := E.fn 13 (d := d_Inlet_u__init)
  refine ⟨fd, FD, Z.FunD.okG FD sc_Inlet_u__init (fun vz H Q Ex h => ?_) (fun cdv A outer s H vz Q Ex hr hgd h => ?_)⟩
  · obtain ⟨_, _, rfl, _⟩ := h
    rfl
  · have hu := hr.units
    obtain ⟨a, dx, rfl, h1, k⟩ := h
    have F_Node_u__init := ok_Node_u__init (g := g) (P := P) (w := w) (base := base) E
    refine ⟨_, (Z.zs_one (Z.z_expr (Z.pe_cm F_Node_u__init (hr.mono (by decide)) hgd (by rfl) (E.glo 52) (Z.fxC_ok (E.own 53)) bd_Node_u__init passL (pa_cons (pv 0) (pa_cons pe_int (pa_cons pe_int pa_nil)))))), ?_⟩
    refine Z.i_start (σ := [some (.ref a)]) rfl ?_
    try dsimp only [Z.cxK]
    k_call_by "za" 0
    refine c_Node_u__init h1 (by simp [kinds]) (l := 0) (b := 0) (by decide) (by decide) fun H1 u1 => ?_
    k_call_by "za" 0
    exact k H1 ⟨dx, dx, u1.at, fun _ e => nomatch e⟩ (by k_call_by "fr" 0)
def sp_Outlet_u__init (K : PySem.W.Frag) : Sp := fun vz H Q Ex => ∃ (a dx : Addr) , vz = [.ref a] ∧ (H a = some (.ins (He.ga K "Outlet") dx [])) ∧ (∀ H', IsNode K H' a .outlet → Z.But a H H' → Q .non H')
theorem c_Outlet_u__init {K : PySem.W.Frag} {H : Hp} {Q : VK} {Ex : XK} {a dx : Addr} (h1 : H a = some (.ins (He.ga K "Outlet") dx [])) (k : ∀ H', IsNode K H' a .outlet → Z.But a H H' → Q .non H') : sp_Outlet_u__init K [.ref a] H Q Ex := ⟨a, dx, rfl, h1, k⟩
theorem ok_Outlet_u__init {g : Prop} {P : Program} {w : World} {K : PySem.W.Frag} {mg : Str → Option Value} {base : Heap} (E : Ev K mg) : Z.Pr g P w K mg base 4 (He.ma K (He.ga K "Outlet") "__init__") d_Outlet_u__init p_Outlet_u__init (sp_Outlet_u__init K) := by
  obtain ⟨fd, FD⟩ := E.fn 14 (d := d_Outlet_u__init)
  refine ⟨fd, FD, Z.FunD.okG FD sc_Outlet_u__init (fun vz H Q Ex h => ?_) (fun cdv A outer s H vz Q Ex hr hgd h => ?_)⟩
  · obtain ⟨_, _, rfl, _⟩ := h
    rfl
  · have hu := hr.units
    obtain ⟨a, dx, rfl, h1, k⟩ := h
    have F_Node_u__init := ok_Node_u__init (g := g) (P := P) (w := w) (base := base) E
    refine ⟨_, (Z.zs_one (Z.z_expr (Z.pe_cm F_Node_u__init (hr.mono (by decide)) hgd (by rfl) (E.glo 52) (Z.fxC_ok (E.own 53)) bd_Node_u__init passL (pa_cons (pv 0) (pa_cons pe_int (pa_cons pe_int pa_nil)))))), ?_⟩
    refine Z.i_start (σ := [some (.ref a)]) rfl ?_
    try dsimp only [Z.cxK]
    k_call_by "za" 0
    refine c_Node_u__init h1 (by simp [kinds]) (l := 0) (b := 0) (by decide) (by decide) fun H1 u1 => ?_
    k_call_by "za" 0
    exact k H1 ⟨dx, dx, u1.at, fun _ e => nomatch e⟩ (by k_call_by "fr" 0)
def sp_Gain_u__init (K : PySem.W.Frag) : Sp := fun vz H Q Ex => ∃ (a dx : Addr) (gn : Int) (l b : Nat), vz = [.ref a, .int gn, .int (l : Nat), .int (b : Nat)] ∧ (H a = some (.ins (He.ga K "Gain") dx [])) ∧ ((-9 ≤ gn ∧ gn ≤ 89) ∧ l ≤ 2 ∧ b ≤ 2) ∧ (∀ H', IsNode K H' a (.gain gn l b) → Z.But a H H' → Q .non H')
theorem c_Gain_u__init {K : PySem.W.Frag} {H : Hp} {Q : VK} {Ex : XK} {a dx : Addr} {gn : Int} {l b : Nat} (h1 : H a = some (.ins (He.ga K "Gain") dx [])) (h2 : (-9 ≤ gn ∧ gn ≤ 89) ∧ l ≤ 2 ∧ b ≤ 2) (k : ∀ H', IsNode K H' a (.gain gn l b) → Z.But a H H' → Q .non H') : sp_Gain_u__init K [.ref a, .int gn, .int (l : Nat), .int (b : Nat)] H Q Ex := ⟨a, dx, gn, l, b, rfl, h1, h2, k⟩
theorem ok_Gain_u__init {g : Prop} {P : Program} {w : World} {K : PySem.W.Frag} {mg : Str → Option Value} {base : Heap} (E : Ev K mg) : Z.Pr g P w K mg base 4 (He.ma K (He.ga K "Gain") "__init__") d_Gain_u__init p_Gain_u__init (sp_Gain_u__init K) := by
  obtain ⟨fd, FD⟩ := E.fn 15 (d := d_Gain_u__init)
  refine ⟨fd, FD, Z.FunD.okG FD sc_Gain_u__init (fun vz H Q Ex h => ?_) (fun cdv A outer s H vz Q Ex hr hgd h => ?_)⟩
  · obtain ⟨_, _, _, _, _, rfl, _⟩ := h
    rfl
  · have hu := hr.units
    obtain ⟨a, dx, gn, l, b, rfl, h1, h2, k⟩ := h
    have F_Node_u__init := ok_Node_u__init (g := g) (P := P) (w := w) (base := base) E
    have F_is_whole_ramps := ok_is_whole_ramps (g := g) (P := P) (w := w) (base := base) E
    have F_want := ok_want (g := g) (P := P) (w := w) (base := base) E
    have cl_Gain := E.cls 2
    have na_Gain_own_by := E.noat 109
    refine ⟨_, (Z.zs_cons (Z.z_expr (Z.pe_f F_want (hr.mono (by decide)) hgd (by rfl) (E.glo 45) bd_want (passL) (pa_cons (Z.pe_f F_is_whole_ramps (hr.mono (by decide)) hgd (by rfl) (E.glo 44) bd_is_whole_ramps (passL) (pa_cons (pv 1) pa_nil)) (pa_cons pe_str pa_nil))))
   (Z.zs_cons (Z.z_expr (Z.pe_cm F_Node_u__init (hr.mono (by decide)) hgd (by rfl) (E.glo 52) (Z.fxC_ok (E.own 53)) bd_Node_u__init passL (pa_cons (pv 0) (pa_cons (pv 2) (pa_cons (pv 3) pa_nil)))))
   (Z.zs_one (Z.z_fld (pv 0) (pv 1) rfl)))), ?_⟩
    refine Z.i_start (σ := [some (.ref a), some (.int gn), some (.int (l : Nat)), some (.int (b : Nat))]) rfl ?_
    try dsimp only [Z.cxK]
    k_call_by "za" 0
    refine c_is_whole_ramps ?_
    k_call_by "za" 0
    refine c_want ?_
    k_call_by "za" 0
    refine c_Node_u__init h1 (by simp [kinds]) (by have := h2; omega) (by have := h2; omega) fun H1 u1 => ?_
    k_call_by "za" 0
    rename_i H2 u2
    exact k H2 ⟨dx, dx, u2.at, fun _ e => nomatch e⟩ (by k_call_by "fr" 0)
def sp_Mix_u__init (K : PySem.W.Frag) : Sp := fun vz H Q Ex => ∃ (a dx : Addr) (n : Nat), vz = [.ref a, .int (n : Nat), .int 0, .int 0] ∧ (H a = some (.ins (He.ga K "Mix") dx [])) ∧ (1 ≤ n ∧ n ≤ 8) ∧ (∀ H', IsNode K H' a (.mix n) → Z.But a H H' → Q .non H')
theorem c_Mix_u__init {K : PySem.W.Frag} {H : Hp} {Q : VK} {Ex : XK} {a dx : Addr} {n : Nat} (h1 : H a = some (.ins (He.ga K "Mix") dx [])) (h2 : 1 ≤ n ∧ n ≤ 8) (k : ∀ H', IsNode K H' a (.mix n) → Z.But a H H' → Q .non H') : sp_Mix_u__init K [.ref a, .int (n : Nat), .int 0, .int 0] H Q Ex := ⟨a, dx, n, rfl, h1, h2, k⟩
theorem ok_Mix_u__init {g : Prop} {P : Program} {w : World} {K : PySem.W.Frag} {mg : Str → Option Value} {base : Heap} (E : Ev K mg) : Z.Pr g P w K mg base 4 (He.ma K (He.ga K "Mix") "__init__") d_Mix_u__init p_Mix_u__init (sp_Mix_u__init K) := by
  obtain ⟨fd, FD⟩ := E.fn 16 (d := d_Mix_u__init)
  refine ⟨fd, FD, Z.FunD.okG FD sc_Mix_u__init (fun vz H Q Ex h => ?_) (fun cdv A outer s H vz Q Ex hr hgd h => ?_)⟩
  · obtain ⟨_, _, _, rfl, _⟩ := h
    rfl
  · have hu := hr.units
    obtain ⟨a, dx, n, rfl, h1, h2, k⟩ := h
    have F_Node_u__init := ok_Node_u__init (g := g) (P := P) (w := w) (base := base) E
    have F_is_whole_from := ok_is_whole_from (g := g) (P := P) (w := w) (base := base) E
    have F_want := ok_want (g := g) (P := P) (w := w) (base := base) E
    have cl_Mix := E.cls 3
    have na_Mix_own_many := E.noat 110
    refine ⟨_, (Z.zs_cons (Z.z_expr (Z.pe_f F_want (hr.mono (by decide)) hgd (by rfl) (E.glo 45) bd_want (passL) (pa_cons (Z.pe_f F_is_whole_from (hr.mono (by decide)) hgd (by rfl) (E.glo 46) bd_is_whole_from (passL) (pa_cons (pv 1) (pa_cons pe_int (pa_cons (Z.pe_gint rfl (E.int 53)) pa_nil)))) (pa_cons pe_str pa_nil))))
   (Z.zs_cons (Z.z_expr (Z.pe_cm F_Node_u__init (hr.mono (by decide)) hgd (by rfl) (E.glo 52) (Z.fxC_ok (E.own 53)) bd_Node_u__init passL (pa_cons (pv 0) (pa_cons (pv 2) (pa_cons (pv 3) pa_nil)))))
   (Z.zs_one (Z.z_fld (pv 0) (pv 1) rfl)))), ?_⟩
    refine Z.i_start (σ := [some (.ref a), some (.int (n : Nat)), some (.int 0), some (.int 0)]) rfl ?_
    try dsimp only [Z.cxK]
    k_call_by "za" 0
    refine c_is_whole_from (by omega) (by omega) ?_
    k_call_by "za" 0
    refine c_want ?_
    k_call_by "za" 0
    refine c_Node_u__init h1 (by simp [kinds]) (l := 0) (b := 0) (by decide) (by decide) fun H1 u1 => ?_
    k_call_by "za" 0
    rename_i H2 u2
    exact k H2 ⟨dx, dx, u2.at, fun _ e => nomatch e⟩ (by k_call_by "fr" 0)
def sp_Times_u__init (K : PySem.W.Frag) : Sp := fun vz H Q Ex => ∃ (a dx : Addr) , vz = [.ref a, .int 0, .int 0] ∧ (H a = some (.ins (He.ga K "Times") dx [])) ∧ (∀ H', IsNode K H' a .times → Z.But a H H' → Q .non H')
theorem c_Times_u__init {K : PySem.W.Frag} {H : Hp} {Q : VK} {Ex : XK} {a dx : Addr} (h1 : H a = some (.ins (He.ga K "Times") dx [])) (k : ∀ H', IsNode K H' a .times → Z.But a H H' → Q .non H') : sp_Times_u__init K [.ref a, .int 0, .int 0] H Q Ex := ⟨a, dx, rfl, h1, k⟩
theorem ok_Times_u__init {g : Prop} {P : Program} {w : World} {K : PySem.W.Frag} {mg : Str → Option Value} {base : Heap} (E : Ev K mg) : Z.Pr g P w K mg base 4 (He.ma K (He.ga K "Times") "__init__") d_Times_u__init p_Times_u__init (sp_Times_u__init K) := by
  obtain ⟨fd, FD⟩ := E.fn 17 (d := d_Times_u__init)
  refine ⟨fd, FD, Z.FunD.okG FD sc_Times_u__init (fun vz H Q Ex h => ?_) (fun cdv A outer s H vz Q Ex hr hgd h => ?_)⟩
  · obtain ⟨_, _, rfl, _⟩ := h
    rfl
  · have hu := hr.units
    obtain ⟨a, dx, rfl, h1, k⟩ := h
    have F_Node_u__init := ok_Node_u__init (g := g) (P := P) (w := w) (base := base) E
    refine ⟨_, (Z.zs_one (Z.z_expr (Z.pe_cm F_Node_u__init (hr.mono (by decide)) hgd (by rfl) (E.glo 52) (Z.fxC_ok (E.own 53)) bd_Node_u__init passL (pa_cons (pv 0) (pa_cons (pv 1) (pa_cons (pv 2) pa_nil)))))), ?_⟩
    refine Z.i_start (σ := [some (.ref a), some (.int 0), some (.int 0)]) rfl ?_
    try dsimp only [Z.cxK]
    k_call_by "za" 0
    refine c_Node_u__init h1 (by simp [kinds]) (l := 0) (b := 0) (by decide) (by decide) fun H1 u1 => ?_
    k_call_by "za" 0
    exact k H1 ⟨dx, dx, u1.at, fun _ e => nomatch e⟩ (by k_call_by "fr" 0)
def sp_Choose_u__init (K : PySem.W.Frag) : Sp := fun vz H Q Ex => ∃ (a dx : Addr) , vz = [.ref a, .int 0, .int 0] ∧ (H a = some (.ins (He.ga K "Choose") dx [])) ∧ (∀ H', IsNode K H' a .choose → Z.But a H H' → Q .non H')
theorem c_Choose_u__init {K : PySem.W.Frag} {H : Hp} {Q : VK} {Ex : XK} {a dx : Addr} (h1 : H a = some (.ins (He.ga K "Choose") dx [])) (k : ∀ H', IsNode K H' a .choose → Z.But a H H' → Q .non H') : sp_Choose_u__init K [.ref a, .int 0, .int 0] H Q Ex := ⟨a, dx, rfl, h1, k⟩
theorem ok_Choose_u__init {g : Prop} {P : Program} {w : World} {K : PySem.W.Frag} {mg : Str → Option Value} {base : Heap} (E : Ev K mg) : Z.Pr g P w K mg base 4 (He.ma K (He.ga K "Choose") "__init__") d_Choose_u__init p_Choose_u__init (sp_Choose_u__init K) := by
  obtain ⟨fd, FD⟩ := E.fn 18 (d := d_Choose_u__init)
  refine ⟨fd, FD, Z.FunD.okG FD sc_Choose_u__init (fun vz H Q Ex h => ?_) (fun cdv A outer s H vz Q Ex hr hgd h => ?_)⟩
  · obtain ⟨_, _, rfl, _⟩ := h
    rfl
  · have hu := hr.units
    obtain ⟨a, dx, rfl, h1, k⟩ := h
    have F_Node_u__init := ok_Node_u__init (g := g) (P := P) (w := w) (base := base) E
    refine ⟨_, (Z.zs_one (Z.z_expr (Z.pe_cm F_Node_u__init (hr.mono (by decide)) hgd (by rfl) (E.glo 52) (Z.fxC_ok (E.own 53)) bd_Node_u__init passL (pa_cons (pv 0) (pa_cons (pv 1) (pa_cons (pv 2) pa_nil)))))), ?_⟩
    refine Z.i_start (σ := [some (.ref a), some (.int 0), some (.int 0)]) rfl ?_
    try dsimp only [Z.cxK]
    k_call_by "za" 0
    refine c_Node_u__init h1 (by simp [kinds]) (l := 0) (b := 0) (by decide) (by decide) fun H1 u1 => ?_
    k_call_by "za" 0
    exact k H1 ⟨dx, dx, u1.at, fun _ e => nomatch e⟩ (by k_call_by "fr" 0)
def sp_Own_u__init (K : PySem.W.Frag) : Sp := fun vz H Q Ex => ∃ (a dx : Addr) (ts : List Nat) (n : Nat) (q : Addr), vz = [.ref a, .ref (He.ga K "_law_deed"), .ref q, .int (n : Nat), .int 0, .int 0, .int 0] ∧ (H a = some (.ins (He.ga K "Own") dx [])) ∧ ((1 ≤ ts.length ∧ ts.length ≤ 4) ∧ (∀ t ∈ ts, 1 ≤ t ∧ t ≤ 8) ∧ 1 ≤ n ∧ n ≤ 8) ∧ (H q = some (.tup ((nats ts).map V.int))) ∧ (∀ H', IsNode K H' a (.own ts n) → Z.But a H H' → Q .non H')
theorem c_Own_u__init {K : PySem.W.Frag} {H : Hp} {Q : VK} {Ex : XK} {a dx : Addr} {ts : List Nat} {n : Nat} {q : Addr} (h1 : H a = some (.ins (He.ga K "Own") dx [])) (h2 : (1 ≤ ts.length ∧ ts.length ≤ 4) ∧ (∀ t ∈ ts, 1 ≤ t ∧ t ≤ 8) ∧ 1 ≤ n ∧ n ≤ 8) (h3 : H q = some (.tup ((nats ts).map V.int))) (k : ∀ H', IsNode K H' a (.own ts n) → Z.But a H H' → Q .non H') : sp_Own_u__init K [.ref a, .ref (He.ga K "_law_deed"), .ref q, .int (n : Nat), .int 0, .int 0, .int 0] H Q Ex := ⟨a, dx, ts, n, q, rfl, h1, h2, h3, k⟩
theorem ok_Own_u__init {g : Prop} {P : Program} {w : World} {K : PySem.W.Frag} {mg : Str → Option Value} {base : Heap} (E : Ev K mg) : Z.Pr g P w K mg base 4 (He.ma K (He.ga K "Own") "__init__") d_Own_u__init p_Own_u__init (sp_Own_u__init K) := by
  obtain ⟨fd, FD⟩ := E.fn 19 (d := d_Own_u__init)
  refine ⟨fd, FD, Z.FunD.okG FD sc_Own_u__init (fun vz H Q Ex h => ?_) (fun cdv A outer s H vz Q Ex hr hgd h => ?_)⟩
  · obtain ⟨_, _, _, _, _, rfl, _⟩ := h
    rfl
  · have hu := hr.units
    obtain ⟨a, dx, ts, n, q, rfl, h1, h2, h3, k⟩ := h
    have F_Node_u__init := ok_Node_u__init (g := g) (P := P) (w := w) (base := base) E
    have F_are_takes := ok_are_takes (g := g) (P := P) (w := w) (base := base) E
    have F_is_memory := ok_is_memory (g := g) (P := P) (w := w) (base := base) E
    have F_is_whole_from := ok_is_whole_from (g := g) (P := P) (w := w) (base := base) E
    have F_want := ok_want (g := g) (P := P) (w := w) (base := base) E
    have cl_Own := E.cls 6
    have na_Own_own_deed := E.noat 111
    have na_Own_own_first := E.noat 112
    have na_Own_own_gives := E.noat 113
    have na_Own_own_takes := E.noat 114
    refine ⟨_, (Z.zs_cons (Z.z_expr (Z.pe_f F_want (hr.mono (by decide)) hgd (by rfl) (E.glo 45) bd_want (passL) (pa_cons (Z.pe_f F_are_takes (hr.mono (by decide)) hgd (by rfl) (E.glo 55) bd_are_takes (passL) (pa_cons (pv 2) pa_nil)) (pa_cons pe_str pa_nil))))
   (Z.zs_cons (Z.z_expr (Z.pe_f F_want (hr.mono (by decide)) hgd (by rfl) (E.glo 45) bd_want (passL) (pa_cons (Z.pe_f F_is_whole_from (hr.mono (by decide)) hgd (by rfl) (E.glo 46) bd_is_whole_from (passL) (pa_cons (pv 3) (pa_cons pe_int (pa_cons (Z.pe_gint rfl (E.int 49)) pa_nil)))) (pa_cons pe_str pa_nil))))
   (Z.zs_cons (Z.z_expr (Z.pe_f F_want (hr.mono (by decide)) hgd (by rfl) (E.glo 45) bd_want (passL) (pa_cons (Z.pe_f F_is_memory (hr.mono (by decide)) hgd (by rfl) (E.glo 54) bd_is_memory (passL) (pa_cons (pv 4) pa_nil)) (pa_cons pe_str pa_nil))))
   (Z.zs_cons (Z.z_expr (Z.pe_cm F_Node_u__init (hr.mono (by decide)) hgd (by rfl) (E.glo 52) (Z.fxC_ok (E.own 53)) bd_Node_u__init passL (pa_cons (pv 0) (pa_cons (pv 5) (pa_cons (pv 6) pa_nil)))))
   (Z.zs_cons (Z.z_fld (pv 0) (pv 1) rfl)
   (Z.zs_cons (Z.z_fld (pv 0) (pv 2) rfl)
   (Z.zs_cons (Z.z_fld (pv 0) (pv 3) rfl)
   (Z.zs_one (Z.z_fld (pv 0) (pv 4) rfl))))))))), ?_⟩
    refine Z.i_start (σ := [some (.ref a), some (.ref (He.ga K "_law_deed")), some (.ref q), some (.int (n : Nat)), some (.int 0), some (.int 0), some (.int 0)]) rfl ?_
    try dsimp only [Z.cxK]
    k_call_by "za" 0
    refine c_are_takes h3 h2.1 h2.2.1 fun H0 s0 => ?_
    k_call_by "za" 0
    refine c_want ?_
    k_call_by "za" 0
    refine c_is_whole_from (by have := h2.2.2; omega) (by have := h2.2.2; omega) ?_
    k_call_by "za" 0
    refine c_want ?_
    k_call_by "za" 0
    refine c_is_memory ?_
    k_call_by "za" 0
    refine c_want ?_
    k_call_by "za" 0
    refine c_Node_u__init (s0 _ _ h1) (by simp [kinds]) (l := 0) (b := 0) (by decide) (by decide) fun H1 u1 => ?_
    k_call_by "za" 0
    rename_i H2 u2 H3 u3 H4 u4 H5 u5
    have qa : q ≠ a := (Z.ne_it h1 h3).symm
    exact k H5 ⟨dx, q, u5.at, fun ns e => by cases e; exact u5.get qa (u4.get qa (u3.get qa (u2.get qa (u1.get qa (s0 _ _ h3)))))⟩ ((Z.But.ofSame s0).trans ((((u1.but.trans u2.but).trans u3.but).trans u4.but).trans u5.but))
def sp_Up_u__init (K : PySem.W.Frag) : Sp := fun vz H Q Ex => ∃ (a dx : Addr) (n : Nat), vz = [.ref a, .int (n : Nat), .bl false, .int 0, .int 0] ∧ (H a = some (.ins (He.ga K "Up") dx [])) ∧ (1 ≤ n ∧ n ≤ 8) ∧ (∀ H', IsNode K H' a (.up n) → Z.But a H H' → Q .non H')
theorem c_Up_u__init {K : PySem.W.Frag} {H : Hp} {Q : VK} {Ex : XK} {a dx : Addr} {n : Nat} (h1 : H a = some (.ins (He.ga K "Up") dx [])) (h2 : 1 ≤ n ∧ n ≤ 8) (k : ∀ H', IsNode K H' a (.up n) → Z.But a H H' → Q .non H') : sp_Up_u__init K [.ref a, .int (n : Nat), .bl false, .int 0, .int 0] H Q Ex := ⟨a, dx, n, rfl, h1, h2, k⟩
theorem ok_Up_u__init {g : Prop} {P : Program} {w : World} {K : PySem.W.Frag} {mg : Str → Option Value} {base : Heap} (E : Ev K mg) : Z.Pr g P w K mg base 4 (He.ma K (He.ga K "Up") "__init__") d_Up_u__init p_Up_u__init (sp_Up_u__init K) := by
  obtain ⟨fd, FD⟩ := E.fn 20 (d := d_Up_u__init)
  refine ⟨fd, FD, Z.FunD.okG FD sc_Up_u__init (fun vz H Q Ex h => ?_) (fun cdv A outer s H vz Q Ex hr hgd h => ?_)⟩
  · obtain ⟨_, _, _, rfl, _⟩ := h
    rfl
  · have hu := hr.units
    obtain ⟨a, dx, n, rfl, h1, h2, k⟩ := h
    have F_Node_u__init := ok_Node_u__init (g := g) (P := P) (w := w) (base := base) E
    have F_is_whole_from := ok_is_whole_from (g := g) (P := P) (w := w) (base := base) E
    have F_want := ok_want (g := g) (P := P) (w := w) (base := base) E
    have cl_Up := E.cls 7
    have na_Up_own_hold := E.noat 115
    have na_Up_own_many := E.noat 116
    refine ⟨_, (Z.zs_cons (Z.z_expr (Z.pe_f F_want (hr.mono (by decide)) hgd (by rfl) (E.glo 45) bd_want (passL) (pa_cons (Z.pe_f F_is_whole_from (hr.mono (by decide)) hgd (by rfl) (E.glo 46) bd_is_whole_from (passL) (pa_cons (pv 1) (pa_cons pe_int (pa_cons (Z.pe_gint rfl (E.int 49)) pa_nil)))) (pa_cons pe_str pa_nil))))
   (Z.zs_cons (Z.z_expr (Z.pe_f F_want (hr.mono (by decide)) hgd (by rfl) (E.glo 45) bd_want (passL) (pa_cons (pe_callB (Z.cisiK K rfl) (by rfl) (E.free 39) (by decide +kernel) (pa_cons (pv 2) (pa_cons (pe_bltn (v := .ty "bool") (u := .type "bool") (by rfl) (E.free 42) (by decide +kernel) rfl) pa_nil))) (pa_cons pe_str pa_nil))))
   (Z.zs_cons (Z.z_expr (Z.pe_cm F_Node_u__init (hr.mono (by decide)) hgd (by rfl) (E.glo 52) (Z.fxC_ok (E.own 53)) bd_Node_u__init passL (pa_cons (pv 0) (pa_cons (pv 3) (pa_cons (pv 4) pa_nil)))))
   (Z.zs_cons (Z.z_fld (pv 0) (pv 1) rfl)
   (Z.zs_one (Z.z_fld (pv 0) (pv 2) rfl)))))), ?_⟩
    refine Z.i_start (σ := [some (.ref a), some (.int (n : Nat)), some (.bl false), some (.int 0), some (.int 0)]) rfl ?_
    try dsimp only [Z.cxK]
    k_call_by "za" 0
    refine c_is_whole_from (by omega) (by omega) ?_
    k_call_by "za" 0
    refine c_want ?_
    k_call_by "za" 0
    refine c_want ?_
    k_call_by "za" 0
    refine c_Node_u__init h1 (by simp [kinds]) (l := 0) (b := 0) (by decide) (by decide) fun H1 u1 => ?_
    k_call_by "za" 0
    rename_i H2 u2 H3 u3
    exact k H3 ⟨dx, dx, u3.at, fun _ e => nomatch e⟩ (by k_call_by "fr" 0)
def sp_Down_u__init (K : PySem.W.Frag) : Sp := fun vz H Q Ex => ∃ (a dx : Addr) (n : Nat), vz = [.ref a, .int (n : Nat), .int 0, .int 0] ∧ (H a = some (.ins (He.ga K "Down") dx [])) ∧ (1 ≤ n ∧ n ≤ 8) ∧ (∀ H', IsNode K H' a (.down n) → Z.But a H H' → Q .non H')
theorem c_Down_u__init {K : PySem.W.Frag} {H : Hp} {Q : VK} {Ex : XK} {a dx : Addr} {n : Nat} (h1 : H a = some (.ins (He.ga K "Down") dx [])) (h2 : 1 ≤ n ∧ n ≤ 8) (k : ∀ H', IsNode K H' a (.down n) → Z.But a H H' → Q .non H') : sp_Down_u__init K [.ref a, .int (n : Nat), .int 0, .int 0] H Q Ex := ⟨a, dx, n, rfl, h1, h2, k⟩
theorem ok_Down_u__init {g : Prop} {P : Program} {w : World} {K : PySem.W.Frag} {mg : Str → Option Value} {base : Heap} (E : Ev K mg) : Z.Pr g P w K mg base 4 (He.ma K (He.ga K "Down") "__init__") d_Down_u__init p_Down_u__init (sp_Down_u__init K) := by
  obtain ⟨fd, FD⟩ := E.fn 21 (d := d_Down_u__init)
  refine ⟨fd, FD, Z.FunD.okG FD sc_Down_u__init (fun vz H Q Ex h => ?_) (fun cdv A outer s H vz Q Ex hr hgd h => ?_)⟩
  · obtain ⟨_, _, _, rfl, _⟩ := h
    rfl
  · have hu := hr.units
    obtain ⟨a, dx, n, rfl, h1, h2, k⟩ := h
    have F_Node_u__init := ok_Node_u__init (g := g) (P := P) (w := w) (base := base) E
    have F_is_whole_from := ok_is_whole_from (g := g) (P := P) (w := w) (base := base) E
    have F_want := ok_want (g := g) (P := P) (w := w) (base := base) E
    have cl_Down := E.cls 8
    have na_Down_own_many := E.noat 117
    refine ⟨_, (Z.zs_cons (Z.z_expr (Z.pe_f F_want (hr.mono (by decide)) hgd (by rfl) (E.glo 45) bd_want (passL) (pa_cons (Z.pe_f F_is_whole_from (hr.mono (by decide)) hgd (by rfl) (E.glo 46) bd_is_whole_from (passL) (pa_cons (pv 1) (pa_cons pe_int (pa_cons (Z.pe_gint rfl (E.int 49)) pa_nil)))) (pa_cons pe_str pa_nil))))
   (Z.zs_cons (Z.z_expr (Z.pe_cm F_Node_u__init (hr.mono (by decide)) hgd (by rfl) (E.glo 52) (Z.fxC_ok (E.own 53)) bd_Node_u__init passL (pa_cons (pv 0) (pa_cons (pv 2) (pa_cons (pv 3) pa_nil)))))
   (Z.zs_one (Z.z_fld (pv 0) (pv 1) rfl)))), ?_⟩
    refine Z.i_start (σ := [some (.ref a), some (.int (n : Nat)), some (.int 0), some (.int 0)]) rfl ?_
    try dsimp only [Z.cxK]
    k_call_by "za" 0
    refine c_is_whole_from (by omega) (by omega) ?_
    k_call_by "za" 0
    refine c_want ?_
    k_call_by "za" 0
    refine c_Node_u__init h1 (by simp [kinds]) (l := 0) (b := 0) (by decide) (by decide) fun H1 u1 => ?_
    k_call_by "za" 0
    rename_i H2 u2
    exact k H2 ⟨dx, dx, u2.at, fun _ e => nomatch e⟩ (by k_call_by "fr" 0)
def sp_Resample_u__init (K : PySem.W.Frag) : Sp := fun vz H Q Ex => ∃ (a dx : Addr) (ru rd : Nat) (q : Addr), vz = [.ref a, .int (ru : Nat), .int (rd : Nat), .ref q, .int 0, .int 0] ∧ (H a = some (.ins (He.ga K "Resample") dx [])) ∧ ((1 ≤ ru ∧ ru ≤ 8) ∧ 1 ≤ rd ∧ rd ≤ 8) ∧ (H q = some (.lst [V.int 1, V.int 2])) ∧ (∀ H', IsNode K H' a (.resample ru rd) → Z.But a H H' → Q .non H')
theorem c_Resample_u__init {K : PySem.W.Frag} {H : Hp} {Q : VK} {Ex : XK} {a dx : Addr} {ru rd : Nat} {q : Addr} (h1 : H a = some (.ins (He.ga K "Resample") dx [])) (h2 : (1 ≤ ru ∧ ru ≤ 8) ∧ 1 ≤ rd ∧ rd ≤ 8) (h3 : H q = some (.lst [V.int 1, V.int 2])) (k : ∀ H', IsNode K H' a (.resample ru rd) → Z.But a H H' → Q .non H') : sp_Resample_u__init K [.ref a, .int (ru : Nat), .int (rd : Nat), .ref q, .int 0, .int 0] H Q Ex := ⟨a, dx, ru, rd, q, rfl, h1, h2, h3, k⟩
theorem ok_Resample_u__init {g : Prop} {P : Program} {w : World} {K : PySem.W.Frag} {mg : Str → Option Value} {base : Heap} (E : Ev K mg) : Z.Pr g P w K mg base 4 (He.ma K (He.ga K "Resample") "__init__") d_Resample_u__init p_Resample_u__init (sp_Resample_u__init K) := by
  obtain ⟨fd, FD⟩ := E.fn 22 (d := d_Resample_u__init)
  refine ⟨fd, FD, Z.FunD.okG FD sc_Resample_u__init (fun vz H Q Ex h => ?_) (fun cdv A outer s H vz Q Ex hr hgd h => ?_)⟩
  · obtain ⟨_, _, _, _, _, rfl, _⟩ := h
    rfl
  · have hu := hr.units
    obtain ⟨a, dx, ru, rd, q, rfl, h1, h2, h3, k⟩ := h
    have F_Node_u__init := ok_Node_u__init (g := g) (P := P) (w := w) (base := base) E
    have F_are_wholes := ok_are_wholes (g := g) (P := P) (w := w) (base := base) E
    have F_is_whole_from := ok_is_whole_from (g := g) (P := P) (w := w) (base := base) E
    have F_want := ok_want (g := g) (P := P) (w := w) (base := base) E
    have cl_Resample := E.cls 9
    have na_Resample_own_down := E.noat 118
    have na_Resample_own_numbers := E.noat 119
    have na_Resample_own_up := E.noat 120
    refine ⟨_, (Z.zs_cons (Z.z_expr (Z.pe_f F_want (hr.mono (by decide)) hgd (by rfl) (E.glo 45) bd_want (passL) (pa_cons (Z.pe_f F_is_whole_from (hr.mono (by decide)) hgd (by rfl) (E.glo 46) bd_is_whole_from (passL) (pa_cons (pv 1) (pa_cons pe_int (pa_cons (Z.pe_gint rfl (E.int 49)) pa_nil)))) (pa_cons pe_str pa_nil))))
   (Z.zs_cons (Z.z_expr (Z.pe_f F_want (hr.mono (by decide)) hgd (by rfl) (E.glo 45) bd_want (passL) (pa_cons (Z.pe_f F_is_whole_from (hr.mono (by decide)) hgd (by rfl) (E.glo 46) bd_is_whole_from (passL) (pa_cons (pv 2) (pa_cons pe_int (pa_cons (Z.pe_gint rfl (E.int 49)) pa_nil)))) (pa_cons pe_str pa_nil))))
   (Z.zs_cons (Z.z_expr (Z.pe_f F_want (hr.mono (by decide)) hgd (by rfl) (E.glo 45) bd_want (passL) (pa_cons (Z.pe_f F_are_wholes (hr.mono (by decide)) hgd (by rfl) (E.glo 56) bd_are_wholes (passL) (pa_cons (pv 3) (pa_cons (Z.pe_gint rfl (E.int 57)) pa_nil))) (pa_cons pe_str pa_nil))))
   (Z.zs_cons (Z.z_expr (Z.pe_cm F_Node_u__init (hr.mono (by decide)) hgd (by rfl) (E.glo 52) (Z.fxC_ok (E.own 53)) bd_Node_u__init passL (pa_cons (pv 0) (pa_cons (pv 4) (pa_cons (pv 5) pa_nil)))))
   (Z.zs_cons (Z.z_fld (pv 0) (pv 1) rfl)
   (Z.zs_cons (Z.z_fld (pv 0) (pv 2) rfl)
   (Z.zs_one (Z.z_fld (pv 0) (pe_callTy (Z.ctupleK K rfl) (by rfl) (E.free 51) (by decide +kernel) (pa_cons (pv 3) pa_nil)) rfl)))))))), ?_⟩
    refine Z.i_start (σ := [some (.ref a), some (.int (ru : Nat)), some (.int (rd : Nat)), some (.ref q), some (.int 0), some (.int 0)]) rfl ?_
    try dsimp only [Z.cxK]
    k_call_by "za" 0
    refine c_is_whole_from (by omega) (by omega) ?_
    k_call_by "za" 0
    refine c_want ?_
    k_call_by "za" 0
    refine c_is_whole_from (by omega) (by omega) ?_
    k_call_by "za" 0
    refine c_want ?_
    k_call_by "za" 0
    refine c_are_wholes (ns := [1, 2]) h3 (by decide) (by decide) (by decide) fun H0 s0 => ?_
    k_call_by "za" 0
    refine c_want ?_
    k_call_by "za" 0
    refine c_Node_u__init (s0 _ _ h1) (by simp [kinds]) (l := 0) (b := 0) (by decide) (by decide) fun H1 u1 => ?_
    k_call_by "za" 0
    rename_i H2 u2 H3 u3
    have qa : q ≠ a := (Z.ne_il h1 h3).symm
    have q3 := u3.get qa (u2.get qa (u1.get qa (s0 _ _ h3)))
    refine Z.i_tupleL q3 fun s H4 n4 => ?_
    k_call_by "za" 0
    rename_i H5 u5
    exact k H5 ⟨dx, s, u5.at, fun ns e => by cases e; exact u5.get (n4.ne' u3.at) n4.at⟩ ((Z.But.ofSame s0).trans ((((u1.but.trans u2.but).trans u3.but).new n4).trans u5.but))
def sp_Node_takes (K : PySem.W.Frag) : Sp := fun vz H Q Ex => ∃ (a : Addr), vz = [.ref a] ∧ (∀ r H', Z.New H r (.tup [.int 1]) H' → Q (.ref r) H')
theorem c_Node_takes {K : PySem.W.Frag} {H : Hp} {Q : VK} {Ex : XK} {a : Addr}  (k : ∀ r H', Z.New H r (.tup [.int 1]) H' → Q (.ref r) H') : sp_Node_takes K [.ref a] H Q Ex := ⟨a, rfl, k⟩
theorem ok_Node_takes {g : Prop} {P : Program} {w : World} {K : PySem.W.Frag} {mg : Str → Option Value} {base : Heap} (E : Ev K mg) : Z.Pr g P w K mg base 1 (He.ma K (He.ga K "Node") "takes") d_Node_takes p_Node_takes (sp_Node_takes K) := by
  obtain ⟨fd, FD⟩ := E.fn 23 (d := d_Node_takes)
  refine ⟨fd, FD, Z.FunD.okG FD sc_Node_takes (fun vz H Q Ex h => ?_) (fun cdv A outer s H vz Q Ex hr hgd h => ?_)⟩
  · obtain ⟨_, rfl, _⟩ := h
    rfl
  · have hu := hr.units
    obtain ⟨a, rfl, k⟩ := h
    refine ⟨_, (Z.zs_one (Z.z_ret (pe_tup (pa_cons pe_int pa_nil)))), ?_⟩
    refine Z.i_start (σ := [some (.ref a)]) rfl ?_
    try dsimp only [Z.cxK]
    k_call_by "za" 0
    exact k _ _ (by assumption)
def sp_Inlet_takes (K : PySem.W.Frag) : Sp := fun vz H Q Ex => ∃ (a : Addr) , vz = [.ref a] ∧ (IsNode K H a .inlet) ∧ (∀ r H', Same H H' → H' r = some (.tup ((Nd.tk .inlet).map V.int)) → Q (.ref r) H')
theorem c_Inlet_takes {K : PySem.W.Frag} {H : Hp} {Q : VK} {Ex : XK} {a : Addr} (h1 : IsNode K H a .inlet) (k : ∀ r H', Same H H' → H' r = some (.tup ((Nd.tk .inlet).map V.int)) → Q (.ref r) H') : sp_Inlet_takes K [.ref a] H Q Ex := ⟨a, rfl, h1, k⟩
theorem ok_Inlet_takes {g : Prop} {P : Program} {w : World} {K : PySem.W.Frag} {mg : Str → Option Value} {base : Heap} (E : Ev K mg) : Z.Pr g P w K mg base 1 (He.ma K (He.ga K "Inlet") "takes") d_Inlet_takes p_Inlet_takes (sp_Inlet_takes K) := by
  obtain ⟨fd, FD⟩ := E.fn 24 (d := d_Inlet_takes)
  refine ⟨fd, FD, Z.FunD.okG FD sc_Inlet_takes (fun vz H Q Ex h => ?_) (fun cdv A outer s H vz Q Ex hr hgd h => ?_)⟩
  · obtain ⟨_, rfl, _⟩ := h
    rfl
  · have hu := hr.units
    obtain ⟨a, rfl, h1, k⟩ := h
    refine ⟨_, (Z.zs_one (Z.z_ret (pe_tup pa_nil))), ?_⟩
    refine Z.i_start (σ := [some (.ref a)]) rfl ?_
    try dsimp only [Z.cxK]
    obtain ⟨dx, s, h1, g1⟩ := h1
    dsimp only [Nd.fs, Nd.cls] at h1
    k_call_by "za" 0
    rename_i r H1 n1
    exact k r H1 n1.same n1.at
def sp_Mix_takes (K : PySem.W.Frag) : Sp := fun vz H Q Ex => ∃ (a : Addr) (n : Nat), vz = [.ref a] ∧ (IsNode K H a (.mix n)) ∧ (1 ≤ n ∧ n ≤ 8) ∧ (∀ r H', Same H H' → H' r = some (.tup ((Nd.tk (.mix n)).map V.int)) → Q (.ref r) H')
theorem c_Mix_takes {K : PySem.W.Frag} {H : Hp} {Q : VK} {Ex : XK} {a : Addr} {n : Nat} (h1 : IsNode K H a (.mix n)) (h2 : 1 ≤ n ∧ n ≤ 8) (k : ∀ r H', Same H H' → H' r = some (.tup ((Nd.tk (.mix n)).map V.int)) → Q (.ref r) H') : sp_Mix_takes K [.ref a] H Q Ex := ⟨a, n, rfl, h1, h2, k⟩
theorem ok_Mix_takes {g : Prop} {P : Program} {w : World} {K : PySem.W.Frag} {mg : Str → Option Value} {base : Heap} (E : Ev K mg) : Z.Pr g P w K mg base 1 (He.ma K (He.ga K "Mix") "takes") d_Mix_takes p_Mix_takes (sp_Mix_takes K) := by
  obtain ⟨fd, FD⟩ := E.fn 25 (d := d_Mix_takes)
  refine ⟨fd, FD, Z.FunD.okG FD sc_Mix_takes (fun vz H Q Ex h => ?_) (fun cdv A outer s H vz Q Ex hr hgd h => ?_)⟩
  · obtain ⟨_, _, rfl, _⟩ := h
    rfl
  · have hu := hr.units
    obtain ⟨a, n, rfl, h1, h2, k⟩ := h
    have cl_Mix := E.cls 3
    have na_Mix_own_many := E.noat 110
    refine ⟨_, (Z.zs_one (Z.z_ret (pe_op (Z.opMulK K rfl) (pe_tup (pa_cons pe_int pa_nil)) (Z.pe_fldK K rfl (pv 0) rfl)))), ?_⟩
    refine Z.i_start (σ := [some (.ref a)]) rfl ?_
    try dsimp only [Z.cxK]
    obtain ⟨dx, s, h1, g1⟩ := h1
    dsimp only [Nd.fs, Nd.cls] at h1
    
    k_call_by "za" 0
    refine Z.i_mulTI (a := .int 1) (by k_call_by "hf" 0) (by omega) fun r H' s' e => ?_
    refine k _ _ (by k_call_by "fr" 0) ?_
    rw [e]
    unfold Nd.tk Nd.takes nats
    simp
def sp_Times_takes (K : PySem.W.Frag) : Sp := fun vz H Q Ex => ∃ (a : Addr) , vz = [.ref a] ∧ (IsNode K H a .times) ∧ (∀ r H', Same H H' → H' r = some (.tup ((Nd.tk .times).map V.int)) → Q (.ref r) H')
theorem c_Times_takes {K : PySem.W.Frag} {H : Hp} {Q : VK} {Ex : XK} {a : Addr} (h1 : IsNode K H a .times) (k : ∀ r H', Same H H' → H' r = some (.tup ((Nd.tk .times).map V.int)) → Q (.ref r) H') : sp_Times_takes K [.ref a] H Q Ex := ⟨a, rfl, h1, k⟩
theorem ok_Times_takes {g : Prop} {P : Program} {w : World} {K : PySem.W.Frag} {mg : Str → Option Value} {base : Heap} (E : Ev K mg) : Z.Pr g P w K mg base 1 (He.ma K (He.ga K "Times") "takes") d_Times_takes p_Times_takes (sp_Times_takes K) := by
  obtain ⟨fd, FD⟩ := E.fn 26 (d := d_Times_takes)
  refine ⟨fd, FD, Z.FunD.okG FD sc_Times_takes (fun vz H Q Ex h => ?_) (fun cdv A outer s H vz Q Ex hr hgd h => ?_)⟩
  · obtain ⟨_, rfl, _⟩ := h
    rfl
  · have hu := hr.units
    obtain ⟨a, rfl, h1, k⟩ := h
    refine ⟨_, (Z.zs_one (Z.z_ret (pe_tup (pa_cons pe_int (pa_cons pe_int pa_nil))))), ?_⟩
    refine Z.i_start (σ := [some (.ref a)]) rfl ?_
    try dsimp only [Z.cxK]
    obtain ⟨dx, s, h1, g1⟩ := h1
    dsimp only [Nd.fs, Nd.cls] at h1
    k_call_by "za" 0
    rename_i r H1 n1
    exact k r H1 n1.same n1.at
def sp_Choose_takes (K : PySem.W.Frag) : Sp := fun vz H Q Ex => ∃ (a : Addr) , vz = [.ref a] ∧ (IsNode K H a .choose) ∧ (∀ r H', Same H H' → H' r = some (.tup ((Nd.tk .choose).map V.int)) → Q (.ref r) H')
theorem c_Choose_takes {K : PySem.W.Frag} {H : Hp} {Q : VK} {Ex : XK} {a : Addr} (h1 : IsNode K H a .choose) (k : ∀ r H', Same H H' → H' r = some (.tup ((Nd.tk .choose).map V.int)) → Q (.ref r) H') : sp_Choose_takes K [.ref a] H Q Ex := ⟨a, rfl, h1, k⟩
theorem ok_Choose_takes {g : Prop} {P : Program} {w : World} {K : PySem.W.Frag} {mg : Str → Option Value} {base : Heap} (E : Ev K mg) : Z.Pr g P w K mg base 1 (He.ma K (He.ga K "Choose") "takes") d_Choose_takes p_Choose_takes (sp_Choose_takes K) := by
  obtain ⟨fd, FD⟩ := E.fn 27 (d := d_Choose_takes)
  refine ⟨fd, FD, Z.FunD.okG FD sc_Choose_takes (fun vz H Q Ex h => ?_) (fun cdv A outer s H vz Q Ex hr hgd h => ?_)⟩
  · obtain ⟨_, rfl, _⟩ := h
    rfl
  · have hu := hr.units
    obtain ⟨a, rfl, h1, k⟩ := h
    refine ⟨_, (Z.zs_one (Z.z_ret (pe_tup (pa_cons pe_int (pa_cons pe_int (pa_cons pe_int pa_nil)))))), ?_⟩
    refine Z.i_start (σ := [some (.ref a)]) rfl ?_
    try dsimp only [Z.cxK]
    obtain ⟨dx, s, h1, g1⟩ := h1
    dsimp only [Nd.fs, Nd.cls] at h1
    k_call_by "za" 0
    rename_i r H1 n1
    exact k r H1 n1.same n1.at
def sp_Own_takes (K : PySem.W.Frag) : Sp := fun vz H Q Ex => ∃ (a : Addr) (ts : List Nat) (n : Nat), vz = [.ref a] ∧ (IsNode K H a (.own ts n)) ∧ ((1 ≤ ts.length ∧ ts.length ≤ 4) ∧ (∀ t ∈ ts, 1 ≤ t ∧ t ≤ 8) ∧ 1 ≤ n ∧ n ≤ 8) ∧ (∀ r H', Same H H' → H' r = some (.tup ((Nd.tk (.own ts n)).map V.int)) → Q (.ref r) H')
theorem c_Own_takes {K : PySem.W.Frag} {H : Hp} {Q : VK} {Ex : XK} {a : Addr} {ts : List Nat} {n : Nat} (h1 : IsNode K H a (.own ts n)) (h2 : (1 ≤ ts.length ∧ ts.length ≤ 4) ∧ (∀ t ∈ ts, 1 ≤ t ∧ t ≤ 8) ∧ 1 ≤ n ∧ n ≤ 8) (k : ∀ r H', Same H H' → H' r = some (.tup ((Nd.tk (.own ts n)).map V.int)) → Q (.ref r) H') : sp_Own_takes K [.ref a] H Q Ex := ⟨a, ts, n, rfl, h1, h2, k⟩
theorem ok_Own_takes {g : Prop} {P : Program} {w : World} {K : PySem.W.Frag} {mg : Str → Option Value} {base : Heap} (E : Ev K mg) : Z.Pr g P w K mg base 1 (He.ma K (He.ga K "Own") "takes") d_Own_takes p_Own_takes (sp_Own_takes K) := by
  obtain ⟨fd, FD⟩ := E.fn 28 (d := d_Own_takes)
  refine ⟨fd, FD, Z.FunD.okG FD sc_Own_takes (fun vz H Q Ex h => ?_) (fun cdv A outer s H vz Q Ex hr hgd h => ?_)⟩
  · obtain ⟨_, _, _, rfl, _⟩ := h
    rfl
  · have hu := hr.units
    obtain ⟨a, ts, n, rfl, h1, h2, k⟩ := h
    have cl_Own := E.cls 6
    have na_Own_own_takes := E.noat 114
    refine ⟨_, (Z.zs_one (Z.z_ret (Z.pe_fldK K rfl (pv 0) rfl))), ?_⟩
    refine Z.i_start (σ := [some (.ref a)]) rfl ?_
    try dsimp only [Z.cxK]
    obtain ⟨dx, s, h1, g1⟩ := h1
    dsimp only [Nd.fs, Nd.cls] at h1
    k_call_by "za" 0
    exact k s H (Same.refl _) (g1 _ rfl)
def sp_Down_takes (K : PySem.W.Frag) : Sp := fun vz H Q Ex => ∃ (a : Addr) (n : Nat), vz = [.ref a] ∧ (IsNode K H a (.down n)) ∧ (1 ≤ n ∧ n ≤ 8) ∧ (∀ r H', Same H H' → H' r = some (.tup ((Nd.tk (.down n)).map V.int)) → Q (.ref r) H')
theorem c_Down_takes {K : PySem.W.Frag} {H : Hp} {Q : VK} {Ex : XK} {a : Addr} {n : Nat} (h1 : IsNode K H a (.down n)) (h2 : 1 ≤ n ∧ n ≤ 8) (k : ∀ r H', Same H H' → H' r = some (.tup ((Nd.tk (.down n)).map V.int)) → Q (.ref r) H') : sp_Down_takes K [.ref a] H Q Ex := ⟨a, n, rfl, h1, h2, k⟩
theorem ok_Down_takes {g : Prop} {P : Program} {w : World} {K : PySem.W.Frag} {mg : Str → Option Value} {base : Heap} (E : Ev K mg) : Z.Pr g P w K mg base 1 (He.ma K (He.ga K "Down") "takes") d_Down_takes p_Down_takes (sp_Down_takes K) := by
  obtain ⟨fd, FD⟩ := E.fn 29 (d := d_Down_takes)
  refine ⟨fd, FD, Z.FunD.okG FD sc_Down_takes (fun vz H Q Ex h => ?_) (fun cdv A outer s H vz Q Ex hr hgd h => ?_)⟩
  · obtain ⟨_, _, rfl, _⟩ := h
    rfl
  · have hu := hr.units
    obtain ⟨a, n, rfl, h1, h2, k⟩ := h
    have cl_Down := E.cls 8
    have na_Down_own_many := E.noat 117
    refine ⟨_, (Z.zs_one (Z.z_ret (pe_tup (pa_cons (Z.pe_fldK K rfl (pv 0) rfl) pa_nil)))), ?_⟩
    refine Z.i_start (σ := [some (.ref a)]) rfl ?_
    try dsimp only [Z.cxK]
    obtain ⟨dx, s, h1, g1⟩ := h1
    dsimp only [Nd.fs, Nd.cls] at h1
    k_call_by "za" 0
    rename_i r H1 n1
    exact k r H1 n1.same n1.at
def sp_Resample_takes (K : PySem.W.Frag) : Sp := fun vz H Q Ex => ∃ (a : Addr) (ru rd : Nat), vz = [.ref a] ∧ (IsNode K H a (.resample ru rd)) ∧ ((1 ≤ ru ∧ ru ≤ 8) ∧ 1 ≤ rd ∧ rd ≤ 8) ∧ (∀ r H', Same H H' → H' r = some (.tup ((Nd.tk (.resample ru rd)).map V.int)) → Q (.ref r) H')
theorem c_Resample_takes {K : PySem.W.Frag} {H : Hp} {Q : VK} {Ex : XK} {a : Addr} {ru rd : Nat} (h1 : IsNode K H a (.resample ru rd)) (h2 : (1 ≤ ru ∧ ru ≤ 8) ∧ 1 ≤ rd ∧ rd ≤ 8) (k : ∀ r H', Same H H' → H' r = some (.tup ((Nd.tk (.resample ru rd)).map V.int)) → Q (.ref r) H') : sp_Resample_takes K [.ref a] H Q Ex := ⟨a, ru, rd, rfl, h1, h2, k⟩
theorem ok_Resample_takes {g : Prop} {P : Program} {w : World} {K : PySem.W.Frag} {mg : Str → Option Value} {base : Heap} (E : Ev K mg) : Z.Pr g P w K mg base 1 (He.ma K (He.ga K "Resample") "takes") d_Resample_takes p_Resample_takes (sp_Resample_takes K) := by
  obtain ⟨fd, FD⟩ := E.fn 30 (d := d_Resample_takes)
  refine ⟨fd, FD, Z.FunD.okG FD sc_Resample_takes (fun vz H Q Ex h => ?_) (fun cdv A outer s H vz Q Ex hr hgd h => ?_)⟩
  · obtain ⟨_, _, _, rfl, _⟩ := h
    rfl
  · have hu := hr.units
    obtain ⟨a, ru, rd, rfl, h1, h2, k⟩ := h
    have cl_Resample := E.cls 9
    have na_Resample_own_down := E.noat 118
    refine ⟨_, (Z.zs_one (Z.z_ret (pe_tup (pa_cons (Z.pe_fldK K rfl (pv 0) rfl) pa_nil)))), ?_⟩
    refine Z.i_start (σ := [some (.ref a)]) rfl ?_
    try dsimp only [Z.cxK]
    obtain ⟨dx, s, h1, g1⟩ := h1
    dsimp only [Nd.fs, Nd.cls] at h1
    k_call_by "za" 0
    rename_i r H1 n1
    exact k r H1 n1.same n1.at
abbrev Ms_takes (K : PySem.W.Frag) : List Z.MA := [⟨He.ga K "Inlet", 1, fun _ vs _ => vs, sp_Inlet_takes K⟩, ⟨He.ga K "Outlet", 1, fun _ vs _ => vs, sp_Node_takes K⟩, ⟨He.ga K "Gain", 1, fun _ vs _ => vs, sp_Node_takes K⟩, ⟨He.ga K "Mix", 1, fun _ vs _ => vs, sp_Mix_takes K⟩, ⟨He.ga K "Times", 1, fun _ vs _ => vs, sp_Times_takes K⟩, ⟨He.ga K "Choose", 1, fun _ vs _ => vs, sp_Choose_takes K⟩, ⟨He.ga K "Own", 1, fun _ vs _ => vs, sp_Own_takes K⟩, ⟨He.ga K "Up", 1, fun _ vs _ => vs, sp_Node_takes K⟩, ⟨He.ga K "Down", 1, fun _ vs _ => vs, sp_Down_takes K⟩, ⟨He.ga K "Resample", 1, fun _ vs _ => vs, sp_Resample_takes K⟩]
def sp_Node_gives (K : PySem.W.Frag) : Sp := fun vz H Q Ex => ∃ (a : Addr), vz = [.ref a] ∧ (Q (.int 1) H)
theorem c_Node_gives {K : PySem.W.Frag} {H : Hp} {Q : VK} {Ex : XK} {a : Addr}  (k : Q (.int 1) H) : sp_Node_gives K [.ref a] H Q Ex := ⟨a, rfl, k⟩
theorem ok_Node_gives {g : Prop} {P : Program} {w : World} {K : PySem.W.Frag} {mg : Str → Option Value} {base : Heap} (E : Ev K mg) : Z.Pr g P w K mg base 1 (He.ma K (He.ga K "Node") "gives") d_Node_gives p_Node_gives (sp_Node_gives K) := by
  obtain ⟨fd, FD⟩ := E.fn 31 (d := d_Node_gives)
  refine ⟨fd, FD, Z.FunD.okG FD sc_Node_gives (fun vz H Q Ex h => ?_) (fun cdv A outer s H vz Q Ex hr hgd h => ?_)⟩
  · obtain ⟨_, rfl, _⟩ := h
    rfl
  · have hu := hr.units
    obtain ⟨a, rfl, k⟩ := h
    refine ⟨_, (Z.zs_one (Z.z_ret pe_int)), ?_⟩
    refine Z.i_start (σ := [some (.ref a)]) rfl ?_
    try dsimp only [Z.cxK]
    k_call_by "za" 0
    exact k
def sp_Outlet_gives (K : PySem.W.Frag) : Sp := fun vz H Q Ex => ∃ (a : Addr) , vz = [.ref a] ∧ (IsNode K H a .outlet) ∧ (Q (.int (Nd.gives .outlet : Nat)) H)
theorem c_Outlet_gives {K : PySem.W.Frag} {H : Hp} {Q : VK} {Ex : XK} {a : Addr} (h1 : IsNode K H a .outlet) (k : Q (.int (Nd.gives .outlet : Nat)) H) : sp_Outlet_gives K [.ref a] H Q Ex := ⟨a, rfl, h1, k⟩
theorem ok_Outlet_gives {g : Prop} {P : Program} {w : World} {K : PySem.W.Frag} {mg : Str → Option Value} {base : Heap} (E : Ev K mg) : Z.Pr g P w K mg base 1 (He.ma K (He.ga K "Outlet") "gives") d_Outlet_gives p_Outlet_gives (sp_Outlet_gives K) := by
  obtain ⟨fd, FD⟩ := E.fn 32 (d := d_Outlet_gives)
  refine ⟨fd, FD, Z.FunD.okG FD sc_Outlet_gives (fun vz H Q Ex h => ?_) (fun cdv A outer s H vz Q Ex hr hgd h => ?_)⟩
  · obtain ⟨_, rfl, _⟩ := h
    rfl
  · have hu := hr.units
    obtain ⟨a, rfl, h1, k⟩ := h
    refine ⟨_, (Z.zs_one (Z.z_ret pe_int)), ?_⟩
    refine Z.i_start (σ := [some (.ref a)]) rfl ?_
    try dsimp only [Z.cxK]
    obtain ⟨dx, s, h1, g1⟩ := h1
    dsimp only [Nd.fs, Nd.cls] at h1
    k_call_by "za" 0
    exact k
def sp_Own_gives (K : PySem.W.Frag) : Sp := fun vz H Q Ex => ∃ (a : Addr) (ts : List Nat) (n : Nat), vz = [.ref a] ∧ (IsNode K H a (.own ts n)) ∧ (Q (.int (Nd.gives (.own ts n) : Nat)) H)
theorem c_Own_gives {K : PySem.W.Frag} {H : Hp} {Q : VK} {Ex : XK} {a : Addr} {ts : List Nat} {n : Nat} (h1 : IsNode K H a (.own ts n)) (k : Q (.int (Nd.gives (.own ts n) : Nat)) H) : sp_Own_gives K [.ref a] H Q Ex := ⟨a, ts, n, rfl, h1, k⟩
theorem ok_Own_gives {g : Prop} {P : Program} {w : World} {K : PySem.W.Frag} {mg : Str → Option Value} {base : Heap} (E : Ev K mg) : Z.Pr g P w K mg base 1 (He.ma K (He.ga K "Own") "gives") d_Own_gives p_Own_gives (sp_Own_gives K) := by
  obtain ⟨fd, FD⟩ := E.fn 33 (d := d_Own_gives)
  refine ⟨fd, FD, Z.FunD.okG FD sc_Own_gives (fun vz H Q Ex h => ?_) (fun cdv A outer s H vz Q Ex hr hgd h => ?_)⟩
  · obtain ⟨_, _, _, rfl, _⟩ := h
    rfl
  · have hu := hr.units
    obtain ⟨a, ts, n, rfl, h1, k⟩ := h
    have cl_Own := E.cls 6
    have na_Own_own_gives := E.noat 113
    refine ⟨_, (Z.zs_one (Z.z_ret (Z.pe_fldK K rfl (pv 0) rfl))), ?_⟩
    refine Z.i_start (σ := [some (.ref a)]) rfl ?_
    try dsimp only [Z.cxK]
    obtain ⟨dx, s, h1, g1⟩ := h1
    dsimp only [Nd.fs, Nd.cls] at h1
    k_call_by "za" 0
    exact k
def sp_Up_gives (K : PySem.W.Frag) : Sp := fun vz H Q Ex => ∃ (a : Addr) (n : Nat), vz = [.ref a] ∧ (IsNode K H a (.up n)) ∧ (Q (.int (Nd.gives (.up n) : Nat)) H)
theorem c_Up_gives {K : PySem.W.Frag} {H : Hp} {Q : VK} {Ex : XK} {a : Addr} {n : Nat} (h1 : IsNode K H a (.up n)) (k : Q (.int (Nd.gives (.up n) : Nat)) H) : sp_Up_gives K [.ref a] H Q Ex := ⟨a, n, rfl, h1, k⟩
theorem ok_Up_gives {g : Prop} {P : Program} {w : World} {K : PySem.W.Frag} {mg : Str → Option Value} {base : Heap} (E : Ev K mg) : Z.Pr g P w K mg base 1 (He.ma K (He.ga K "Up") "gives") d_Up_gives p_Up_gives (sp_Up_gives K) := by
  obtain ⟨fd, FD⟩ := E.fn 34 (d := d_Up_gives)
  refine ⟨fd, FD, Z.FunD.okG FD sc_Up_gives (fun vz H Q Ex h => ?_) (fun cdv A outer s H vz Q Ex hr hgd h => ?_)⟩
  · obtain ⟨_, _, rfl, _⟩ := h
    rfl
  · have hu := hr.units
    obtain ⟨a, n, rfl, h1, k⟩ := h
    have cl_Up := E.cls 7
    have na_Up_own_many := E.noat 116
    refine ⟨_, (Z.zs_one (Z.z_ret (Z.pe_fldK K rfl (pv 0) rfl))), ?_⟩
    refine Z.i_start (σ := [some (.ref a)]) rfl ?_
    try dsimp only [Z.cxK]
    obtain ⟨dx, s, h1, g1⟩ := h1
    dsimp only [Nd.fs, Nd.cls] at h1
    k_call_by "za" 0
    exact k
def sp_Resample_gives (K : PySem.W.Frag) : Sp := fun vz H Q Ex => ∃ (a : Addr) (ru rd : Nat), vz = [.ref a] ∧ (IsNode K H a (.resample ru rd)) ∧ (Q (.int (Nd.gives (.resample ru rd) : Nat)) H)
theorem c_Resample_gives {K : PySem.W.Frag} {H : Hp} {Q : VK} {Ex : XK} {a : Addr} {ru rd : Nat} (h1 : IsNode K H a (.resample ru rd)) (k : Q (.int (Nd.gives (.resample ru rd) : Nat)) H) : sp_Resample_gives K [.ref a] H Q Ex := ⟨a, ru, rd, rfl, h1, k⟩
theorem ok_Resample_gives {g : Prop} {P : Program} {w : World} {K : PySem.W.Frag} {mg : Str → Option Value} {base : Heap} (E : Ev K mg) : Z.Pr g P w K mg base 1 (He.ma K (He.ga K "Resample") "gives") d_Resample_gives p_Resample_gives (sp_Resample_gives K) := by
  obtain ⟨fd, FD⟩ := E.fn 35 (d := d_Resample_gives)
  refine ⟨fd, FD, Z.FunD.okG FD sc_Resample_gives (fun vz H Q Ex h => ?_) (fun cdv A outer s H vz Q Ex hr hgd h => ?_)⟩
  · obtain ⟨_, _, _, rfl, _⟩ := h
    rfl
  · have hu := hr.units
    obtain ⟨a, ru, rd, rfl, h1, k⟩ := h
    have cl_Resample := E.cls 9
    have na_Resample_own_up := E.noat 120
    refine ⟨_, (Z.zs_one (Z.z_ret (Z.pe_fldK K rfl (pv 0) rfl))), ?_⟩
    refine Z.i_start (σ := [some (.ref a)]) rfl ?_
    try dsimp only [Z.cxK]
    obtain ⟨dx, s, h1, g1⟩ := h1
    dsimp only [Nd.fs, Nd.cls] at h1
    k_call_by "za" 0
    exact k
abbrev Ms_gives (K : PySem.W.Frag) : List Z.MA := [⟨He.ga K "Inlet", 1, fun _ vs _ => vs, sp_Node_gives K⟩, ⟨He.ga K "Outlet", 1, fun _ vs _ => vs, sp_Outlet_gives K⟩, ⟨He.ga K "Gain", 1, fun _ vs _ => vs, sp_Node_gives K⟩, ⟨He.ga K "Mix", 1, fun _ vs _ => vs, sp_Node_gives K⟩, ⟨He.ga K "Times", 1, fun _ vs _ => vs, sp_Node_gives K⟩, ⟨He.ga K "Choose", 1, fun _ vs _ => vs, sp_Node_gives K⟩, ⟨He.ga K "Own", 1, fun _ vs _ => vs, sp_Own_gives K⟩, ⟨He.ga K "Up", 1, fun _ vs _ => vs, sp_Up_gives K⟩, ⟨He.ga K "Down", 1, fun _ vs _ => vs, sp_Node_gives K⟩, ⟨He.ga K "Resample", 1, fun _ vs _ => vs, sp_Resample_gives K⟩]
def sp_Inlet_sort_word (K : PySem.W.Frag) : Sp := fun vz H Q Ex => ∃ (a : Addr) , vz = [.ref a] ∧ (IsNode K H a .inlet) ∧ (Q (.str (Nd.word .inlet)) H)
theorem c_Inlet_sort_word {K : PySem.W.Frag} {H : Hp} {Q : VK} {Ex : XK} {a : Addr} (h1 : IsNode K H a .inlet) (k : Q (.str (Nd.word .inlet)) H) : sp_Inlet_sort_word K [.ref a] H Q Ex := ⟨a, rfl, h1, k⟩
theorem ok_Inlet_sort_word {g : Prop} {P : Program} {w : World} {K : PySem.W.Frag} {mg : Str → Option Value} {base : Heap} (E : Ev K mg) : Z.Pr g P w K mg base 1 (He.ma K (He.ga K "Inlet") "sort_word") d_Inlet_sort_word p_Inlet_sort_word (sp_Inlet_sort_word K) := by
  obtain ⟨fd, FD⟩ := E.fn 36 (d := d_Inlet_sort_word)
  refine ⟨fd, FD, Z.FunD.okG FD sc_Inlet_sort_word (fun vz H Q Ex h => ?_) (fun cdv A outer s H vz Q Ex hr hgd h => ?_)⟩
  · obtain ⟨_, rfl, _⟩ := h
    rfl
  · have hu := hr.units
    obtain ⟨a, rfl, h1, k⟩ := h
    refine ⟨_, (Z.zs_one (Z.z_ret pe_str)), ?_⟩
    refine Z.i_start (σ := [some (.ref a)]) rfl ?_
    try dsimp only [Z.cxK]
    obtain ⟨dx, s, h1, g1⟩ := h1
    dsimp only [Nd.fs, Nd.cls] at h1
    k_call_by "za" 0
    exact k
def sp_Outlet_sort_word (K : PySem.W.Frag) : Sp := fun vz H Q Ex => ∃ (a : Addr) , vz = [.ref a] ∧ (IsNode K H a .outlet) ∧ (Q (.str (Nd.word .outlet)) H)
theorem c_Outlet_sort_word {K : PySem.W.Frag} {H : Hp} {Q : VK} {Ex : XK} {a : Addr} (h1 : IsNode K H a .outlet) (k : Q (.str (Nd.word .outlet)) H) : sp_Outlet_sort_word K [.ref a] H Q Ex := ⟨a, rfl, h1, k⟩
theorem ok_Outlet_sort_word {g : Prop} {P : Program} {w : World} {K : PySem.W.Frag} {mg : Str → Option Value} {base : Heap} (E : Ev K mg) : Z.Pr g P w K mg base 1 (He.ma K (He.ga K "Outlet") "sort_word") d_Outlet_sort_word p_Outlet_sort_word (sp_Outlet_sort_word K) := by
  obtain ⟨fd, FD⟩ := E.fn 37 (d := d_Outlet_sort_word)
  refine ⟨fd, FD, Z.FunD.okG FD sc_Outlet_sort_word (fun vz H Q Ex h => ?_) (fun cdv A outer s H vz Q Ex hr hgd h => ?_)⟩
  · obtain ⟨_, rfl, _⟩ := h
    rfl
  · have hu := hr.units
    obtain ⟨a, rfl, h1, k⟩ := h
    refine ⟨_, (Z.zs_one (Z.z_ret pe_str)), ?_⟩
    refine Z.i_start (σ := [some (.ref a)]) rfl ?_
    try dsimp only [Z.cxK]
    obtain ⟨dx, s, h1, g1⟩ := h1
    dsimp only [Nd.fs, Nd.cls] at h1
    k_call_by "za" 0
    exact k
def sp_Gain_sort_word (K : PySem.W.Frag) : Sp := fun vz H Q Ex => ∃ (a : Addr) (gn : Int) (l b : Nat), vz = [.ref a] ∧ (IsNode K H a (.gain gn l b)) ∧ (Q (.str (Nd.word (.gain gn l b))) H)
theorem c_Gain_sort_word {K : PySem.W.Frag} {H : Hp} {Q : VK} {Ex : XK} {a : Addr} {gn : Int} {l b : Nat} (h1 : IsNode K H a (.gain gn l b)) (k : Q (.str (Nd.word (.gain gn l b))) H) : sp_Gain_sort_word K [.ref a] H Q Ex := ⟨a, gn, l, b, rfl, h1, k⟩
theorem ok_Gain_sort_word {g : Prop} {P : Program} {w : World} {K : PySem.W.Frag} {mg : Str → Option Value} {base : Heap} (E : Ev K mg) : Z.Pr g P w K mg base 1 (He.ma K (He.ga K "Gain") "sort_word") d_Gain_sort_word p_Gain_sort_word (sp_Gain_sort_word K) := by
  obtain ⟨fd, FD⟩ := E.fn 38 (d := d_Gain_sort_word)
  refine ⟨fd, FD, Z.FunD.okG FD sc_Gain_sort_word (fun vz H Q Ex h => ?_) (fun cdv A outer s H vz Q Ex hr hgd h => ?_)⟩
  · obtain ⟨_, _, _, _, rfl, _⟩ := h
    rfl
  · have hu := hr.units
    obtain ⟨a, gn, l, b, rfl, h1, k⟩ := h
    refine ⟨_, (Z.zs_one (Z.z_ret pe_str)), ?_⟩
    refine Z.i_start (σ := [some (.ref a)]) rfl ?_
    try dsimp only [Z.cxK]
    obtain ⟨dx, s, h1, g1⟩ := h1
    dsimp only [Nd.fs, Nd.cls] at h1
    k_call_by "za" 0
    exact k
def sp_Mix_sort_word (K : PySem.W.Frag) : Sp := fun vz H Q Ex => ∃ (a : Addr) (n : Nat), vz = [.ref a] ∧ (IsNode K H a (.mix n)) ∧ (Q (.str (Nd.word (.mix n))) H)
theorem c_Mix_sort_word {K : PySem.W.Frag} {H : Hp} {Q : VK} {Ex : XK} {a : Addr} {n : Nat} (h1 : IsNode K H a (.mix n)) (k : Q (.str (Nd.word (.mix n))) H) : sp_Mix_sort_word K [.ref a] H Q Ex := ⟨a, n, rfl, h1, k⟩
theorem ok_Mix_sort_word {g : Prop} {P : Program} {w : World} {K : PySem.W.Frag} {mg : Str → Option Value} {base : Heap} (E : Ev K mg) : Z.Pr g P w K mg base 1 (He.ma K (He.ga K "Mix") "sort_word") d_Mix_sort_word p_Mix_sort_word (sp_Mix_sort_word K) := by
  obtain ⟨fd, FD⟩ := E.fn 39 (d := d_Mix_sort_word)
  refine ⟨fd, FD, Z.FunD.okG FD sc_Mix_sort_word (fun vz H Q Ex h => ?_) (fun cdv A outer s H vz Q Ex hr hgd h => ?_)⟩
  · obtain ⟨_, _, rfl, _⟩ := h
    rfl
  · have hu := hr.units
    obtain ⟨a, n, rfl, h1, k⟩ := h
    refine ⟨_, (Z.zs_one (Z.z_ret pe_str)), ?_⟩
    refine Z.i_start (σ := [some (.ref a)]) rfl ?_
    try dsimp only [Z.cxK]
    obtain ⟨dx, s, h1, g1⟩ := h1
    dsimp only [Nd.fs, Nd.cls] at h1
    k_call_by "za" 0
    exact k
def sp_Times_sort_word (K : PySem.W.Frag) : Sp := fun vz H Q Ex => ∃ (a : Addr) , vz = [.ref a] ∧ (IsNode K H a .times) ∧ (Q (.str (Nd.word .times)) H)
theorem c_Times_sort_word {K : PySem.W.Frag} {H : Hp} {Q : VK} {Ex : XK} {a : Addr} (h1 : IsNode K H a .times) (k : Q (.str (Nd.word .times)) H) : sp_Times_sort_word K [.ref a] H Q Ex := ⟨a, rfl, h1, k⟩
theorem ok_Times_sort_word {g : Prop} {P : Program} {w : World} {K : PySem.W.Frag} {mg : Str → Option Value} {base : Heap} (E : Ev K mg) : Z.Pr g P w K mg base 1 (He.ma K (He.ga K "Times") "sort_word") d_Times_sort_word p_Times_sort_word (sp_Times_sort_word K) := by
  obtain ⟨fd, FD⟩ := E.fn 40 (d := d_Times_sort_word)
  refine ⟨fd, FD, Z.FunD.okG FD sc_Times_sort_word (fun vz H Q Ex h => ?_) (fun cdv A outer s H vz Q Ex hr hgd h => ?_)⟩
  · obtain ⟨_, rfl, _⟩ := h
    rfl
  · have hu := hr.units
    obtain ⟨a, rfl, h1, k⟩ := h
    refine ⟨_, (Z.zs_one (Z.z_ret pe_str)), ?_⟩
    refine Z.i_start (σ := [some (.ref a)]) rfl ?_
    try dsimp only [Z.cxK]
    obtain ⟨dx, s, h1, g1⟩ := h1
    dsimp only [Nd.fs, Nd.cls] at h1
    k_call_by "za" 0
    exact k
def sp_Choose_sort_word (K : PySem.W.Frag) : Sp := fun vz H Q Ex => ∃ (a : Addr) , vz = [.ref a] ∧ (IsNode K H a .choose) ∧ (Q (.str (Nd.word .choose)) H)
theorem c_Choose_sort_word {K : PySem.W.Frag} {H : Hp} {Q : VK} {Ex : XK} {a : Addr} (h1 : IsNode K H a .choose) (k : Q (.str (Nd.word .choose)) H) : sp_Choose_sort_word K [.ref a] H Q Ex := ⟨a, rfl, h1, k⟩
theorem ok_Choose_sort_word {g : Prop} {P : Program} {w : World} {K : PySem.W.Frag} {mg : Str → Option Value} {base : Heap} (E : Ev K mg) : Z.Pr g P w K mg base 1 (He.ma K (He.ga K "Choose") "sort_word") d_Choose_sort_word p_Choose_sort_word (sp_Choose_sort_word K) := by
  obtain ⟨fd, FD⟩ := E.fn 41 (d := d_Choose_sort_word)
  refine ⟨fd, FD, Z.FunD.okG FD sc_Choose_sort_word (fun vz H Q Ex h => ?_) (fun cdv A outer s H vz Q Ex hr hgd h => ?_)⟩
  · obtain ⟨_, rfl, _⟩ := h
    rfl
  · have hu := hr.units
    obtain ⟨a, rfl, h1, k⟩ := h
    refine ⟨_, (Z.zs_one (Z.z_ret pe_str)), ?_⟩
    refine Z.i_start (σ := [some (.ref a)]) rfl ?_
    try dsimp only [Z.cxK]
    obtain ⟨dx, s, h1, g1⟩ := h1
    dsimp only [Nd.fs, Nd.cls] at h1
    k_call_by "za" 0
    exact k
def sp_Own_sort_word (K : PySem.W.Frag) : Sp := fun vz H Q Ex => ∃ (a : Addr) (ts : List Nat) (n : Nat), vz = [.ref a] ∧ (IsNode K H a (.own ts n)) ∧ (Q (.str (Nd.word (.own ts n))) H)
theorem c_Own_sort_word {K : PySem.W.Frag} {H : Hp} {Q : VK} {Ex : XK} {a : Addr} {ts : List Nat} {n : Nat} (h1 : IsNode K H a (.own ts n)) (k : Q (.str (Nd.word (.own ts n))) H) : sp_Own_sort_word K [.ref a] H Q Ex := ⟨a, ts, n, rfl, h1, k⟩
theorem ok_Own_sort_word {g : Prop} {P : Program} {w : World} {K : PySem.W.Frag} {mg : Str → Option Value} {base : Heap} (E : Ev K mg) : Z.Pr g P w K mg base 1 (He.ma K (He.ga K "Own") "sort_word") d_Own_sort_word p_Own_sort_word (sp_Own_sort_word K) := by
  obtain ⟨fd, FD⟩ := E.fn 42 (d := d_Own_sort_word)
  refine ⟨fd, FD, Z.FunD.okG FD sc_Own_sort_word (fun vz H Q Ex h => ?_) (fun cdv A outer s H vz Q Ex hr hgd h => ?_)⟩
  · obtain ⟨_, _, _, rfl, _⟩ := h
    rfl
  · have hu := hr.units
    obtain ⟨a, ts, n, rfl, h1, k⟩ := h
    refine ⟨_, (Z.zs_one (Z.z_ret pe_str)), ?_⟩
    refine Z.i_start (σ := [some (.ref a)]) rfl ?_
    try dsimp only [Z.cxK]
    obtain ⟨dx, s, h1, g1⟩ := h1
    dsimp only [Nd.fs, Nd.cls] at h1
    k_call_by "za" 0
    exact k
def sp_Up_sort_word (K : PySem.W.Frag) : Sp := fun vz H Q Ex => ∃ (a : Addr) (n : Nat), vz = [.ref a] ∧ (IsNode K H a (.up n)) ∧ (Q (.str (Nd.word (.up n))) H)
theorem c_Up_sort_word {K : PySem.W.Frag} {H : Hp} {Q : VK} {Ex : XK} {a : Addr} {n : Nat} (h1 : IsNode K H a (.up n)) (k : Q (.str (Nd.word (.up n))) H) : sp_Up_sort_word K [.ref a] H Q Ex := ⟨a, n, rfl, h1, k⟩
theorem ok_Up_sort_word {g : Prop} {P : Program} {w : World} {K : PySem.W.Frag} {mg : Str → Option Value} {base : Heap} (E : Ev K mg) : Z.Pr g P w K mg base 1 (He.ma K (He.ga K "Up") "sort_word") d_Up_sort_word p_Up_sort_word (sp_Up_sort_word K) := by
  obtain ⟨fd, FD⟩ := E.fn 43 (d := d_Up_sort_word)
  refine ⟨fd, FD, Z.FunD.okG FD sc_Up_sort_word (fun vz H Q Ex h => ?_) (fun cdv A outer s H vz Q Ex hr hgd h => ?_)⟩
  · obtain ⟨_, _, rfl, _⟩ := h
    rfl
  · have hu := hr.units
    obtain ⟨a, n, rfl, h1, k⟩ := h
    refine ⟨_, (Z.zs_one (Z.z_ret pe_str)), ?_⟩
    refine Z.i_start (σ := [some (.ref a)]) rfl ?_
    try dsimp only [Z.cxK]
    obtain ⟨dx, s, h1, g1⟩ := h1
    dsimp only [Nd.fs, Nd.cls] at h1
    k_call_by "za" 0
    exact k
def sp_Down_sort_word (K : PySem.W.Frag) : Sp := fun vz H Q Ex => ∃ (a : Addr) (n : Nat), vz = [.ref a] ∧ (IsNode K H a (.down n)) ∧ (Q (.str (Nd.word (.down n))) H)
theorem c_Down_sort_word {K : PySem.W.Frag} {H : Hp} {Q : VK} {Ex : XK} {a : Addr} {n : Nat} (h1 : IsNode K H a (.down n)) (k : Q (.str (Nd.word (.down n))) H) : sp_Down_sort_word K [.ref a] H Q Ex := ⟨a, n, rfl, h1, k⟩
theorem ok_Down_sort_word {g : Prop} {P : Program} {w : World} {K : PySem.W.Frag} {mg : Str → Option Value} {base : Heap} (E : Ev K mg) : Z.Pr g P w K mg base 1 (He.ma K (He.ga K "Down") "sort_word") d_Down_sort_word p_Down_sort_word (sp_Down_sort_word K) := by
  obtain ⟨fd, FD⟩ := E.fn 44 (d := d_Down_sort_word)
  refine ⟨fd, FD, Z.FunD.okG FD sc_Down_sort_word (fun vz H Q Ex h => ?_) (fun cdv A outer s H vz Q Ex hr hgd h => ?_)⟩
  · obtain ⟨_, _, rfl, _⟩ := h
    rfl
  · have hu := hr.units
    obtain ⟨a, n, rfl, h1, k⟩ := h
    refine ⟨_, (Z.zs_one (Z.z_ret pe_str)), ?_⟩
    refine Z.i_start (σ := [some (.ref a)]) rfl ?_
    try dsimp only [Z.cxK]
    obtain ⟨dx, s, h1, g1⟩ := h1
    dsimp only [Nd.fs, Nd.cls] at h1
    k_call_by "za" 0
    exact k
def sp_Resample_sort_word (K : PySem.W.Frag) : Sp := fun vz H Q Ex => ∃ (a : Addr) (ru rd : Nat), vz = [.ref a] ∧ (IsNode K H a (.resample ru rd)) ∧ (Q (.str (Nd.word (.resample ru rd))) H)
theorem c_Resample_sort_word {K : PySem.W.Frag} {H : Hp} {Q : VK} {Ex : XK} {a : Addr} {ru rd : Nat} (h1 : IsNode K H a (.resample ru rd)) (k : Q (.str (Nd.word (.resample ru rd))) H) : sp_Resample_sort_word K [.ref a] H Q Ex := ⟨a, ru, rd, rfl, h1, k⟩
theorem ok_Resample_sort_word {g : Prop} {P : Program} {w : World} {K : PySem.W.Frag} {mg : Str → Option Value} {base : Heap} (E : Ev K mg) : Z.Pr g P w K mg base 1 (He.ma K (He.ga K "Resample") "sort_word") d_Resample_sort_word p_Resample_sort_word (sp_Resample_sort_word K) := by
  obtain ⟨fd, FD⟩ := E.fn 45 (d := d_Resample_sort_word)
  refine ⟨fd, FD, Z.FunD.okG FD sc_Resample_sort_word (fun vz H Q Ex h => ?_) (fun cdv A outer s H vz Q Ex hr hgd h => ?_)⟩
  · obtain ⟨_, _, _, rfl, _⟩ := h
    rfl
  · have hu := hr.units
    obtain ⟨a, ru, rd, rfl, h1, k⟩ := h
    refine ⟨_, (Z.zs_one (Z.z_ret pe_str)), ?_⟩
    refine Z.i_start (σ := [some (.ref a)]) rfl ?_
    try dsimp only [Z.cxK]
    obtain ⟨dx, s, h1, g1⟩ := h1
    dsimp only [Nd.fs, Nd.cls] at h1
    k_call_by "za" 0
    exact k
abbrev Ms_sort_word (K : PySem.W.Frag) : List Z.MA := [⟨He.ga K "Inlet", 1, fun _ vs _ => vs, sp_Inlet_sort_word K⟩, ⟨He.ga K "Outlet", 1, fun _ vs _ => vs, sp_Outlet_sort_word K⟩, ⟨He.ga K "Gain", 1, fun _ vs _ => vs, sp_Gain_sort_word K⟩, ⟨He.ga K "Mix", 1, fun _ vs _ => vs, sp_Mix_sort_word K⟩, ⟨He.ga K "Times", 1, fun _ vs _ => vs, sp_Times_sort_word K⟩, ⟨He.ga K "Choose", 1, fun _ vs _ => vs, sp_Choose_sort_word K⟩, ⟨He.ga K "Own", 1, fun _ vs _ => vs, sp_Own_sort_word K⟩, ⟨He.ga K "Up", 1, fun _ vs _ => vs, sp_Up_sort_word K⟩, ⟨He.ga K "Down", 1, fun _ vs _ => vs, sp_Down_sort_word K⟩, ⟨He.ga K "Resample", 1, fun _ vs _ => vs, sp_Resample_sort_word K⟩]
def sp_Node_own_parts (K : PySem.W.Frag) : Sp := fun vz H Q Ex => ∃ (a : Addr), vz = [.ref a] ∧ (∀ r H', Z.New H r (.lst []) H' → Q (.ref r) H')
theorem c_Node_own_parts {K : PySem.W.Frag} {H : Hp} {Q : VK} {Ex : XK} {a : Addr}  (k : ∀ r H', Z.New H r (.lst []) H' → Q (.ref r) H') : sp_Node_own_parts K [.ref a] H Q Ex := ⟨a, rfl, k⟩
theorem ok_Node_own_parts {g : Prop} {P : Program} {w : World} {K : PySem.W.Frag} {mg : Str → Option Value} {base : Heap} (E : Ev K mg) : Z.Pr g P w K mg base 1 (He.ma K (He.ga K "Node") "own_parts") d_Node_own_parts p_Node_own_parts (sp_Node_own_parts K) := by
  obtain ⟨fd, FD⟩ := E.fn 46 (d := d_Node_own_parts)
  refine ⟨fd, FD, Z.FunD.okG FD sc_Node_own_parts (fun vz H Q Ex h => ?_) (fun cdv A outer s H vz Q Ex hr hgd h => ?_)⟩
  · obtain ⟨_, rfl, _⟩ := h
    rfl
  · have hu := hr.units
    obtain ⟨a, rfl, k⟩ := h
    refine ⟨_, (Z.zs_one (Z.z_ret (pe_lst pa_nil))), ?_⟩
    refine Z.i_start (σ := [some (.ref a)]) rfl ?_
    try dsimp only [Z.cxK]
    k_call_by "za" 0
    exact k _ _ (by assumption)
def sp_Gain_own_parts (K : PySem.W.Frag) : Sp := fun vz H Q Ex => ∃ (a : Addr) (gn : Int) (l b : Nat), vz = [.ref a] ∧ (IsNode K H a (.gain gn l b)) ∧ (∀ r s H', Same H H' → H' r = some (.lst (Nd.parts K s (.gain gn l b))) → PartExt H' s (.gain gn l b) → Q (.ref r) H')
theorem c_Gain_own_parts {K : PySem.W.Frag} {H : Hp} {Q : VK} {Ex : XK} {a : Addr} {gn : Int} {l b : Nat} (h1 : IsNode K H a (.gain gn l b)) (k : ∀ r s H', Same H H' → H' r = some (.lst (Nd.parts K s (.gain gn l b))) → PartExt H' s (.gain gn l b) → Q (.ref r) H') : sp_Gain_own_parts K [.ref a] H Q Ex := ⟨a, gn, l, b, rfl, h1, k⟩
theorem ok_Gain_own_parts {g : Prop} {P : Program} {w : World} {K : PySem.W.Frag} {mg : Str → Option Value} {base : Heap} (E : Ev K mg) : Z.Pr g P w K mg base 1 (He.ma K (He.ga K "Gain") "own_parts") d_Gain_own_parts p_Gain_own_parts (sp_Gain_own_parts K) := by
  obtain ⟨fd, FD⟩ := E.fn 47 (d := d_Gain_own_parts)
  refine ⟨fd, FD, Z.FunD.okG FD sc_Gain_own_parts (fun vz H Q Ex h => ?_) (fun cdv A outer s H vz Q Ex hr hgd h => ?_)⟩
  · obtain ⟨_, _, _, _, rfl, _⟩ := h
    rfl
  · have hu := hr.units
    obtain ⟨a, gn, l, b, rfl, h1, k⟩ := h
    have cl_Gain := E.cls 2
    have na_Gain_own_by := E.noat 109
    refine ⟨_, (Z.zs_one (Z.z_ret (pe_lst (pa_cons (Z.pe_fldK K rfl (pv 0) rfl) pa_nil)))), ?_⟩
    refine Z.i_start (σ := [some (.ref a)]) rfl ?_
    try dsimp only [Z.cxK]
    obtain ⟨dx, s, h1, g1⟩ := h1
    dsimp only [Nd.fs, Nd.cls] at h1
    k_call_by "za" 0
    rename_i r H1 n1
    exact k r s H1 n1.same n1.at (by trivial)
def sp_Mix_own_parts (K : PySem.W.Frag) : Sp := fun vz H Q Ex => ∃ (a : Addr) (n : Nat), vz = [.ref a] ∧ (IsNode K H a (.mix n)) ∧ (∀ r s H', Same H H' → H' r = some (.lst (Nd.parts K s (.mix n))) → PartExt H' s (.mix n) → Q (.ref r) H')
theorem c_Mix_own_parts {K : PySem.W.Frag} {H : Hp} {Q : VK} {Ex : XK} {a : Addr} {n : Nat} (h1 : IsNode K H a (.mix n)) (k : ∀ r s H', Same H H' → H' r = some (.lst (Nd.parts K s (.mix n))) → PartExt H' s (.mix n) → Q (.ref r) H') : sp_Mix_own_parts K [.ref a] H Q Ex := ⟨a, n, rfl, h1, k⟩
theorem ok_Mix_own_parts {g : Prop} {P : Program} {w : World} {K : PySem.W.Frag} {mg : Str → Option Value} {base : Heap} (E : Ev K mg) : Z.Pr g P w K mg base 1 (He.ma K (He.ga K "Mix") "own_parts") d_Mix_own_parts p_Mix_own_parts (sp_Mix_own_parts K) := by
  obtain ⟨fd, FD⟩ := E.fn 48 (d := d_Mix_own_parts)
  refine ⟨fd, FD, Z.FunD.okG FD sc_Mix_own_parts (fun vz H Q Ex h => ?_) (fun cdv A outer s H vz Q Ex hr hgd h => ?_)⟩
  · obtain ⟨_, _, rfl, _⟩ := h
    rfl
  · have hu := hr.units
    obtain ⟨a, n, rfl, h1, k⟩ := h
    have cl_Mix := E.cls 3
    have na_Mix_own_many := E.noat 110
    refine ⟨_, (Z.zs_one (Z.z_ret (pe_lst (pa_cons (Z.pe_fldK K rfl (pv 0) rfl) pa_nil)))), ?_⟩
    refine Z.i_start (σ := [some (.ref a)]) rfl ?_
    try dsimp only [Z.cxK]
    obtain ⟨dx, s, h1, g1⟩ := h1
    dsimp only [Nd.fs, Nd.cls] at h1
    k_call_by "za" 0
    rename_i r H1 n1
    exact k r s H1 n1.same n1.at (by trivial)
def sp_Own_own_parts (K : PySem.W.Frag) : Sp := fun vz H Q Ex => ∃ (a : Addr) (ts : List Nat) (n : Nat), vz = [.ref a] ∧ (IsNode K H a (.own ts n)) ∧ (∀ r s H', Same H H' → H' r = some (.lst (Nd.parts K s (.own ts n))) → PartExt H' s (.own ts n) → Q (.ref r) H')
theorem c_Own_own_parts {K : PySem.W.Frag} {H : Hp} {Q : VK} {Ex : XK} {a : Addr} {ts : List Nat} {n : Nat} (h1 : IsNode K H a (.own ts n)) (k : ∀ r s H', Same H H' → H' r = some (.lst (Nd.parts K s (.own ts n))) → PartExt H' s (.own ts n) → Q (.ref r) H') : sp_Own_own_parts K [.ref a] H Q Ex := ⟨a, ts, n, rfl, h1, k⟩
theorem ok_Own_own_parts {g : Prop} {P : Program} {w : World} {K : PySem.W.Frag} {mg : Str → Option Value} {base : Heap} (E : Ev K mg) : Z.Pr g P w K mg base 1 (He.ma K (He.ga K "Own") "own_parts") d_Own_own_parts p_Own_own_parts (sp_Own_own_parts K) := by
  obtain ⟨fd, FD⟩ := E.fn 49 (d := d_Own_own_parts)
  refine ⟨fd, FD, Z.FunD.okG FD sc_Own_own_parts (fun vz H Q Ex h => ?_) (fun cdv A outer s H vz Q Ex hr hgd h => ?_)⟩
  · obtain ⟨_, _, _, rfl, _⟩ := h
    rfl
  · have hu := hr.units
    obtain ⟨a, ts, n, rfl, h1, k⟩ := h
    have cl_Own := E.cls 6
    have na_Own_own_deed := E.noat 111
    have na_Own_own_first := E.noat 112
    have na_Own_own_gives := E.noat 113
    have na_Own_own_takes := E.noat 114
    refine ⟨_, (Z.zs_one (Z.z_ret (pe_lst (pa_cons (Z.pe_fldK K rfl (pv 0) rfl) (pa_cons (Z.pe_fldK K rfl (pv 0) rfl) (pa_cons (Z.pe_fldK K rfl (pv 0) rfl) (pa_cons (Z.pe_fldK K rfl (pv 0) rfl) pa_nil))))))), ?_⟩
    refine Z.i_start (σ := [some (.ref a)]) rfl ?_
    try dsimp only [Z.cxK]
    obtain ⟨dx, s, h1, g1⟩ := h1
    dsimp only [Nd.fs, Nd.cls] at h1
    k_call_by "za" 0
    rename_i r H1 n1
    exact k r s H1 n1.same n1.at (n1.get (g1 _ rfl))
def sp_Up_own_parts (K : PySem.W.Frag) : Sp := fun vz H Q Ex => ∃ (a : Addr) (n : Nat), vz = [.ref a] ∧ (IsNode K H a (.up n)) ∧ (∀ r s H', Same H H' → H' r = some (.lst (Nd.parts K s (.up n))) → PartExt H' s (.up n) → Q (.ref r) H')
theorem c_Up_own_parts {K : PySem.W.Frag} {H : Hp} {Q : VK} {Ex : XK} {a : Addr} {n : Nat} (h1 : IsNode K H a (.up n)) (k : ∀ r s H', Same H H' → H' r = some (.lst (Nd.parts K s (.up n))) → PartExt H' s (.up n) → Q (.ref r) H') : sp_Up_own_parts K [.ref a] H Q Ex := ⟨a, n, rfl, h1, k⟩
theorem ok_Up_own_parts {g : Prop} {P : Program} {w : World} {K : PySem.W.Frag} {mg : Str → Option Value} {base : Heap} (E : Ev K mg) : Z.Pr g P w K mg base 1 (He.ma K (He.ga K "Up") "own_parts") d_Up_own_parts p_Up_own_parts (sp_Up_own_parts K) := by
  obtain ⟨fd, FD⟩ := E.fn 50 (d := d_Up_own_parts)
  refine ⟨fd, FD, Z.FunD.okG FD sc_Up_own_parts (fun vz H Q Ex h => ?_) (fun cdv A outer s H vz Q Ex hr hgd h => ?_)⟩
  · obtain ⟨_, _, rfl, _⟩ := h
    rfl
  · have hu := hr.units
    obtain ⟨a, n, rfl, h1, k⟩ := h
    have cl_Up := E.cls 7
    have na_Up_own_hold := E.noat 115
    have na_Up_own_many := E.noat 116
    refine ⟨_, (Z.zs_one (Z.z_ret (pe_lst (pa_cons (Z.pe_fldK K rfl (pv 0) rfl) (pa_cons (Z.pe_fldK K rfl (pv 0) rfl) pa_nil))))), ?_⟩
    refine Z.i_start (σ := [some (.ref a)]) rfl ?_
    try dsimp only [Z.cxK]
    obtain ⟨dx, s, h1, g1⟩ := h1
    dsimp only [Nd.fs, Nd.cls] at h1
    k_call_by "za" 0
    rename_i r H1 n1
    exact k r s H1 n1.same n1.at (by trivial)
def sp_Down_own_parts (K : PySem.W.Frag) : Sp := fun vz H Q Ex => ∃ (a : Addr) (n : Nat), vz = [.ref a] ∧ (IsNode K H a (.down n)) ∧ (∀ r s H', Same H H' → H' r = some (.lst (Nd.parts K s (.down n))) → PartExt H' s (.down n) → Q (.ref r) H')
theorem c_Down_own_parts {K : PySem.W.Frag} {H : Hp} {Q : VK} {Ex : XK} {a : Addr} {n : Nat} (h1 : IsNode K H a (.down n)) (k : ∀ r s H', Same H H' → H' r = some (.lst (Nd.parts K s (.down n))) → PartExt H' s (.down n) → Q (.ref r) H') : sp_Down_own_parts K [.ref a] H Q Ex := ⟨a, n, rfl, h1, k⟩
theorem ok_Down_own_parts {g : Prop} {P : Program} {w : World} {K : PySem.W.Frag} {mg : Str → Option Value} {base : Heap} (E : Ev K mg) : Z.Pr g P w K mg base 1 (He.ma K (He.ga K "Down") "own_parts") d_Down_own_parts p_Down_own_parts (sp_Down_own_parts K) := by
  obtain ⟨fd, FD⟩ := E.fn 51 (d := d_Down_own_parts)
  refine ⟨fd, FD, Z.FunD.okG FD sc_Down_own_parts (fun vz H Q Ex h => ?_) (fun cdv A outer s H vz Q Ex hr hgd h => ?_)⟩
  · obtain ⟨_, _, rfl, _⟩ := h
    rfl
  · have hu := hr.units
    obtain ⟨a, n, rfl, h1, k⟩ := h
    have cl_Down := E.cls 8
    have na_Down_own_many := E.noat 117
    refine ⟨_, (Z.zs_one (Z.z_ret (pe_lst (pa_cons (Z.pe_fldK K rfl (pv 0) rfl) pa_nil)))), ?_⟩
    refine Z.i_start (σ := [some (.ref a)]) rfl ?_
    try dsimp only [Z.cxK]
    obtain ⟨dx, s, h1, g1⟩ := h1
    dsimp only [Nd.fs, Nd.cls] at h1
    k_call_by "za" 0
    rename_i r H1 n1
    exact k r s H1 n1.same n1.at (by trivial)
def sp_Resample_own_parts (K : PySem.W.Frag) : Sp := fun vz H Q Ex => ∃ (a : Addr) (ru rd : Nat), vz = [.ref a] ∧ (IsNode K H a (.resample ru rd)) ∧ (∀ r s H', Same H H' → H' r = some (.lst (Nd.parts K s (.resample ru rd))) → PartExt H' s (.resample ru rd) → Q (.ref r) H')
theorem c_Resample_own_parts {K : PySem.W.Frag} {H : Hp} {Q : VK} {Ex : XK} {a : Addr} {ru rd : Nat} (h1 : IsNode K H a (.resample ru rd)) (k : ∀ r s H', Same H H' → H' r = some (.lst (Nd.parts K s (.resample ru rd))) → PartExt H' s (.resample ru rd) → Q (.ref r) H') : sp_Resample_own_parts K [.ref a] H Q Ex := ⟨a, ru, rd, rfl, h1, k⟩
theorem ok_Resample_own_parts {g : Prop} {P : Program} {w : World} {K : PySem.W.Frag} {mg : Str → Option Value} {base : Heap} (E : Ev K mg) : Z.Pr g P w K mg base 1 (He.ma K (He.ga K "Resample") "own_parts") d_Resample_own_parts p_Resample_own_parts (sp_Resample_own_parts K) := by
  obtain ⟨fd, FD⟩ := E.fn 52 (d := d_Resample_own_parts)
  refine ⟨fd, FD, Z.FunD.okG FD sc_Resample_own_parts (fun vz H Q Ex h => ?_) (fun cdv A outer s H vz Q Ex hr hgd h => ?_)⟩
  · obtain ⟨_, _, _, rfl, _⟩ := h
    rfl
  · have hu := hr.units
    obtain ⟨a, ru, rd, rfl, h1, k⟩ := h
    have cl_Resample := E.cls 9
    have na_Resample_own_down := E.noat 118
    have na_Resample_own_numbers := E.noat 119
    have na_Resample_own_up := E.noat 120
    refine ⟨_, (Z.zs_one (Z.z_ret (pe_lst (pa_cons (Z.pe_fldK K rfl (pv 0) rfl) (pa_cons (Z.pe_fldK K rfl (pv 0) rfl) (pa_cons (pe_callTy (Z.clistK K rfl) (by rfl) (E.free 35) (by decide +kernel) (pa_cons (Z.pe_fldK K rfl (pv 0) rfl) pa_nil)) pa_nil)))))), ?_⟩
    refine Z.i_start (σ := [some (.ref a)]) rfl ?_
    try dsimp only [Z.cxK]
    obtain ⟨dx, s, h1, g1⟩ := h1
    dsimp only [Nd.fs, Nd.cls] at h1
    
    k_call_by "za" 0
    refine Z.i_listT (g1 _ rfl) fun l H1 n1 => ?_
    k_call_by "za" 0
    rename_i r H2 n2
    exact k r l H2 (by k_call_by "fr" 0) n2.at (n2.get n1.at)
abbrev Ms_own_parts (K : PySem.W.Frag) : List Z.MA := [⟨He.ga K "Inlet", 1, fun _ vs _ => vs, sp_Node_own_parts K⟩, ⟨He.ga K "Outlet", 1, fun _ vs _ => vs, sp_Node_own_parts K⟩, ⟨He.ga K "Gain", 1, fun _ vs _ => vs, sp_Gain_own_parts K⟩, ⟨He.ga K "Mix", 1, fun _ vs _ => vs, sp_Mix_own_parts K⟩, ⟨He.ga K "Times", 1, fun _ vs _ => vs, sp_Node_own_parts K⟩, ⟨He.ga K "Choose", 1, fun _ vs _ => vs, sp_Node_own_parts K⟩, ⟨He.ga K "Own", 1, fun _ vs _ => vs, sp_Own_own_parts K⟩, ⟨He.ga K "Up", 1, fun _ vs _ => vs, sp_Up_own_parts K⟩, ⟨He.ga K "Down", 1, fun _ vs _ => vs, sp_Down_own_parts K⟩, ⟨He.ga K "Resample", 1, fun _ vs _ => vs, sp_Resample_own_parts K⟩]
theorem m_takes {K : PySem.W.Frag} {E : XK} {σ : L2.St} {H : Hp} {Q : VK} {a : Addr} : ∀ {nd : Nd}, IsNode K H a nd → nd.wf → (∀ r H', Same H H' → H' r = some (.tup (nd.tk.map V.int)) → Q (.ref r) H') → Z.zM1 K "takes" 0 E (Ms_takes K) tNil tNil (.ref a) σ H Q
  | .inlet , ⟨dx, s, h, g⟩, w, k => by refine Z.i_Mi 0 h rfl rfl ⟨rfl, rfl, ?_⟩; dsimp only; exact c_Inlet_takes ⟨dx, s, h, g⟩ k
  | .outlet , ⟨dx, s, h, g⟩, w, k => by refine Z.i_Mi 1 h rfl rfl ⟨rfl, rfl, ?_⟩; dsimp only; exact c_Node_takes fun r H' n => k r H' n.same n.at
  | .gain _ _ _, ⟨dx, s, h, g⟩, w, k => by refine Z.i_Mi 2 h rfl rfl ⟨rfl, rfl, ?_⟩; dsimp only; exact c_Node_takes fun r H' n => k r H' n.same n.at
  | .mix _, ⟨dx, s, h, g⟩, w, k => by refine Z.i_Mi 3 h rfl rfl ⟨rfl, rfl, ?_⟩; dsimp only; exact c_Mix_takes ⟨dx, s, h, g⟩ w k
  | .times , ⟨dx, s, h, g⟩, w, k => by refine Z.i_Mi 4 h rfl rfl ⟨rfl, rfl, ?_⟩; dsimp only; exact c_Times_takes ⟨dx, s, h, g⟩ k
  | .choose , ⟨dx, s, h, g⟩, w, k => by refine Z.i_Mi 5 h rfl rfl ⟨rfl, rfl, ?_⟩; dsimp only; exact c_Choose_takes ⟨dx, s, h, g⟩ k
  | .own _ _, ⟨dx, s, h, g⟩, w, k => by refine Z.i_Mi 6 h rfl rfl ⟨rfl, rfl, ?_⟩; dsimp only; exact c_Own_takes ⟨dx, s, h, g⟩ w k
  | .up _, ⟨dx, s, h, g⟩, w, k => by refine Z.i_Mi 7 h rfl rfl ⟨rfl, rfl, ?_⟩; dsimp only; exact c_Node_takes fun r H' n => k r H' n.same n.at
  | .down _, ⟨dx, s, h, g⟩, w, k => by refine Z.i_Mi 8 h rfl rfl ⟨rfl, rfl, ?_⟩; dsimp only; exact c_Down_takes ⟨dx, s, h, g⟩ w k
  | .resample _ _, ⟨dx, s, h, g⟩, w, k => by refine Z.i_Mi 9 h rfl rfl ⟨rfl, rfl, ?_⟩; dsimp only; exact c_Resample_takes ⟨dx, s, h, g⟩ w k

theorem m_gives {K : PySem.W.Frag} {E : XK} {σ : L2.St} {H : Hp} {Q : VK} {a : Addr} : ∀ {nd : Nd}, IsNode K H a nd → Q (.int (nd.gives : Nat)) H → Z.zM1 K "gives" 0 E (Ms_gives K) tNil tNil (.ref a) σ H Q
  | .inlet , ⟨dx, s, h, g⟩, k => by refine Z.i_Mi 0 h rfl rfl ⟨rfl, rfl, ?_⟩; dsimp only; exact c_Node_gives k
  | .outlet , ⟨dx, s, h, g⟩, k => by refine Z.i_Mi 1 h rfl rfl ⟨rfl, rfl, ?_⟩; dsimp only; exact c_Outlet_gives ⟨dx, s, h, g⟩ k
  | .gain _ _ _, ⟨dx, s, h, g⟩, k => by refine Z.i_Mi 2 h rfl rfl ⟨rfl, rfl, ?_⟩; dsimp only; exact c_Node_gives k
  | .mix _, ⟨dx, s, h, g⟩, k => by refine Z.i_Mi 3 h rfl rfl ⟨rfl, rfl, ?_⟩; dsimp only; exact c_Node_gives k
  | .times , ⟨dx, s, h, g⟩, k => by refine Z.i_Mi 4 h rfl rfl ⟨rfl, rfl, ?_⟩; dsimp only; exact c_Node_gives k
  | .choose , ⟨dx, s, h, g⟩, k => by refine Z.i_Mi 5 h rfl rfl ⟨rfl, rfl, ?_⟩; dsimp only; exact c_Node_gives k
  | .own _ _, ⟨dx, s, h, g⟩, k => by refine Z.i_Mi 6 h rfl rfl ⟨rfl, rfl, ?_⟩; dsimp only; exact c_Own_gives ⟨dx, s, h, g⟩ k
  | .up _, ⟨dx, s, h, g⟩, k => by refine Z.i_Mi 7 h rfl rfl ⟨rfl, rfl, ?_⟩; dsimp only; exact c_Up_gives ⟨dx, s, h, g⟩ k
  | .down _, ⟨dx, s, h, g⟩, k => by refine Z.i_Mi 8 h rfl rfl ⟨rfl, rfl, ?_⟩; dsimp only; exact c_Node_gives k
  | .resample _ _, ⟨dx, s, h, g⟩, k => by refine Z.i_Mi 9 h rfl rfl ⟨rfl, rfl, ?_⟩; dsimp only; exact c_Resample_gives ⟨dx, s, h, g⟩ k

theorem m_sort_word {K : PySem.W.Frag} {E : XK} {σ : L2.St} {H : Hp} {Q : VK} {a : Addr} : ∀ {nd : Nd}, IsNode K H a nd → Q (.str nd.word) H → Z.zM1 K "sort_word" 0 E (Ms_sort_word K) tNil tNil (.ref a) σ H Q
  | .inlet , ⟨dx, s, h, g⟩, k => by refine Z.i_Mi 0 h rfl rfl ⟨rfl, rfl, ?_⟩; dsimp only; exact c_Inlet_sort_word ⟨dx, s, h, g⟩ k
  | .outlet , ⟨dx, s, h, g⟩, k => by refine Z.i_Mi 1 h rfl rfl ⟨rfl, rfl, ?_⟩; dsimp only; exact c_Outlet_sort_word ⟨dx, s, h, g⟩ k
  | .gain _ _ _, ⟨dx, s, h, g⟩, k => by refine Z.i_Mi 2 h rfl rfl ⟨rfl, rfl, ?_⟩; dsimp only; exact c_Gain_sort_word ⟨dx, s, h, g⟩ k
  | .mix _, ⟨dx, s, h, g⟩, k => by refine Z.i_Mi 3 h rfl rfl ⟨rfl, rfl, ?_⟩; dsimp only; exact c_Mix_sort_word ⟨dx, s, h, g⟩ k
  | .times , ⟨dx, s, h, g⟩, k => by refine Z.i_Mi 4 h rfl rfl ⟨rfl, rfl, ?_⟩; dsimp only; exact c_Times_sort_word ⟨dx, s, h, g⟩ k
  | .choose , ⟨dx, s, h, g⟩, k => by refine Z.i_Mi 5 h rfl rfl ⟨rfl, rfl, ?_⟩; dsimp only; exact c_Choose_sort_word ⟨dx, s, h, g⟩ k
  | .own _ _, ⟨dx, s, h, g⟩, k => by refine Z.i_Mi 6 h rfl rfl ⟨rfl, rfl, ?_⟩; dsimp only; exact c_Own_sort_word ⟨dx, s, h, g⟩ k
  | .up _, ⟨dx, s, h, g⟩, k => by refine Z.i_Mi 7 h rfl rfl ⟨rfl, rfl, ?_⟩; dsimp only; exact c_Up_sort_word ⟨dx, s, h, g⟩ k
  | .down _, ⟨dx, s, h, g⟩, k => by refine Z.i_Mi 8 h rfl rfl ⟨rfl, rfl, ?_⟩; dsimp only; exact c_Down_sort_word ⟨dx, s, h, g⟩ k
  | .resample _ _, ⟨dx, s, h, g⟩, k => by refine Z.i_Mi 9 h rfl rfl ⟨rfl, rfl, ?_⟩; dsimp only; exact c_Resample_sort_word ⟨dx, s, h, g⟩ k

theorem m_own_parts {K : PySem.W.Frag} {E : XK} {σ : L2.St} {H : Hp} {Q : VK} {a : Addr} : ∀ {nd : Nd}, IsNode K H a nd → (∀ r s H', Same H H' → H' r = some (.lst (nd.parts K s)) → PartExt H' s nd → Q (.ref r) H') → Z.zM1 K "own_parts" 0 E (Ms_own_parts K) tNil tNil (.ref a) σ H Q
  | .inlet , ⟨dx, s, h, g⟩, k => by refine Z.i_Mi 0 h rfl rfl ⟨rfl, rfl, ?_⟩; dsimp only; exact c_Node_own_parts fun r H' n => k r s H' n.same n.at trivial
  | .outlet , ⟨dx, s, h, g⟩, k => by refine Z.i_Mi 1 h rfl rfl ⟨rfl, rfl, ?_⟩; dsimp only; exact c_Node_own_parts fun r H' n => k r s H' n.same n.at trivial
  | .gain _ _ _, ⟨dx, s, h, g⟩, k => by refine Z.i_Mi 2 h rfl rfl ⟨rfl, rfl, ?_⟩; dsimp only; exact c_Gain_own_parts ⟨dx, s, h, g⟩ k
  | .mix _, ⟨dx, s, h, g⟩, k => by refine Z.i_Mi 3 h rfl rfl ⟨rfl, rfl, ?_⟩; dsimp only; exact c_Mix_own_parts ⟨dx, s, h, g⟩ k
  | .times , ⟨dx, s, h, g⟩, k => by refine Z.i_Mi 4 h rfl rfl ⟨rfl, rfl, ?_⟩; dsimp only; exact c_Node_own_parts fun r H' n => k r s H' n.same n.at trivial
  | .choose , ⟨dx, s, h, g⟩, k => by refine Z.i_Mi 5 h rfl rfl ⟨rfl, rfl, ?_⟩; dsimp only; exact c_Node_own_parts fun r H' n => k r s H' n.same n.at trivial
  | .own _ _, ⟨dx, s, h, g⟩, k => by refine Z.i_Mi 6 h rfl rfl ⟨rfl, rfl, ?_⟩; dsimp only; exact c_Own_own_parts ⟨dx, s, h, g⟩ k
  | .up _, ⟨dx, s, h, g⟩, k => by refine Z.i_Mi 7 h rfl rfl ⟨rfl, rfl, ?_⟩; dsimp only; exact c_Up_own_parts ⟨dx, s, h, g⟩ k
  | .down _, ⟨dx, s, h, g⟩, k => by refine Z.i_Mi 8 h rfl rfl ⟨rfl, rfl, ?_⟩; dsimp only; exact c_Down_own_parts ⟨dx, s, h, g⟩ k
  | .resample _ _, ⟨dx, s, h, g⟩, k => by refine Z.i_Mi 9 h rfl rfl ⟨rfl, rfl, ?_⟩; dsimp only; exact c_Resample_own_parts ⟨dx, s, h, g⟩ k

theorem m_isnode {K : PySem.W.Frag} {mg : Str → Option Value} (E : Ev K mg) {H : Hp} {Q : VK} {a : Addr} : ∀ {nd : Nd}, IsNode K H a nd → Q (.bl true) H → rIsi K [V.ref a, .ref (He.ga K "Node")] H Q
  | .inlet , ⟨dx, s, h, g⟩, q => Z.i_isiC h (E.cls 0) (Z.fxIns_ok (E.own 0)) (Z.fxKit_ok (E.own 1)) q
  | .outlet , ⟨dx, s, h, g⟩, q => Z.i_isiC h (E.cls 1) (Z.fxIns_ok (E.own 2)) (Z.fxKit_ok (E.own 3)) q
  | .gain _ _ _, ⟨dx, s, h, g⟩, q => Z.i_isiC h (E.cls 2) (Z.fxIns_ok (E.own 4)) (Z.fxKit_ok (E.own 5)) q
  | .mix _, ⟨dx, s, h, g⟩, q => Z.i_isiC h (E.cls 3) (Z.fxIns_ok (E.own 6)) (Z.fxKit_ok (E.own 7)) q
  | .times , ⟨dx, s, h, g⟩, q => Z.i_isiC h (E.cls 4) (Z.fxIns_ok (E.own 8)) (Z.fxKit_ok (E.own 9)) q
  | .choose , ⟨dx, s, h, g⟩, q => Z.i_isiC h (E.cls 5) (Z.fxIns_ok (E.own 10)) (Z.fxKit_ok (E.own 11)) q
  | .own _ _, ⟨dx, s, h, g⟩, q => Z.i_isiC h (E.cls 6) (Z.fxIns_ok (E.own 12)) (Z.fxKit_ok (E.own 13)) q
  | .up _, ⟨dx, s, h, g⟩, q => Z.i_isiC h (E.cls 7) (Z.fxIns_ok (E.own 14)) (Z.fxKit_ok (E.own 15)) q
  | .down _, ⟨dx, s, h, g⟩, q => Z.i_isiC h (E.cls 8) (Z.fxIns_ok (E.own 16)) (Z.fxKit_ok (E.own 17)) q
  | .resample _ _, ⟨dx, s, h, g⟩, q => Z.i_isiC h (E.cls 9) (Z.fxIns_ok (E.own 18)) (Z.fxKit_ok (E.own 19)) q

theorem m_isin {K : PySem.W.Frag} {mg : Str → Option Value} (E : Ev K mg) {H : Hp} {Q : VK} {a : Addr} : ∀ {nd : Nd}, IsNode K H a nd → Q (.bl nd.isIn) H → rIsi K [V.ref a, .ref (He.ga K "Inlet")] H Q
  | .inlet , ⟨dx, s, h, g⟩, q => Z.i_isiC h (E.cls 0) (Z.fxIns_ok (E.own 0)) (Z.fxKit_ok (E.own 20)) q
  | .outlet , ⟨dx, s, h, g⟩, q => Z.i_isiC h (E.cls 1) (Z.fxIns_ok (E.own 2)) (Z.fxKit_ok (E.own 21)) q
  | .gain _ _ _, ⟨dx, s, h, g⟩, q => Z.i_isiC h (E.cls 2) (Z.fxIns_ok (E.own 4)) (Z.fxKit_ok (E.own 22)) q
  | .mix _, ⟨dx, s, h, g⟩, q => Z.i_isiC h (E.cls 3) (Z.fxIns_ok (E.own 6)) (Z.fxKit_ok (E.own 23)) q
  | .times , ⟨dx, s, h, g⟩, q => Z.i_isiC h (E.cls 4) (Z.fxIns_ok (E.own 8)) (Z.fxKit_ok (E.own 24)) q
  | .choose , ⟨dx, s, h, g⟩, q => Z.i_isiC h (E.cls 5) (Z.fxIns_ok (E.own 10)) (Z.fxKit_ok (E.own 25)) q
  | .own _ _, ⟨dx, s, h, g⟩, q => Z.i_isiC h (E.cls 6) (Z.fxIns_ok (E.own 12)) (Z.fxKit_ok (E.own 26)) q
  | .up _, ⟨dx, s, h, g⟩, q => Z.i_isiC h (E.cls 7) (Z.fxIns_ok (E.own 14)) (Z.fxKit_ok (E.own 27)) q
  | .down _, ⟨dx, s, h, g⟩, q => Z.i_isiC h (E.cls 8) (Z.fxIns_ok (E.own 16)) (Z.fxKit_ok (E.own 28)) q
  | .resample _ _, ⟨dx, s, h, g⟩, q => Z.i_isiC h (E.cls 9) (Z.fxIns_ok (E.own 18)) (Z.fxKit_ok (E.own 29)) q

theorem m_isout {K : PySem.W.Frag} {mg : Str → Option Value} (E : Ev K mg) {H : Hp} {Q : VK} {a : Addr} : ∀ {nd : Nd}, IsNode K H a nd → Q (.bl nd.isOut) H → rIsi K [V.ref a, .ref (He.ga K "Outlet")] H Q
  | .inlet , ⟨dx, s, h, g⟩, q => Z.i_isiC h (E.cls 0) (Z.fxIns_ok (E.own 0)) (Z.fxKit_ok (E.own 30)) q
  | .outlet , ⟨dx, s, h, g⟩, q => Z.i_isiC h (E.cls 1) (Z.fxIns_ok (E.own 2)) (Z.fxKit_ok (E.own 31)) q
  | .gain _ _ _, ⟨dx, s, h, g⟩, q => Z.i_isiC h (E.cls 2) (Z.fxIns_ok (E.own 4)) (Z.fxKit_ok (E.own 32)) q
  | .mix _, ⟨dx, s, h, g⟩, q => Z.i_isiC h (E.cls 3) (Z.fxIns_ok (E.own 6)) (Z.fxKit_ok (E.own 33)) q
  | .times , ⟨dx, s, h, g⟩, q => Z.i_isiC h (E.cls 4) (Z.fxIns_ok (E.own 8)) (Z.fxKit_ok (E.own 34)) q
  | .choose , ⟨dx, s, h, g⟩, q => Z.i_isiC h (E.cls 5) (Z.fxIns_ok (E.own 10)) (Z.fxKit_ok (E.own 35)) q
  | .own _ _, ⟨dx, s, h, g⟩, q => Z.i_isiC h (E.cls 6) (Z.fxIns_ok (E.own 12)) (Z.fxKit_ok (E.own 36)) q
  | .up _, ⟨dx, s, h, g⟩, q => Z.i_isiC h (E.cls 7) (Z.fxIns_ok (E.own 14)) (Z.fxKit_ok (E.own 37)) q
  | .down _, ⟨dx, s, h, g⟩, q => Z.i_isiC h (E.cls 8) (Z.fxIns_ok (E.own 16)) (Z.fxKit_ok (E.own 38)) q
  | .resample _ _, ⟨dx, s, h, g⟩, q => Z.i_isiC h (E.cls 9) (Z.fxIns_ok (E.own 18)) (Z.fxKit_ok (E.own 39)) q

theorem late_at (nd : Nd) (K : PySem.W.Frag) (s : Addr) : ∃ l b : Nat, ∀ s', (nd.fs K s').lookup ("own_late" : Str) = some (.int (l : Nat)) ∧ (nd.fs K s').lookup ("own_begin" : Str) = some (.int (b : Nat)) := by
  cases nd <;> exact ⟨_, _, fun _ => ⟨rfl, rfl⟩⟩
/-- of nodes of one sort: whether they are made of the same -/
def Nd.same : Nd → Nd → Bool
  | .inlet , .inlet  => true
  | .outlet , .outlet  => true
  | .gain gn _ _, .gain gn' _ _ => decide (gn = gn')
  | .mix n, .mix n' => decide (n = n')
  | .times , .times  => true
  | .choose , .choose  => true
  | .own ts n, .own ts' n' => (decide (ts = ts') && decide (n = n'))
  | .up n, .up n' => decide (n = n')
  | .down n, .down n' => decide (n = n')
  | .resample ru rd, .resample ru' rd' => (decide (ru = ru') && decide (rd = rd'))
  | _, _ => false
def Nd.lt : Nd → Nat
  | .gain _ l _ => l
  | _ => 0
def Nd.bg : Nd → Nat
  | .gain _ _ b => b
  | _ => 0
theorem lt_bg (nd : Nd) (K : PySem.W.Frag) (s : Addr) : (nd.fs K s).lookup ("own_late" : Str) = some (.int (nd.lt : Nat)) ∧ (nd.fs K s).lookup ("own_begin" : Str) = some (.int (nd.bg : Nat)) := by
  cases nd <;> exact ⟨rfl, rfl⟩
def Nd.eqs (nd nd' : Nd) (i : Nat) : Bool := match i with
  | 0 => decide (nd.word = nd'.word)
  | 1 => nd.same nd'
  | 2 => decide (nd.lt = nd'.lt)
  | _ => decide (nd.bg = nd'.bg)

theorem all_eq {α : Type} [DecidableEq α] (xs ys : List α) : (((List.range (min xs.length ys.length)).all fun i => decide (xs[i]? = ys[i]?)) && decide (xs.length = ys.length)) = decide (xs = ys) := by
  by_cases h : xs = ys
  · subst h
    simp
  · rw [decide_eq_false h]
    by_cases l : xs.length = ys.length
    · have : (List.range (min xs.length ys.length)).all (fun i => decide (xs[i]? = ys[i]?)) = false := by
        rw [← Bool.not_eq_true, List.all_eq_true]
        intro q
        refine h (List.ext_getElem? fun i => ?_)
        by_cases li : i < xs.length
        · exact of_decide_eq_true (q i (List.mem_range.mpr (by omega)))
        · rw [List.getElem?_eq_none (by omega), List.getElem?_eq_none (by omega)]
      rw [this, Bool.false_and]
    · rw [decide_eq_false l, Bool.and_false]
theorem pev_nat {K : PySem.W.Frag} {k : Nat} {H : Hp} {n n' : Nat} : Z.PeV K k (.int (n : Nat)) (.int (n' : Nat)) (decide (n = n')) H := by
  have e : decide (n = n') = decide ((n : Int) = (n' : Int)) := decide_eq_decide.mpr (by omega)
  rw [e]
  exact Z.PeV.int
theorem pev_zero {K : PySem.W.Frag} {k : Nat} {H : Hp} : Z.PeV K k (.int 0) (.int 0) true H := Z.PeV.int (a := 0) (b := 0)
theorem pev_fal {K : PySem.W.Frag} {k : Nat} {H : Hp} : Z.PeV K k (.bl false) (.bl false) true H := Z.PeV.flat (x := .bl false) (y := .bl false) rfl rfl
theorem nats_inj {ts ts' : List Nat} (h : nats ts = nats ts') : ts = ts' := by
  unfold nats at h
  exact (List.map_inj_right (fun a b h => by omega)).mp h
theorem ints_inj {ns ns' : List Int} (h : ns.map V.int = ns'.map V.int) : ns = ns' := (List.map_inj_right (fun a b h => by cases h; rfl)).mp h
theorem pev_tup {K : PySem.W.Frag} {H : Hp} {s s' : Addr} {ts ts' : List Nat} (h : H s = some (.tup ((nats ts).map V.int))) (h' : H s' = some (.tup ((nats ts').map V.int))) : Z.PeV K 1 (.ref s) (.ref s') (decide (ts = ts')) H := by
  have q := Z.PeV.tup (K := K) (n := 0) (es := fun i => decide ((nats ts)[i]? = (nats ts')[i]?)) h h' (fun i x y hx hy => by
    obtain ⟨z, ez, rfl⟩ := ints_at hx
    obtain ⟨z', ez', rfl⟩ := ints_at hy
    have e : decide ((nats ts)[i]? = (nats ts')[i]?) = decide (z = z') := by rw [ez, ez']; exact decide_eq_decide.mpr (by simp)
    show Z.PeV K 0 _ _ (decide ((nats ts)[i]? = (nats ts')[i]?)) H
    rw [e]
    exact Z.PeV.int) (fun e i li => by
    subst e
    rw [h] at h'
    have : nats ts = nats ts' := ints_inj (HO.tup.inj (Option.some.inj h'))
    rw [this]
    exact decide_eq_true rfl)
  rw [List.length_map, List.length_map, all_eq (nats ts) (nats ts')] at q
  have e : decide (ts = ts') = decide (nats ts = nats ts') := decide_eq_decide.mpr ⟨fun z => by rw [z], nats_inj⟩
  rw [e]
  exact q
theorem pev_two {K : PySem.W.Frag} {H : Hp} {s s' : Addr} (h : H s = some (.lst [.int 1, .int 2])) (h' : H s' = some (.lst [.int 1, .int 2])) : Z.PeV K 1 (.ref s) (.ref s') true H := by
  have q := Z.PeV.lst (K := K) (n := 0) (es := fun _ => true) h h' (fun i x y hx hy => by
    match i, hx, hy with
    | 0, hx, hy => cases hx; cases hy; exact Z.PeV.int (a := 1) (b := 1)
    | 1, hx, hy => cases hx; cases hy; exact Z.PeV.int (a := 2) (b := 2)
    | n + 2, hx, _ => simp at hx) (fun _ _ _ => rfl)
  exact q

theorem parts_pe {K : PySem.W.Frag} {H : Hp} {s s' r r' : Addr} : ∀ {nd nd' : Nd}, nd.word = nd'.word → PartExt H s nd → PartExt H s' nd' → H r = some (.lst (nd.parts K s)) → H r' = some (.lst (nd'.parts K s')) → r ≠ r' → Z.PeV K 2 (.ref r) (.ref r') (nd.same nd') H := by
  intro nd nd' hw h h' e e' ne
  cases nd <;> cases nd' <;> first
    | exact absurd hw (by simp only [Nd.word]; decide +kernel)
    | skip
  · exact Z.PeV.lst_ne (es := fun _ => true) e e' (fun i x y hx _ => by simp [Nd.parts] at hx) ne rfl
  · exact Z.PeV.lst_ne (es := fun _ => true) e e' (fun i x y hx _ => by simp [Nd.parts] at hx) ne rfl
  · rename_i gn _ _ gn' _ _
    refine Z.PeV.lst_ne (es := fun i => match i with
      | 0 => decide (gn = gn')
      | _ => true) e e' (fun i x y hx hy => ?_) ne ?_
    · match i, hx, hy with
      | 0, hx, hy => cases hx; cases hy; exact Z.PeV.int
      | n + 1, hx, _ => simp [Nd.parts] at hx
    · show ((decide (gn = gn') && true) && true) = _
      simp [Nd.same]
  · rename_i n n'
    refine Z.PeV.lst_ne (es := fun i => match i with
      | 0 => decide (n = n')
      | _ => true) e e' (fun i x y hx hy => ?_) ne ?_
    · match i, hx, hy with
      | 0, hx, hy => cases hx; cases hy; exact pev_nat
      | n + 1, hx, _ => simp [Nd.parts] at hx
    · show ((decide (n = n') && true) && true) = _
      simp [Nd.same]
  · exact Z.PeV.lst_ne (es := fun _ => true) e e' (fun i x y hx _ => by simp [Nd.parts] at hx) ne rfl
  · exact Z.PeV.lst_ne (es := fun _ => true) e e' (fun i x y hx _ => by simp [Nd.parts] at hx) ne rfl
  · rename_i ts n ts' n'
    refine Z.PeV.lst_ne (es := fun i => match i with
      | 0 => true
      | 1 => decide (ts = ts')
      | 2 => decide (n = n')
      | 3 => true
      | _ => true) e e' (fun i x y hx hy => ?_) ne ?_
    · match i, hx, hy with
      | 0, hx, hy => cases hx; cases hy; exact Z.PeV.same
      | 1, hx, hy => cases hx; cases hy; exact pev_tup h h'
      | 2, hx, hy => cases hx; cases hy; exact pev_nat
      | 3, hx, hy => cases hx; cases hy; exact pev_zero
      | n + 4, hx, _ => simp [Nd.parts] at hx
    · show ((true && (decide (ts = ts') && (decide (n = n') && (true && true)))) && true) = _
      simp [Nd.same]
  · rename_i n n'
    refine Z.PeV.lst_ne (es := fun i => match i with
      | 0 => decide (n = n')
      | 1 => true
      | _ => true) e e' (fun i x y hx hy => ?_) ne ?_
    · match i, hx, hy with
      | 0, hx, hy => cases hx; cases hy; exact pev_nat
      | 1, hx, hy => cases hx; cases hy; exact pev_fal
      | n + 2, hx, _ => simp [Nd.parts] at hx
    · show ((decide (n = n') && (true && true)) && true) = _
      simp [Nd.same]
  · rename_i n n'
    refine Z.PeV.lst_ne (es := fun i => match i with
      | 0 => decide (n = n')
      | _ => true) e e' (fun i x y hx hy => ?_) ne ?_
    · match i, hx, hy with
      | 0, hx, hy => cases hx; cases hy; exact pev_nat
      | n + 1, hx, _ => simp [Nd.parts] at hx
    · show ((decide (n = n') && true) && true) = _
      simp [Nd.same]
  · rename_i ru rd ru' rd'
    refine Z.PeV.lst_ne (es := fun i => match i with
      | 0 => decide (ru = ru')
      | 1 => decide (rd = rd')
      | 2 => true
      | _ => true) e e' (fun i x y hx hy => ?_) ne ?_
    · match i, hx, hy with
      | 0, hx, hy => cases hx; cases hy; exact pev_nat
      | 1, hx, hy => cases hx; cases hy; exact pev_nat
      | 2, hx, hy => cases hx; cases hy; exact pev_two h h'
      | n + 3, hx, _ => simp [Nd.parts] at hx
    · show ((decide (ru = ru') && (decide (rd = rd') && (true && true))) && true) = _
      simp [Nd.same]

theorem pev_word {K : PySem.W.Frag} {k : Nat} {H : Hp} {x y : Str} : Z.PeV K k (.str x) (.str y) (decide (x = y)) H := by
  have q := Z.PeV.flat (K := K) (n := k) (H := H) (x := .str x) (y := .str y) rfl rfl
  have e : eqV (.str x) (.str y) = decide (x = y) := by
    by_cases h : x = y
    · subst h; simp [eqV]
    · rw [decide_eq_false h]; simp [eqV, h]
  rw [e] at q
  exact q
theorem parts_same {K : PySem.W.Frag} {H : Hp} {s s' : Addr} : ∀ {nd nd' : Nd}, nd.word = nd'.word → PartExt H s nd → PartExt H s' nd' → nd.parts K s = nd'.parts K s' → nd.same nd' = true := by
  intro nd nd' hw h h' e
  cases nd <;> cases nd' <;> first
    | exact absurd hw (by simp only [Nd.word]; decide +kernel)
    | rfl
    | skip
  · rename_i gn _ _ gn' _ _
    simp [Nd.parts] at e
    simp [Nd.same]
    omega
  · rename_i n n'
    simp [Nd.parts] at e
    simp [Nd.same]
    omega
  · rename_i ts n ts' n'
    simp only [Nd.parts, List.cons.injEq, V.ref.injEq, V.int.injEq, and_true, true_and] at e
    have h : H s = some (.tup ((nats ts).map V.int)) := h
    have h' : H s' = some (.tup ((nats ts').map V.int)) := h'
    rw [e.1, h'] at h
    have z : ts' = ts := nats_inj (ints_inj (HO.tup.inj (Option.some.inj h)))
    simp only [Nd.same, Bool.and_eq_true, decide_eq_true_eq]
    exact ⟨z.symm, by omega⟩
  · rename_i n n'
    simp [Nd.parts] at e
    simp [Nd.same]
    omega
  · rename_i n n'
    simp [Nd.parts] at e
    simp [Nd.same]
    omega
  · rename_i ru rd ru' rd'
    simp [Nd.parts] at e
    simp [Nd.same]
    omega

theorem eqs_eq {nd nd' : Nd} : (nd.word = nd'.word → nd.same nd' = true → nd.lt = nd'.lt → nd.bg = nd'.bg → nd = nd') := by
  intro hw hs hl hb
  cases nd <;> cases nd' <;> first
    | exact absurd hw (by simp only [Nd.word]; decide +kernel)
    | rfl
    | (simp_all [Nd.same, Nd.lt, Nd.bg]; done)
theorem same_refl (nd : Nd) : nd.same nd = true := by cases nd <;> simp [Nd.same]
theorem eqs_all (nd nd' : Nd) : ((List.range (min 4 4)).all (nd.eqs nd') && decide (4 = 4)) = decide (nd = nd') := by
  show ((nd.eqs nd' 0 && (nd.eqs nd' 1 && (nd.eqs nd' 2 && (nd.eqs nd' 3 && true)))) && true) = _
  simp only [Nd.eqs, Bool.and_true]
  by_cases h : nd = nd'
  · subst h
    simp [same_refl]
  · rw [decide_eq_false h]
    by_cases a : nd.word = nd'.word
    · by_cases b : nd.same nd' = true
      · by_cases c : nd.lt = nd'.lt
        · by_cases d : nd.bg = nd'.bg
          · exact absurd (eqs_eq a b c d) h
          · simp [d]
        · simp [c]
      · simp [b]
    · simp [a]
theorem kinds_ev {K : PySem.W.Frag} {mg : Str → Option Value} (E : Ev K mg) (nd : Nd) : Cls K (He.ga K nd.cls) ∧ NoAttr K (He.ga K nd.cls) "own_late" ∧ NoAttr K (He.ga K nd.cls) "own_begin" := by
  cases nd
  · exact ⟨E.cls 0, E.noat 10, E.noat 11⟩
  · exact ⟨E.cls 1, E.noat 12, E.noat 13⟩
  · exact ⟨E.cls 2, E.noat 14, E.noat 15⟩
  · exact ⟨E.cls 3, E.noat 16, E.noat 17⟩
  · exact ⟨E.cls 4, E.noat 18, E.noat 19⟩
  · exact ⟨E.cls 5, E.noat 20, E.noat 21⟩
  · exact ⟨E.cls 6, E.noat 22, E.noat 23⟩
  · exact ⟨E.cls 7, E.noat 24, E.noat 25⟩
  · exact ⟨E.cls 8, E.noat 26, E.noat 27⟩
  · exact ⟨E.cls 9, E.noat 28, E.noat 29⟩
theorem PartExt.same {H H' : Hp} {s : Addr} : ∀ {nd : Nd}, PartExt H s nd → Same H H' → PartExt H' s nd
  | .inlet , h, f => trivial
  | .outlet , h, f => trivial
  | .gain _ _ _, h, f => trivial
  | .mix _, h, f => trivial
  | .times , h, f => trivial
  | .choose , h, f => trivial
  | .own _ _, h, f => f _ _ h
  | .up _, h, f => trivial
  | .down _, h, f => trivial
  | .resample _ _, h, f => f _ _ h
def sp_Node_u__eq (K : PySem.W.Frag) : Sp := fun vz H Q Ex => ∃ (a b : Addr) (nd nd' : Nd), vz = [.ref a, .ref b] ∧ (IsNode K H a nd) ∧ (IsNode K H b nd') ∧ (∀ H', Same H H' → Q (.bl (decide (nd = nd'))) H')
theorem c_Node_u__eq {K : PySem.W.Frag} {H : Hp} {Q : VK} {Ex : XK} {a b : Addr} {nd nd' : Nd} (h1 : IsNode K H a nd) (h2 : IsNode K H b nd') (k : ∀ H', Same H H' → Q (.bl (decide (nd = nd'))) H') : sp_Node_u__eq K [.ref a, .ref b] H Q Ex := ⟨a, b, nd, nd', rfl, h1, h2, k⟩
theorem ok_Node_u__eq {g : Prop} {P : Program} {w : World} {K : PySem.W.Frag} {mg : Str → Option Value} {base : Heap} (E : Ev K mg) : Z.Pr g P w K mg base 5 (He.ma K (He.ga K "Node") "__eq__") d_Node_u__eq p_Node_u__eq (sp_Node_u__eq K) := by
  obtain ⟨fd, FD⟩ := E.fn 53 (d := d_Node_u__eq)
  refine ⟨fd, FD, Z.FunD.okG FD sc_Node_u__eq (fun vz H Q Ex h => ?_) (fun cdv A outer s H vz Q Ex hr hgd h => ?_)⟩
  · obtain ⟨_, _, _, _, rfl, _⟩ := h
    rfl
  · have hu := hr.units
    obtain ⟨a, b, nd, nd', rfl, h1, h2, k⟩ := h
    have F_Choose_sort_word := ok_Choose_sort_word (g := g) (P := P) (w := w) (base := base) E
    have F_Down_own_parts := ok_Down_own_parts (g := g) (P := P) (w := w) (base := base) E
    have F_Down_sort_word := ok_Down_sort_word (g := g) (P := P) (w := w) (base := base) E
    have F_Gain_own_parts := ok_Gain_own_parts (g := g) (P := P) (w := w) (base := base) E
    have F_Gain_sort_word := ok_Gain_sort_word (g := g) (P := P) (w := w) (base := base) E
    have F_Inlet_sort_word := ok_Inlet_sort_word (g := g) (P := P) (w := w) (base := base) E
    have F_Mix_own_parts := ok_Mix_own_parts (g := g) (P := P) (w := w) (base := base) E
    have F_Mix_sort_word := ok_Mix_sort_word (g := g) (P := P) (w := w) (base := base) E
    have F_Node_own_parts := ok_Node_own_parts (g := g) (P := P) (w := w) (base := base) E
    have F_Outlet_sort_word := ok_Outlet_sort_word (g := g) (P := P) (w := w) (base := base) E
    have F_Own_own_parts := ok_Own_own_parts (g := g) (P := P) (w := w) (base := base) E
    have F_Own_sort_word := ok_Own_sort_word (g := g) (P := P) (w := w) (base := base) E
    have F_Resample_own_parts := ok_Resample_own_parts (g := g) (P := P) (w := w) (base := base) E
    have F_Resample_sort_word := ok_Resample_sort_word (g := g) (P := P) (w := w) (base := base) E
    have F_Times_sort_word := ok_Times_sort_word (g := g) (P := P) (w := w) (base := base) E
    have F_Up_own_parts := ok_Up_own_parts (g := g) (P := P) (w := w) (base := base) E
    have F_Up_sort_word := ok_Up_sort_word (g := g) (P := P) (w := w) (base := base) E
    have cl_Inlet := E.cls 0
    have na_Inlet_own_begin := E.noat 11
    have na_Inlet_own_late := E.noat 10
    have cl_Outlet := E.cls 1
    have na_Outlet_own_begin := E.noat 13
    have na_Outlet_own_late := E.noat 12
    have cl_Gain := E.cls 2
    have na_Gain_own_begin := E.noat 15
    have na_Gain_own_late := E.noat 14
    have cl_Mix := E.cls 3
    have na_Mix_own_begin := E.noat 17
    have na_Mix_own_late := E.noat 16
    have cl_Times := E.cls 4
    have na_Times_own_begin := E.noat 19
    have na_Times_own_late := E.noat 18
    have cl_Choose := E.cls 5
    have na_Choose_own_begin := E.noat 21
    have na_Choose_own_late := E.noat 20
    have cl_Own := E.cls 6
    have na_Own_own_begin := E.noat 23
    have na_Own_own_late := E.noat 22
    have cl_Up := E.cls 7
    have na_Up_own_begin := E.noat 25
    have na_Up_own_late := E.noat 24
    have cl_Down := E.cls 8
    have na_Down_own_begin := E.noat 27
    have na_Down_own_late := E.noat 26
    have cl_Resample := E.cls 9
    have na_Resample_own_begin := E.noat 29
    have na_Resample_own_late := E.noat 28
    refine ⟨_, (Z.zs_cons (Z.z_if (pt_not (pt_val (pe_callB (Z.cisiK K rfl) (by rfl) (E.free 39) (by decide +kernel) (pa_cons (pv 1) (pa_cons (pe_glob (v := .ref (He.ga K "Node")) rfl (E.glo 52) rfl) pa_nil))))) (Z.zs_one (Z.z_ret pe_bl)) Z.zs_nil)
   (Z.zs_cons (Z.z_set (i := 2) sc_Node_u__eq.nd rfl (Or.inl rfl) (pe_tup (pa_cons (Z.pe_M0K K rfl (Z.ms_cons (Z.mt_of (E.cls 0) (Z.fxM_ok (E.own 73)) F_Inlet_sort_word bd_Inlet_sort_word (hr.mono (by decide)) hgd) (Z.ms_cons (Z.mt_of (E.cls 1) (Z.fxM_ok (E.own 72)) F_Outlet_sort_word bd_Outlet_sort_word (hr.mono (by decide)) hgd) (Z.ms_cons (Z.mt_of (E.cls 2) (Z.fxM_ok (E.own 71)) F_Gain_sort_word bd_Gain_sort_word (hr.mono (by decide)) hgd) (Z.ms_cons (Z.mt_of (E.cls 3) (Z.fxM_ok (E.own 70)) F_Mix_sort_word bd_Mix_sort_word (hr.mono (by decide)) hgd) (Z.ms_cons (Z.mt_of (E.cls 4) (Z.fxM_ok (E.own 69)) F_Times_sort_word bd_Times_sort_word (hr.mono (by decide)) hgd) (Z.ms_cons (Z.mt_of (E.cls 5) (Z.fxM_ok (E.own 68)) F_Choose_sort_word bd_Choose_sort_word (hr.mono (by decide)) hgd) (Z.ms_cons (Z.mt_of (E.cls 6) (Z.fxM_ok (E.own 67)) F_Own_sort_word bd_Own_sort_word (hr.mono (by decide)) hgd) (Z.ms_cons (Z.mt_of (E.cls 7) (Z.fxM_ok (E.own 66)) F_Up_sort_word bd_Up_sort_word (hr.mono (by decide)) hgd) (Z.ms_cons (Z.mt_of (E.cls 8) (Z.fxM_ok (E.own 65)) F_Down_sort_word bd_Down_sort_word (hr.mono (by decide)) hgd) (Z.ms_cons (Z.mt_of (E.cls 9) (Z.fxM_ok (E.own 64)) F_Resample_sort_word bd_Resample_sort_word (hr.mono (by decide)) hgd) Z.ms_nil)))))))))) (passL) (pv 0)) (pa_cons (Z.pe_M0K K rfl (Z.ms_cons (Z.mt_of (E.cls 0) (Z.fxM_ok (E.own 63)) F_Node_own_parts bd_Node_own_parts (hr.mono (by decide)) hgd) (Z.ms_cons (Z.mt_of (E.cls 1) (Z.fxM_ok (E.own 62)) F_Node_own_parts bd_Node_own_parts (hr.mono (by decide)) hgd) (Z.ms_cons (Z.mt_of (E.cls 2) (Z.fxM_ok (E.own 61)) F_Gain_own_parts bd_Gain_own_parts (hr.mono (by decide)) hgd) (Z.ms_cons (Z.mt_of (E.cls 3) (Z.fxM_ok (E.own 60)) F_Mix_own_parts bd_Mix_own_parts (hr.mono (by decide)) hgd) (Z.ms_cons (Z.mt_of (E.cls 4) (Z.fxM_ok (E.own 59)) F_Node_own_parts bd_Node_own_parts (hr.mono (by decide)) hgd) (Z.ms_cons (Z.mt_of (E.cls 5) (Z.fxM_ok (E.own 58)) F_Node_own_parts bd_Node_own_parts (hr.mono (by decide)) hgd) (Z.ms_cons (Z.mt_of (E.cls 6) (Z.fxM_ok (E.own 57)) F_Own_own_parts bd_Own_own_parts (hr.mono (by decide)) hgd) (Z.ms_cons (Z.mt_of (E.cls 7) (Z.fxM_ok (E.own 56)) F_Up_own_parts bd_Up_own_parts (hr.mono (by decide)) hgd) (Z.ms_cons (Z.mt_of (E.cls 8) (Z.fxM_ok (E.own 55)) F_Down_own_parts bd_Down_own_parts (hr.mono (by decide)) hgd) (Z.ms_cons (Z.mt_of (E.cls 9) (Z.fxM_ok (E.own 54)) F_Resample_own_parts bd_Resample_own_parts (hr.mono (by decide)) hgd) Z.ms_nil)))))))))) (passL) (pv 0)) (pa_cons (Z.pe_fldK K rfl (pv 0) rfl) (pa_cons (Z.pe_fldK K rfl (pv 0) rfl) pa_nil))))))
   (Z.zs_one (Z.z_ret (pe_cmpR (Z.opEqP (n := 2) K rfl (hr.mono (by decide))) (pv 2) (pe_tup (pa_cons (Z.pe_M0K K rfl (Z.ms_cons (Z.mt_of (E.cls 0) (Z.fxM_ok (E.own 73)) F_Inlet_sort_word bd_Inlet_sort_word (hr.mono (by decide)) hgd) (Z.ms_cons (Z.mt_of (E.cls 1) (Z.fxM_ok (E.own 72)) F_Outlet_sort_word bd_Outlet_sort_word (hr.mono (by decide)) hgd) (Z.ms_cons (Z.mt_of (E.cls 2) (Z.fxM_ok (E.own 71)) F_Gain_sort_word bd_Gain_sort_word (hr.mono (by decide)) hgd) (Z.ms_cons (Z.mt_of (E.cls 3) (Z.fxM_ok (E.own 70)) F_Mix_sort_word bd_Mix_sort_word (hr.mono (by decide)) hgd) (Z.ms_cons (Z.mt_of (E.cls 4) (Z.fxM_ok (E.own 69)) F_Times_sort_word bd_Times_sort_word (hr.mono (by decide)) hgd) (Z.ms_cons (Z.mt_of (E.cls 5) (Z.fxM_ok (E.own 68)) F_Choose_sort_word bd_Choose_sort_word (hr.mono (by decide)) hgd) (Z.ms_cons (Z.mt_of (E.cls 6) (Z.fxM_ok (E.own 67)) F_Own_sort_word bd_Own_sort_word (hr.mono (by decide)) hgd) (Z.ms_cons (Z.mt_of (E.cls 7) (Z.fxM_ok (E.own 66)) F_Up_sort_word bd_Up_sort_word (hr.mono (by decide)) hgd) (Z.ms_cons (Z.mt_of (E.cls 8) (Z.fxM_ok (E.own 65)) F_Down_sort_word bd_Down_sort_word (hr.mono (by decide)) hgd) (Z.ms_cons (Z.mt_of (E.cls 9) (Z.fxM_ok (E.own 64)) F_Resample_sort_word bd_Resample_sort_word (hr.mono (by decide)) hgd) Z.ms_nil)))))))))) (passL) (pv 1)) (pa_cons (Z.pe_M0K K rfl (Z.ms_cons (Z.mt_of (E.cls 0) (Z.fxM_ok (E.own 63)) F_Node_own_parts bd_Node_own_parts (hr.mono (by decide)) hgd) (Z.ms_cons (Z.mt_of (E.cls 1) (Z.fxM_ok (E.own 62)) F_Node_own_parts bd_Node_own_parts (hr.mono (by decide)) hgd) (Z.ms_cons (Z.mt_of (E.cls 2) (Z.fxM_ok (E.own 61)) F_Gain_own_parts bd_Gain_own_parts (hr.mono (by decide)) hgd) (Z.ms_cons (Z.mt_of (E.cls 3) (Z.fxM_ok (E.own 60)) F_Mix_own_parts bd_Mix_own_parts (hr.mono (by decide)) hgd) (Z.ms_cons (Z.mt_of (E.cls 4) (Z.fxM_ok (E.own 59)) F_Node_own_parts bd_Node_own_parts (hr.mono (by decide)) hgd) (Z.ms_cons (Z.mt_of (E.cls 5) (Z.fxM_ok (E.own 58)) F_Node_own_parts bd_Node_own_parts (hr.mono (by decide)) hgd) (Z.ms_cons (Z.mt_of (E.cls 6) (Z.fxM_ok (E.own 57)) F_Own_own_parts bd_Own_own_parts (hr.mono (by decide)) hgd) (Z.ms_cons (Z.mt_of (E.cls 7) (Z.fxM_ok (E.own 56)) F_Up_own_parts bd_Up_own_parts (hr.mono (by decide)) hgd) (Z.ms_cons (Z.mt_of (E.cls 8) (Z.fxM_ok (E.own 55)) F_Down_own_parts bd_Down_own_parts (hr.mono (by decide)) hgd) (Z.ms_cons (Z.mt_of (E.cls 9) (Z.fxM_ok (E.own 54)) F_Resample_own_parts bd_Resample_own_parts (hr.mono (by decide)) hgd) Z.ms_nil)))))))))) (passL) (pv 1)) (pa_cons (Z.pe_fldK K rfl (pv 1) rfl) (pa_cons (Z.pe_fldK K rfl (pv 1) rfl) pa_nil))))) (nomark _)))))), ?_⟩
    refine Z.i_start (σ := [some (.ref a), some (.ref b), none]) rfl ?_
    try dsimp only [Z.cxK]
    obtain ⟨c1, c2, c3⟩ := kinds_ev E nd
    obtain ⟨c1', c2', c3'⟩ := kinds_ev E nd'
    k_call_by "za" 0
    refine m_isnode E h2 ?_
    k_call_by "za" 0
    refine m_sort_word h1 ?_
    k_call_by "za" 0
    refine m_own_parts h1 fun r1 s1 H1 f1 e1 x1 => ?_
    k_call_by "za" 0
    obtain ⟨dx, s, i1, g1⟩ := h1.kept (.of f1)
    refine Z.i_fld1 i1 c1 c2 (lt_bg nd K s).1 ?_
    k_call_by "za" 0
    refine Z.i_fld1 i1 c1 c3 (lt_bg nd K s).2 ?_
    k_call_by "za" 0
    rename_i t1 H2 n2
    have h22 := h2.kept (.of (f1.trans n2.same))
    refine m_sort_word h22 ?_
    k_call_by "za" 0
    refine m_own_parts h22 fun r3 s3 H3 f3 e3 x3 => ?_
    k_call_by "za" 0
    obtain ⟨dy, s', i2, g2⟩ := h22.kept (.of f3)
    refine Z.i_fld1 i2 c1' c2' (lt_bg nd' K s').1 ?_
    k_call_by "za" 0
    refine Z.i_fld1 i2 c1' c3' (lt_bg nd' K s').2 ?_
    k_call_by "za" 0
    rename_i t4 H4 n4
    have e1' : H4 r1 = _ := n4.get (f3 _ _ (n2.get e1))
    have e3' : H4 r3 = _ := n4.get e3
    have x1' := x1.same ((n2.same.trans f3).trans n4.same)
    have x3' := x3.same n4.same
    have q : (∀ H', Same H H' → Q (V.bl (decide (nd = nd'))) H') := k
    rw [← eqs_all nd nd'] at q
    refine ⟨t1, t4, _, _, nd.eqs nd', rfl, rfl, n4.get (f3 _ _ n2.at), n4.at, fun i x y bef hx hy => ?_, q H4 (f1.trans (n2.same.trans (f3.trans n4.same)))⟩
    match i, hx, hy with
    | 0, hx, hy => cases hx; cases hy; exact pev_word
    | 1, hx, hy =>
      cases hx; cases hy
      have hw : nd.word = nd'.word := of_decide_eq_true (bef 0 (by decide))
      by_cases ne : r1 = r3
      · subst ne
        have e : nd.same nd' = true := parts_same hw x1' x3' (HO.lst.inj (Option.some.inj (e1'.symm.trans e3')))
        show Z.PeV K 2 (.ref r1) (.ref r1) (nd.same nd') H4
        rw [e]
        exact Z.PeV.same
      · exact parts_pe hw x1' x3' e1' e3' ne
    | 2, hx, hy => cases hx; cases hy; exact pev_nat
    | 3, hx, hy => cases hx; cases hy; exact pev_nat
    | n + 4, hx, _ => simp at hx

structure Knot where
  nm : Str
  nd : Nd
  deriving DecidableEq
structure Wire where
  s : Str
  g : Str
  p : Nat
  d : Int
  deriving DecidableEq
def Wire.at (w : Wire) : Str × Nat := (w.g, w.p)
def IsPair (K : PySem.W.Frag) (H : Hp) (v : V) (k : Knot) : Prop := ∃ r a, v = .ref r ∧ H r = some (.tup [.str k.nm, .ref a]) ∧ IsNode K H a k.nd
def IsWire (H : Hp) (v : V) (w : Wire) : Prop := ∃ r, v = .ref r ∧ H r = some (.tup [.str w.s, .str w.g, .int (w.p : Nat), .int w.d])
def IsNamed (K : PySem.W.Frag) (H : Hp) (kv : Key × V) (k : Knot) : Prop := ∃ a, kv = (.inr k.nm, .ref a) ∧ IsNode K H a k.nd
theorem IsPair.kept {K : PySem.W.Frag} {H H' : Hp} {v : V} {k : Knot} (h : IsPair K H v k) (f : Kept H H') : IsPair K H' v k := by
  obtain ⟨r, a, e, h, g⟩ := h
  exact ⟨r, a, e, f.t _ _ h, g.kept f⟩
theorem IsWire.kept {H H' : Hp} {v : V} {w : Wire} (h : IsWire H v w) (f : Kept H H') : IsWire H' v w := by
  obtain ⟨r, e, h⟩ := h
  exact ⟨r, e, f.t _ _ h⟩
theorem IsNamed.kept {K : PySem.W.Frag} {H H' : Hp} {v : Key × V} {k : Knot} (h : IsNamed K H v k) (f : Kept H H') : IsNamed K H' v k := by
  obtain ⟨a, e, g⟩ := h
  exact ⟨a, e, g.kept f⟩
abbrev Pairs (K : PySem.W.Frag) (H : Hp) := Z.All2 (IsPair K H)
abbrev Wires (H : Hp) := Z.All2 (IsWire H)
abbrev Named (K : PySem.W.Frag) (H : Hp) := Z.All2 (IsNamed K H)
theorem pairs_kept {K : PySem.W.Frag} {H H' : Hp} {vs : List V} {ks : List Knot} (h : Pairs K H vs ks) (f : Kept H H') : Pairs K H' vs ks := h.mono fun _ _ x => x.kept f
theorem wires_kept {H H' : Hp} {vs : List V} {ws : List Wire} (h : Wires H vs ws) (f : Kept H H') : Wires H' vs ws := h.mono fun _ _ x => x.kept f
theorem named_kept {K : PySem.W.Frag} {H H' : Hp} {vs : List (Key × V)} {ks : List Knot} (h : Named K H vs ks) (f : Kept H H') : Named K H' vs ks := h.mono fun _ _ x => x.kept f
/-- what a weave may be made of -/
structure Valid (ks : List Knot) (ws : List Wire) : Prop where
  kl : ks.length ≤ 24
  wl : ws.length ≤ 48
  nm : ∀ k ∈ ks, isNm k.nm
  nd : (ks.map (·.nm)).Nodup
  wf : ∀ k ∈ ks, k.nd.wf
  src : ∀ w ∈ ws, ∃ k ∈ ks, k.nm = w.s ∧ k.nd.isOut = false
  gol : ∀ w ∈ ws, ∃ k ∈ ks, k.nm = w.g ∧ w.p < k.nd.takes.length
  dly : ∀ w ∈ ws, 0 ≤ w.d ∧ w.d ≤ 9999
  uni : (ws.map Wire.at).Nodup
  all : ∀ k ∈ ks, ∀ p, p < k.nd.takes.length → ∃ w ∈ ws, w.at = (k.nm, p)
  rank : ∃ f : Str → Nat, ∀ k ∈ ks, k.nd.isIn = false → ∃ w ∈ ws, w.g = k.nm ∧ f w.s < f k.nm
theorem named_get {K : PySem.W.Frag} {H : Hp} : ∀ {kvs : List (Key × V)} {ks : List Knot}, Named K H kvs ks → (ks.map (·.nm)).Nodup → ∀ k ∈ ks, ∃ a, valV kvs (.inr k.nm) = some (.ref a) ∧ IsNode K H a k.nd
  | _, [], _, _, k, hk => by cases hk
  | kvs, j :: ks, h, nd, k, hk => by
    obtain ⟨x, xs, rfl, ⟨a, rfl, hn⟩, h'⟩ := h.cons_of
    rw [List.map_cons, List.nodup_cons] at nd
    rcases List.mem_cons.mp hk with rfl | hk
    · exact ⟨a, valV_pos rfl, hn⟩
    · obtain ⟨b, hb, hn'⟩ := named_get h' nd.2 k hk
      refine ⟨b, ?_, hn'⟩
      rw [valV_neg (fun e => nd.1 (by rw [Sum.inr.inj e]; exact List.mem_map_of_mem hk))]
      exact hb
theorem named_none {K : PySem.W.Frag} {H : Hp} : ∀ {kvs : List (Key × V)} {ks : List Knot} {x : Str}, Named K H kvs ks → x ∉ ks.map (·.nm) → valV kvs (.inr x) = none
  | _, [], _, h, _ => by rw [h.nil_of]; rfl
  | kvs, j :: ks, x, h, n => by
    obtain ⟨y, xs, rfl, ⟨a, rfl, hn⟩, h'⟩ := h.cons_of
    rw [List.map_cons] at n
    rw [valV_neg (fun e => n (by rw [← Sum.inr.inj e]; exact List.mem_cons_self))]
    exact named_none h' fun m => n (List.mem_cons_of_mem _ m)
theorem named_some {K : PySem.W.Frag} {H : Hp} {kvs : List (Key × V)} {ks : List Knot} {x : Str} (h : Named K H kvs ks) (nd : (ks.map (·.nm)).Nodup) : (valV kvs (.inr x)).isSome = decide (x ∈ ks.map (·.nm)) := by
  by_cases hx : x ∈ ks.map (·.nm)
  · obtain ⟨k, hk, rfl⟩ := List.mem_map.mp hx
    obtain ⟨a, e, _⟩ := named_get h nd k hk
    rw [e, decide_eq_true hx]; rfl
  · rw [named_none h hx, decide_eq_false hx]; rfl
theorem Z.All2.take {α β : Type} {R : α → β → Prop} {xs : List α} {ys : List β} (h : Z.All2 R xs ys) (n : Nat) : Z.All2 R (xs.take n) (ys.take n) := by
  refine ⟨by rw [List.length_take, List.length_take, h.1], fun i x y a b => ?_⟩
  rw [List.getElem?_take] at a b
  by_cases l : i < n
  · rw [if_pos l] at a b; exact h.2 i x y a b
  · rw [if_neg l] at a; cases a
theorem nodup_at {α : Type} {xs : List α} {i : Nat} {x : α} (nd : xs.Nodup) (h : xs[i]? = some x) : x ∉ xs.take i := by
  intro hm
  obtain ⟨j, hj⟩ := List.getElem?_of_mem hm
  rw [List.getElem?_take] at hj
  by_cases l : j < i
  · rw [if_pos l] at hj
    obtain ⟨li, ei⟩ := List.getElem?_eq_some_iff.mp h
    obtain ⟨lj, ej⟩ := List.getElem?_eq_some_iff.mp hj
    exact absurd ((List.getElem_inj nd).mp (ei.trans ej.symm)) (by omega)
  · rw [if_neg l] at hj; cases hj

def sp_named_nodes (K : PySem.W.Frag) : Sp := fun vz H Q Ex => ∃ (p : Addr) (vs : List V) (ks : List Knot), vz = [.ref p] ∧ (H p = some (.tup vs)) ∧ (Pairs K H vs ks) ∧ ((ks.map (·.nm)).Nodup) ∧ (∀ k ∈ ks, isNm k.nm) ∧ (ks.length ≤ 24) ∧ (∀ d kvs H', H d = none → Same H H' → H' d = some (.dK kvs) → Named K H' kvs ks → Q (.ref d) H')
theorem c_named_nodes {K : PySem.W.Frag} {H : Hp} {Q : VK} {Ex : XK} {p : Addr} {vs : List V} {ks : List Knot} (h1 : H p = some (.tup vs)) (h2 : Pairs K H vs ks) (h3 : (ks.map (·.nm)).Nodup) (h4 : ∀ k ∈ ks, isNm k.nm) (h5 : ks.length ≤ 24) (k : ∀ d kvs H', H d = none → Same H H' → H' d = some (.dK kvs) → Named K H' kvs ks → Q (.ref d) H') : sp_named_nodes K [.ref p] H Q Ex := ⟨p, vs, ks, rfl, h1, h2, h3, h4, h5, k⟩
theorem ok_named_nodes {g : Prop} {P : Program} {w : World} {K : PySem.W.Frag} {mg : Str → Option Value} {base : Heap} (E : Ev K mg) : Z.Pr g P w K mg base 2 (He.ga K "named_nodes") d_named_nodes p_named_nodes (sp_named_nodes K) := by
  obtain ⟨fd, FD⟩ := E.fn 54 (d := d_named_nodes)
  refine ⟨fd, FD, Z.FunD.okG FD sc_named_nodes (fun vz H Q Ex h => ?_) (fun cdv A outer s H vz Q Ex hr hgd h => ?_)⟩
  · obtain ⟨_, _, _, rfl, _⟩ := h
    rfl
  · have hu := hr.units
    obtain ⟨p, vs, ks, rfl, h1, h2, h3, h4, h5, k⟩ := h
    have F_is_name := ok_is_name (g := g) (P := P) (w := w) (base := base) E
    refine ⟨_, (Z.zs_cons (Z.z_set (i := 1) sc_named_nodes.nd rfl (Or.inl rfl) pe_dnewK)
   (Z.zs_cons (Z.z_for (passes_of rfl) rfl (Z.pi_seqK K rfl (pv 0)) (pg_tup (n := 2) (by rfl) (pgs_cons (pg_name (i := 2) sc_named_nodes.nd rfl (Or.inl rfl)) (pgs_cons (pg_name (i := 3) sc_named_nodes.nd rfl (Or.inl rfl)) pgs_nil)))
   (Z.zs_cons (Z.z_if (pt_not (pt_val (Z.pe_f F_is_name (hr.mono (by decide)) hgd (by rfl) (E.glo 58) bd_is_name (passL) (pa_cons (pv 2) pa_nil)))) (Z.zs_one Z.z_never) Z.zs_nil)
   (Z.zs_cons (Z.z_if (pt_cmp (pc_din (Z.hu1 hu) (pv 2) (pv 1))) (Z.zs_one Z.z_never) Z.zs_nil)
   (Z.zs_cons (Z.z_if (pt_not (pt_val (pe_callB (Z.cisiK K rfl) (by rfl) (E.free 39) (by decide +kernel) (pa_cons (pv 3) (pa_cons (pe_glob (v := .ref (He.ga K "Node")) rfl (E.glo 52) rfl) pa_nil))))) (Z.zs_one Z.z_never) Z.zs_nil)
   (Z.zs_one (Z.z_asg (pv 3) (pg_sub (pv 1) (pv 2) (set_dict (Z.hu1 hu)))))))))
   (Z.zs_one (Z.z_ret (pv 1))))), ?_⟩
    refine Z.i_start (σ := [some (.ref p), none, none, none]) rfl ?_
    try dsimp only [Z.cxK]
    k_call_by "za" 0
    rename_i d H1 n1
    refine Z.loop_tup (xs := vs) (fun i σ H' => (∃ x2 x3, σ = [some (.ref p), some (.ref d), x2, x3]) ∧ ∃ kvs, H' d = some (.dK kvs) ∧ Named K H' kvs (ks.take i) ∧ Z.But d H1 H') ?_ ?_ ?_ ?_
    · exact ⟨⟨_, _, rfl⟩, [], n1.at, .nil, .refl⟩
    · rintro i σ H2 hi ⟨_, kvs, _, _, b2⟩
      exact SqT.of (b2.get (n1.ne h1) (n1.get h1))
    · rintro i x σ H2 hx ⟨⟨x2, x3, rfl⟩, kvs, hd, nm, b2⟩
      obtain ⟨k, hk, r, a, rfl, hr, hnd⟩ := h2.get hx
      have s2 : Same H H2 := Z.Same.thenBut n1.same b2 n1.fr
      have hr2 := s2 _ _ hr
      have hnd2 := hnd.kept (.of s2)
      have km := List.mem_of_getElem? hk
      have li := (List.getElem?_eq_some_iff.mp hk).1
      refine Z.i_tupT hr2 rfl ?_
      k_call_by "za" 0
      refine W_is_name (by have := (h4 k km).1.2; omega) fun H3 s3 => ?_
      rw [(h4 k km).b]
      k_call_by "za" 0
      have hd3 := s3 _ _ hd
      have nin : k.nm ∉ (ks.take i).map (·.nm) := by
        rw [List.map_take]
        exact nodup_at h3 (by rw [List.getElem?_map, hk]; rfl)
      have hno := named_none nm nin
      rw [hno]
      refine Z.ifF rfl ?_
      k_call_by "za" 0
      refine m_isnode E (hnd2.kept (.of s3)) ?_
      k_call_by "za" 0
      have lk : kvs.length = (ks.take i).length := nm.len
      refine Z.i_setD hd3 (by rw [lk, List.length_take, sizeLine_eq]; omega) fun H4 u4 => ?_
      k_call_by "za" 0
      rw [putK_new _ hno] at u4
      have kp : Kept H3 H4 := .upD u4 hd3
      refine ⟨⟨_, _, rfl⟩, _, u4.at, ?_, (b2.same s3).up u4⟩
      rw [take_snoc hk]
      exact (named_kept nm ((Kept.of s3).trans kp)).snoc ⟨a, rfl, hnd2.kept ((Kept.of s3).trans kp)⟩
    · rintro σ H2 ⟨⟨x2, x3, rfl⟩, kvs, hd, nm, b2⟩
      k_call_by "za" 0
      rw [h2.len, List.take_length] at nm
      exact k d kvs H2 n1.fr (Z.Same.thenBut n1.same b2 n1.fr) hd nm
def sp_want_known (K : PySem.W.Frag) : Sp := fun vz H Q Ex => ∃ (d : Addr) (kvs : List (Key × V)) (nm : Str), vz = [.ref d, .str nm] ∧ (H d = some (.dK kvs)) ∧ ((valV kvs (.inr nm)).isSome = true) ∧ (isNm nm) ∧ (∀ H', Same H H' → Q .non H')
theorem c_want_known {K : PySem.W.Frag} {H : Hp} {Q : VK} {Ex : XK} {d : Addr} {kvs : List (Key × V)} {nm : Str} (h1 : H d = some (.dK kvs)) (h2 : (valV kvs (.inr nm)).isSome = true) (h3 : isNm nm) (k : ∀ H', Same H H' → Q .non H') : sp_want_known K [.ref d, .str nm] H Q Ex := ⟨d, kvs, nm, rfl, h1, h2, h3, k⟩
theorem ok_want_known {g : Prop} {P : Program} {w : World} {K : PySem.W.Frag} {mg : Str → Option Value} {base : Heap} (E : Ev K mg) : Z.Pr g P w K mg base 2 (He.ga K "want_known") d_want_known p_want_known (sp_want_known K) := by
  obtain ⟨fd, FD⟩ := E.fn 55 (d := d_want_known)
  refine ⟨fd, FD, Z.FunD.okG FD sc_want_known (fun vz H Q Ex h => ?_) (fun cdv A outer s H vz Q Ex hr hgd h => ?_)⟩
  · obtain ⟨_, _, _, rfl, _⟩ := h
    rfl
  · have hu := hr.units
    obtain ⟨d, kvs, nm, rfl, h1, h2, h3, k⟩ := h
    have F_is_name := ok_is_name (g := g) (P := P) (w := w) (base := base) E
    refine ⟨_, (Z.zs_one (Z.z_if (PW.pt (pw_or (pt_not (pt_val (Z.pe_f F_is_name (hr.mono (by decide)) hgd (by rfl) (E.glo 58) bd_is_name (passL) (pa_cons (pv 1) pa_nil)))) (pw_or1 (pt_cmp (pc_dnotin (Z.hu1 hu) (pv 1) (pv 0)))))) (Z.zs_one Z.z_never) Z.zs_nil)), ?_⟩
    refine Z.i_start (σ := [some (.ref d), some (.str nm)]) rfl ?_
    try dsimp only [Z.cxK]
    k_call_by "za" 0
    refine W_is_name (by have := h3.1.2; omega) fun H1 s1 => ?_
    rw [h3.b]
    k_call_by "za" 0
    rw [h2]
    refine Z.ifF rfl ?_
    k_call_by "za" 0
    exact k H1 s1
theorem W_want_known {K : PySem.W.Frag} {H : Hp} {Q : VK} {Ex : XK} {d : Addr} {kvs : List (Key × V)} {nm : Str} (h1 : H d = some (.dK kvs)) (h2 : (valV kvs (.inr nm)).isSome = true) (h3 : isNm nm) (k : ∀ H', Same H H' → Q .non H') : sp_want_known K [.ref d, .str nm] H Q Ex := c_want_known h1 h2 h3 k
def sp_is_whole_weaves (K : PySem.W.Frag) : Sp := fun vz H Q Ex => ∃ (i m : Int), vz = [.int i, .int m] ∧ (0 ≤ i) ∧ (i ≤ m) ∧ (Q (.bl true) H)
theorem c_is_whole_weaves {K : PySem.W.Frag} {H : Hp} {Q : VK} {Ex : XK} {i m : Int} (h1 : 0 ≤ i) (h2 : i ≤ m) (k : Q (.bl true) H) : sp_is_whole_weaves K [.int i, .int m] H Q Ex := ⟨i, m, rfl, h1, h2, k⟩
theorem ok_is_whole_weaves {g : Prop} {P : Program} {w : World} {K : PySem.W.Frag} {mg : Str → Option Value} {base : Heap} (E : Ev K mg) : Z.Pr g P w K mg base 1 (He.ga K "is_whole_weaves") d_is_whole_weaves p_is_whole_weaves (sp_is_whole_weaves K) := by
  obtain ⟨fd, FD⟩ := E.fn 56 (d := d_is_whole_weaves)
  refine ⟨fd, FD, Z.FunD.okG FD sc_is_whole_weaves (fun vz H Q Ex h => ?_) (fun cdv A outer s H vz Q Ex hr hgd h => ?_)⟩
  · obtain ⟨_, _, rfl, _⟩ := h
    rfl
  · have hu := hr.units
    obtain ⟨i, m, rfl, h1, h2, k⟩ := h
    refine ⟨_, (Z.zs_one (Z.z_ret (pe_and (pe_callB (Z.cisiK K rfl) (by rfl) (E.free 39) (by decide +kernel) (pa_cons (pv 0) (pa_cons (pe_bltn (v := .ty "int") (u := .type "int") (by rfl) (E.free 43) (by decide +kernel) rfl) pa_nil))) (pe_and (pe_not (pe_callB (Z.cisiK K rfl) (by rfl) (E.free 39) (by decide +kernel) (pa_cons (pv 0) (pa_cons (pe_bltn (v := .ty "bool") (u := .type "bool") (by rfl) (E.free 42) (by decide +kernel) rfl) pa_nil)))) (pe_one (pe_chain op_le op_le pe_int (pv 0) (pv 1))))))), ?_⟩
    refine Z.i_start (σ := [some (.int i), some (.int m)]) rfl ?_
    try dsimp only [Z.cxK]
    k_call_by "za" 0
    refine Z.itT h1 ?_
    k_call_by "za" 0
    rw [decide_eq_true h2]
    exact k

theorem ats_dp {K : PySem.W.Frag} {H : Hp} : ∀ {vs : List V} {ps : List (Str × Nat)}, Z.All2 (fun v (q : Str × Nat) => ∃ r, v = .ref r ∧ H r = some (.tup [.str q.1, .int (q.2 : Nat)])) vs ps → DpAll K H vs (ps.map fun q => .tuple [.str q.1, .int (q.2 : Nat)])
  | _, [], h => by rw [h.nil_of]; exact .nil
  | _, q :: ps, h => by
    obtain ⟨x, xs, rfl, ⟨r, rfl, hr⟩, h'⟩ := h.cons_of
    exact .cons (Z.dp_tup hr (.cons (.str _) (.cons (.int _) .nil))) (ats_dp h')
theorem eqv_at (p q : Str × Nat) : PyData.eqv (.tuple [.str p.1, .int (p.2 : Nat)]) (.tuple [.str q.1, .int (q.2 : Nat)]) = decide (q = p) := by
  obtain ⟨p1, p2⟩ := p
  obtain ⟨q1, q2⟩ := q
  simp only [PyData.eqv, PyData.eqvAll, Bool.and_true]
  by_cases h1 : p1 = q1
  · subst h1
    by_cases h2 : p2 = q2
    · subst h2; simp
    · have h3 : ¬ ((p2 : Int) = (q2 : Int)) := by omega
      simp [h2, h3, Ne.symm h2]
  · simp [h1, Ne.symm h1]
theorem ats_any (q : Str × Nat) : ∀ ps : List (Str × Nat), ((ps.map fun q => PyData.tuple [.str q.1, .int (q.2 : Nat)]).any fun z => PyData.eqv z (.tuple [.str q.1, .int (q.2 : Nat)])) = decide (q ∈ ps)
  | [] => rfl
  | p :: ps => by
    rw [List.map_cons, List.any_cons, ats_any q ps]
    have e := eqv_at p q
    rw [e]
    by_cases h1 : q = p <;> by_cases h2 : q ∈ ps <;> simp [h1, h2]
theorem nm_ok {a : Str} (h : isNm a) : PyData.strOk a = true := by
  unfold PyData.strOk
  rw [← Array.all_toList, List.all_eq_true]
  intro c hc
  have := h.2 c hc
  exact decide_eq_true (by omega)
theorem shaped_at {a : Str} (h : isNm a) (i : Int) : SeqAt.shaped (.tuple [.str a, .int i]) = true := by
  unfold SeqAt.shaped
  rw [Bool.and_eq_true, decide_eq_true_eq]
  refine ⟨?_, by simp only [PyData.depth, PyData.depthAll]; omega⟩
  simp only [PyData.canLay0, PyData.canLayAll0, nm_ok h, Bool.and_self]
theorem shaped_ats {ps : List (Str × Nat)} (h : ∀ q ∈ ps, isNm q.1) : SeqAt.shaped (.list (ps.map fun q => .tuple [.str q.1, .int (q.2 : Nat)])) = true := by
  unfold SeqAt.shaped
  rw [Bool.and_eq_true, decide_eq_true_eq]
  have key : PyData.canLayAll0 (ps.map fun q => .tuple [.str q.1, .int (q.2 : Nat)]) = true ∧ PyData.depthAll (ps.map fun q => .tuple [.str q.1, .int (q.2 : Nat)]) ≤ 1 := by
    induction ps with
    | nil => simp [PyData.canLayAll0, PyData.depthAll]
    | cons q ps ih =>
      have := ih fun q hq => h q (List.mem_cons_of_mem _ hq)
      simp only [List.map_cons, PyData.canLayAll0, PyData.canLay0, PyData.depthAll, PyData.depth, nm_ok (h q List.mem_cons_self), Bool.and_self, Bool.true_and]
      exact ⟨this.1, by omega⟩
  exact ⟨by simp only [PyData.canLay0]; exact key.1, by simp only [PyData.depth]; omega⟩
theorem Valid.gnm {ks : List Knot} {ws : List Wire} (h : Valid ks ws) {w : Wire} (m : w ∈ ws) : isNm w.g := by
  obtain ⟨k, hk, e, _⟩ := h.gol w m
  rw [← e]; exact h.nm k hk
theorem Valid.snm {ks : List Knot} {ws : List Wire} (h : Valid ks ws) {w : Wire} (m : w ∈ ws) : isNm w.s := by
  obtain ⟨k, hk, e, _⟩ := h.src w m
  rw [← e]; exact h.nm k hk

def sp_want_wire (K : PySem.W.Frag) : Sp := fun vz H Q Ex => ∃ (d r : Addr) (kvs : List (Key × V)) (ks : List Knot) (us : List V) (ws : List Wire) (i : Nat), vz = [.ref d, .ref r, .int (i : Nat)] ∧ (H d = some (.dK kvs)) ∧ (Named K H kvs ks) ∧ (H r = some (.tup us)) ∧ (Wires H us ws) ∧ (Valid ks ws) ∧ (i < ws.length) ∧ (∀ H', Same H H' → Q .non H')
theorem c_want_wire {K : PySem.W.Frag} {H : Hp} {Q : VK} {Ex : XK} {d r : Addr} {kvs : List (Key × V)} {ks : List Knot} {us : List V} {ws : List Wire} {i : Nat} (h1 : H d = some (.dK kvs)) (h2 : Named K H kvs ks) (h3 : H r = some (.tup us)) (h4 : Wires H us ws) (h5 : Valid ks ws) (h6 : i < ws.length) (k : ∀ H', Same H H' → Q .non H') : sp_want_wire K [.ref d, .ref r, .int (i : Nat)] H Q Ex := ⟨d, r, kvs, ks, us, ws, i, rfl, h1, h2, h3, h4, h5, h6, k⟩
theorem ok_want_wire {g : Prop} {P : Program} {w : World} {K : PySem.W.Frag} {mg : Str → Option Value} {base : Heap} (E : Ev K mg) : Z.Pr g P w K mg base 3 (He.ga K "want_wire") d_want_wire p_want_wire (sp_want_wire K) := by
  obtain ⟨fd, FD⟩ := E.fn 57 (d := d_want_wire)
  refine ⟨fd, FD, Z.FunD.okG FD sc_want_wire (fun vz H Q Ex h => ?_) (fun cdv A outer s H vz Q Ex hr hgd h => ?_)⟩
  · obtain ⟨_, _, _, _, _, _, _, rfl, _⟩ := h
    rfl
  · have hu := hr.units
    obtain ⟨d, r, kvs, ks, us, ws, i, rfl, h1, h2, h3, h4, h5, h6, k⟩ := h
    have F_Choose_takes := ok_Choose_takes (g := g) (P := P) (w := w) (base := base) E
    have F_Down_takes := ok_Down_takes (g := g) (P := P) (w := w) (base := base) E
    have F_Inlet_takes := ok_Inlet_takes (g := g) (P := P) (w := w) (base := base) E
    have F_Mix_takes := ok_Mix_takes (g := g) (P := P) (w := w) (base := base) E
    have F_Node_takes := ok_Node_takes (g := g) (P := P) (w := w) (base := base) E
    have F_Own_takes := ok_Own_takes (g := g) (P := P) (w := w) (base := base) E
    have F_Resample_takes := ok_Resample_takes (g := g) (P := P) (w := w) (base := base) E
    have F_Times_takes := ok_Times_takes (g := g) (P := P) (w := w) (base := base) E
    have F_is_whole_weaves := ok_is_whole_weaves (g := g) (P := P) (w := w) (base := base) E
    have F_want_known := ok_want_known (g := g) (P := P) (w := w) (base := base) E
    refine ⟨_, (Z.zs_cons (Z.z_asg (pe_ix (Z.ixUK K rfl) (pv 1) (pv 2) (fun _ _ => rfl)) (pg_tup (n := 4) (by rfl) (pgs_cons (pg_name (i := 3) sc_want_wire.nd rfl (Or.inl rfl)) (pgs_cons (pg_name (i := 4) sc_want_wire.nd rfl (Or.inl rfl)) (pgs_cons (pg_name (i := 5) sc_want_wire.nd rfl (Or.inl rfl)) (pgs_cons (pg_name (i := 6) sc_want_wire.nd rfl (Or.inl rfl)) pgs_nil))))))
   (Z.zs_cons (Z.z_expr (Z.pe_f F_want_known (hr.mono (by decide)) hgd (by rfl) (E.glo 62) bd_want_known (passL) (pa_cons (pv 0) (pa_cons (pv 3) pa_nil))))
   (Z.zs_cons (Z.z_expr (Z.pe_f F_want_known (hr.mono (by decide)) hgd (by rfl) (E.glo 62) bd_want_known (passL) (pa_cons (pv 0) (pa_cons (pv 4) pa_nil))))
   (Z.zs_cons (Z.z_if (PW.pt (pw_or (pt_val (pe_callB (Z.cisiK K rfl) (by rfl) (E.free 39) (by decide +kernel) (pa_cons (pe_dget (Z.hu1 hu) (pv 0) (pv 3) (fun _ _ => rfl)) (pa_cons (pe_glob (v := .ref (He.ga K "Outlet")) rfl (E.glo 61) rfl) pa_nil)))) (pw_or1 (pt_not (pt_val (Z.pe_f F_is_whole_weaves (hr.mono (by decide)) hgd (by rfl) (E.glo 59) bd_is_whole_weaves (passL) (pa_cons (pv 5) (pa_cons (pe_op op_sub (pe_callB (Z.clenK K rfl) (by rfl) (E.free 32) (by decide +kernel) (pa_cons (Z.pe_M0K K rfl (Z.ms_cons (Z.mt_of (E.cls 0) (Z.fxM_ok (E.own 83)) F_Inlet_takes bd_Inlet_takes (hr.mono (by decide)) hgd) (Z.ms_cons (Z.mt_of (E.cls 1) (Z.fxM_ok (E.own 82)) F_Node_takes bd_Node_takes (hr.mono (by decide)) hgd) (Z.ms_cons (Z.mt_of (E.cls 2) (Z.fxM_ok (E.own 81)) F_Node_takes bd_Node_takes (hr.mono (by decide)) hgd) (Z.ms_cons (Z.mt_of (E.cls 3) (Z.fxM_ok (E.own 80)) F_Mix_takes bd_Mix_takes (hr.mono (by decide)) hgd) (Z.ms_cons (Z.mt_of (E.cls 4) (Z.fxM_ok (E.own 79)) F_Times_takes bd_Times_takes (hr.mono (by decide)) hgd) (Z.ms_cons (Z.mt_of (E.cls 5) (Z.fxM_ok (E.own 78)) F_Choose_takes bd_Choose_takes (hr.mono (by decide)) hgd) (Z.ms_cons (Z.mt_of (E.cls 6) (Z.fxM_ok (E.own 77)) F_Own_takes bd_Own_takes (hr.mono (by decide)) hgd) (Z.ms_cons (Z.mt_of (E.cls 7) (Z.fxM_ok (E.own 76)) F_Node_takes bd_Node_takes (hr.mono (by decide)) hgd) (Z.ms_cons (Z.mt_of (E.cls 8) (Z.fxM_ok (E.own 75)) F_Down_takes bd_Down_takes (hr.mono (by decide)) hgd) (Z.ms_cons (Z.mt_of (E.cls 9) (Z.fxM_ok (E.own 74)) F_Resample_takes bd_Resample_takes (hr.mono (by decide)) hgd) Z.ms_nil)))))))))) (passL) (pe_dget (Z.hu1 hu) (pv 0) (pv 4) (fun _ _ => rfl))) pa_nil)) pe_int) pa_nil)))))))) (Z.zs_one Z.z_never) Z.zs_nil)
   (Z.zs_cons (Z.z_if (pt_not (pt_val (Z.pe_f F_is_whole_weaves (hr.mono (by decide)) hgd (by rfl) (E.glo 59) bd_is_whole_weaves (passL) (pa_cons (pv 6) (pa_cons (Z.pe_gint rfl (E.int 60)) pa_nil))))) (Z.zs_one Z.z_never) Z.zs_nil)
   (Z.zs_one (Z.z_if (pt_cmpR (Z.opIn K rfl hr) (pe_tup (pa_cons (pv 4) (pa_cons (pv 5) pa_nil))) (pe_lc (own := [("row", 7)]) (g := gName 7) rfl sc_want_wire.nd (Z.pi_seqK K rfl (pe_slice (Z.slUK K rfl) (pv 1) po_none (po_some (pv 2)))) (blkOk_by (own := [("row", 7)]) (N := n_want_wire) (sc := (defScope s_want_wire)) (by decide +kernel)) (fun _ _ _ _ _ => (pg_name (i := 7) sc_want_wire.nd rfl (Or.inl rfl))) (fun _ _ _ _ _ => pts_nil) (fun _ _ _ _ _ => (pe_slice (Z.slUK K rfl) (pv 7) (po_some pe_int) (po_some pe_int)))) rfl) (Z.zs_one Z.z_never) Z.zs_nil))))))), ?_⟩
    refine Z.i_start (σ := [some (.ref d), some (.ref r), some (.int (i : Nat)), none, none, none, none, none]) rfl ?_
    try dsimp only [Z.cxK]
    obtain ⟨w, hw⟩ : ∃ w, ws[i]? = some w := ⟨_, List.getElem?_eq_getElem h6⟩
    obtain ⟨v, hv, t, rfl, ht⟩ := h4.get' hw
    have wm := List.mem_of_getElem? hw
    obtain ⟨k1, k1m, e1, o1⟩ := h5.src w wm
    obtain ⟨k2, k2m, e2, o2⟩ := h5.gol w wm
    obtain ⟨a1, ha1, n1⟩ := named_get h2 h5.nd k1 k1m
    obtain ⟨a2, ha2, n2⟩ := named_get h2 h5.nd k2 k2m
    rw [e1] at ha1
    rw [e2] at ha2
    have nm1 := h5.nm k1 k1m
    have nm2 := h5.nm k2 k2m
    rw [e1] at nm1
    rw [e2] at nm2
    have dl := h5.dly w wm
    have w2 := h5.wf k2 k2m
    k_call_by "za" 0
    refine Z.i_ixT h3 (atI_nat hv) ?_
    refine Z.i_tupT ht rfl ?_
    k_call_by "za" 0
    refine W_want_known h1 (by rw [ha1]; rfl) nm1 fun H1 s1 => ?_
    k_call_by "za" 0
    refine W_want_known (s1 _ _ h1) (by rw [ha2]; rfl) nm2 fun H2 s2 => ?_
    k_call_by "za" 0
    have d2 := s2 _ _ (s1 _ _ h1)
    have s12 := s1.trans s2
    refine m_isout E (n1.kept (.of s12)) ?_
    rw [o1]
    k_call_by "za" 0
    refine m_takes (n2.kept (.of s12)) w2 fun t3 H3 s3 e3 => ?_
    k_call_by "za" 0
    rw [tk_len]
    refine c_is_whole_weaves (by omega) (by omega) ?_
    k_call_by "za" 0
    refine c_is_whole_weaves dl.1 dl.2 ?_
    k_call_by "za" 0
    rename_i t4 H4 n4
    have s04 : Same H H4 := (s12.trans s3).trans n4.same
    refine Z.i_slT (s04 _ _ h3) (by have := h4.len; omega) fun t5 H5 s5 e5 => ?_
    k_call_by "za" 0
    refine Z.comp_tup (xs := us.take i) (fun j acc H' => Z.All2 (fun v (q : Str × Nat) => ∃ r, v = .ref r ∧ H' r = some (.tup [.str q.1, .int (q.2 : Nat)])) acc ((ws.map Wire.at).take j) ∧ Same H5 H') ?_ ?_ ?_ ?_
    · intro D H' n'
      exact ⟨.nil, n'.same⟩
    · rintro j acc H' hj ⟨_, s'⟩
      exact SqT.of (s' _ _ e5)
    · rintro D j acc x H6 fD hx hD ⟨al, s6⟩
      have hj : j < i := by
        have := (List.getElem?_eq_some_iff.mp hx).1
        rw [List.length_take] at this
        omega
      rw [List.getElem?_take, if_pos hj] at hx
      obtain ⟨w', hw', t', rfl, ht'⟩ := h4.get hx
      have ht6 := s6 _ _ (s5 _ _ (s04 _ _ ht'))
      k_call_by "za" 0
      refine Z.i_slT13 ht6 fun t7 H7 n7 => ?_
      have hD7 := n7.get hD
      refine Z.i_end hD7 (by rw [al.len, List.length_take, List.length_map, sizeLine_eq]; have := h5.wl; omega) fun H8 u8 => ⟨?_, by k_call_by "fr" 0⟩
      rw [take_snoc (xs := ws.map Wire.at) (x := w'.at) (by rw [List.getElem?_map, hw']; rfl)]
      refine (al.mono ?_).snoc ⟨t7, rfl, u8.get (Z.ne_tl n7.at hD7) n7.at⟩
      rintro v q ⟨r', rfl, hr'⟩
      exact ⟨r', rfl, u8.get (Z.ne_tl (n7.get hr') hD7) (n7.get hr')⟩
    · rintro D acc H6 fD hD ⟨al, s6⟩
      have hl : (us.take i).length = i := by rw [List.length_take]; have := h4.len; omega
      rw [hl] at al
      k_call_by "za" 0
      have nin : w.at ∉ (ws.map Wire.at).take i := nodup_at h5.uni (by rw [List.getElem?_map, hw]; rfl)
      refine Z.i_inDp (Z.dp_tup (s6 _ _ (s5 _ _ n4.at)) (.cons (.str _) (.cons (.int _) .nil))) (Z.dp_lst hD (ats_dp al)) (shaped_at nm2 _) (shaped_ats fun q hq => by
        obtain ⟨w', hw', rfl⟩ := List.mem_map.mp (List.mem_of_mem_take hq)
        exact h5.gnm hw') ?_
      rw [show w.g = w.at.1 from rfl, show w.p = w.at.2 from rfl, ats_any w.at, decide_eq_false nin]
      k_call_by "za" 0
      exact k H6 (s04.trans (s5.trans s6))

/-- a dict of lists of texts -/
abbrev Steps (H : Hp) (f : Str → List Str) := Z.All2 fun (kv : Key × V) (nm : Str) => ∃ q, kv = (.inr nm, .ref q) ∧ H q = some (.lst ((f nm).map V.str))
def onward (ws : List Wire) (nm : Str) : List Str := (ws.filter fun w => decide (w.s = nm)).map (·.g)
def backward (ws : List Wire) (nm : Str) : List Str := (ws.filter fun w => decide (w.g = nm)).map (·.s)
theorem steps_get {H : Hp} {f : Str → List Str} : ∀ {kvs : List (Key × V)} {ns : List Str}, Steps H f kvs ns → ∀ x ∈ ns, ∃ q, valV kvs (.inr x) = some (.ref q) ∧ H q = some (.lst ((f x).map V.str))
  | _, [], _, x, hx => by cases hx
  | kvs, n :: ns, h, x, hx => by
    obtain ⟨y, xs, rfl, ⟨q, rfl, hq⟩, h'⟩ := h.cons_of
    by_cases e : n = x
    · subst e; exact ⟨q, valV_pos rfl, hq⟩
    · rcases List.mem_cons.mp hx with rfl | hx
      · exact absurd rfl e
      obtain ⟨b, hb, hn'⟩ := steps_get h' x hx
      refine ⟨b, ?_, hn'⟩
      rw [valV_neg (fun z => e (Sum.inr.inj z))]
      exact hb
theorem steps_none {H : Hp} {f : Str → List Str} : ∀ {kvs : List (Key × V)} {ns : List Str} {x : Str}, Steps H f kvs ns → x ∉ ns → valV kvs (.inr x) = none
  | _, [], _, h, _ => by rw [h.nil_of]; rfl
  | kvs, n :: ns, x, h, m => by
    obtain ⟨y, xs, rfl, ⟨q, rfl, hq⟩, h'⟩ := h.cons_of
    rw [valV_neg (fun z => m (by rw [← Sum.inr.inj z]; exact List.mem_cons_self))]
    exact steps_none h' fun z => m (List.mem_cons_of_mem _ z)

def sp_steps_onward (K : PySem.W.Frag) : Sp := fun vz H Q Ex => ∃ (p r : Addr) (ns : List Str) (us : List V) (ws : List Wire), vz = [.ref p, .ref r] ∧ (H p = some (.lst (ns.map V.str))) ∧ (Z.Sq H r us) ∧ (Wires H us ws) ∧ (ns.Nodup) ∧ (ns.length ≤ 24) ∧ (ws.length ≤ 48) ∧ (∀ d kvs H', H d = none → Same H H' → H' d = some (.dK kvs) → Steps H' (onward ws) kvs ns → Q (.ref d) H')
theorem c_steps_onward {K : PySem.W.Frag} {H : Hp} {Q : VK} {Ex : XK} {p r : Addr} {ns : List Str} {us : List V} {ws : List Wire} (h1 : H p = some (.lst (ns.map V.str))) (h2 : Z.Sq H r us) (h3 : Wires H us ws) (h4 : ns.Nodup) (h5 : ns.length ≤ 24) (h6 : ws.length ≤ 48) (k : ∀ d kvs H', H d = none → Same H H' → H' d = some (.dK kvs) → Steps H' (onward ws) kvs ns → Q (.ref d) H') : sp_steps_onward K [.ref p, .ref r] H Q Ex := ⟨p, r, ns, us, ws, rfl, h1, h2, h3, h4, h5, h6, k⟩
theorem ok_steps_onward {g : Prop} {P : Program} {w : World} {K : PySem.W.Frag} {mg : Str → Option Value} {base : Heap} (E : Ev K mg) : Z.Pr g P w K mg base 1 (He.ga K "steps_onward") d_steps_onward p_steps_onward (sp_steps_onward K) := by
  obtain ⟨fd, FD⟩ := E.fn 58 (d := d_steps_onward)
  refine ⟨fd, FD, Z.FunD.okG FD sc_steps_onward (fun vz H Q Ex h => ?_) (fun cdv A outer s H vz Q Ex hr hgd h => ?_)⟩
  · obtain ⟨_, _, _, _, _, rfl, _⟩ := h
    rfl
  · have hu := hr.units
    obtain ⟨p, r, ns, us, ws, rfl, h1, h2, h3, h4, h5, h6, k⟩ := h
    refine ⟨_, (Z.zs_one (Z.z_ret (pe_dc (own := [("name", 2)]) (g := gName 2) rfl sc_steps_onward.nd (Z.pi_seqK K rfl (pv 0)) (blkOk_by (own := [("name", 2)]) (N := n_steps_onward) (sc := (defScope s_steps_onward)) (by decide +kernel)) (fun _ _ _ _ _ => (pg_name (i := 2) sc_steps_onward.nd rfl (Or.inr rfl))) (fun _ _ _ _ _ => pts_nil) (fun _ _ _ _ _ => (pv 2)) (fun _ _ _ _ _ => (pe_lc (own := [("row", 3)]) (g := gName 3) rfl sc_steps_onward.nd (Z.pi_seqK K rfl (pv 1)) (Z.blkOk_in (own := [("row", 3)]) (N := n_steps_onward) (by decide +kernel)) (fun _ _ _ _ _ => (pg_name (i := 3) sc_steps_onward.nd rfl (Or.inl rfl))) (fun _ _ _ _ _ => pts_one (pt_cmpR (Z.opEqK K rfl hu) (pe_ix (Z.ixUK K rfl) (pv 3) pe_int (fun _ _ => rfl)) (pv 2) (nomark _))) (fun _ _ _ _ _ => (pe_ix (Z.ixUK K rfl) (pv 3) pe_int (fun _ _ => rfl)))))))), ?_⟩
    refine Z.i_start (σ := [some (.ref p), some (.ref r), none, none]) rfl ?_
    try dsimp only [Z.cxK]
    rcases h2 with h2 | h2
    · k_call_by "za" 0
      refine Z.dcomp_list (xs := ns.map V.str) (fun D i acc H' => H D = none ∧ Steps H' (onward ws) acc (ns.take i) ∧ Z.But D H H') ?_ ?_ ?_ ?_
      · intro D H' n'
        exact ⟨n'.fr, .nil, .ofSame n'.same⟩
      · rintro D i acc H' hi ⟨f, _, b⟩
        exact SqL.of (Z.But.back b f _ _ h1)
      · rintro D i acc x H2 fD hx hD ⟨_, st, b2⟩
        obtain ⟨nm, hn, rfl⟩ := strs_at hx
        have s2 : Same H H2 := Z.But.back b2 fD
        k_call_by "za" 0
        refine Z.comp_list (xs := us) (fun j ac H' => ac = ((((ws.take j).filter fun w => decide (w.s = nm)).map (·.g)).map V.str) ∧ Same H2 H') ?_ ?_ ?_ ?_
        · intro D' H' n'
          exact ⟨rfl, n'.same⟩
        · rintro j ac H' hj ⟨_, s'⟩
          exact SqL.of (s' _ _ (s2 _ _ h2))
        · rintro D' j ac y H3 fD' hy hD' ⟨rfl, s3⟩
          obtain ⟨w, hw, t, rfl, ht⟩ := h3.get hy
          have ht3 := s3 _ _ (s2 _ _ ht)
          have lj : (ws.take (j + 1)) = ws.take j ++ [w] := take_snoc hw
          k_call_by "za" 0
          refine Z.ite2' (fun hz => ?_) (fun hz => ?_)
          · k_call_by "za" 0
            refine Z.i_end hD' (by
              rw [List.length_map, List.length_map, sizeLine_eq]
              refine Nat.lt_of_le_of_lt (List.length_filter_le _ _) ?_
              rw [List.length_take]; omega) fun H4 u4 => ⟨?_, by k_call_by "fr" 0⟩
            rw [lj, List.filter_append, List.map_append, List.map_append, List.filter_cons_of_pos (by simpa using hz)]; rfl
          · refine Z.i_skip hD' ⟨?_, s3⟩
            rw [lj, List.filter_append, List.filter_cons_of_neg (by simpa using hz)]; simp
        · rintro D' ac H3 fD' hD' ⟨rfl, s3⟩
          rw [h3.len, List.take_length] at hD'
          have hno : valV acc (.inr nm) = none := steps_none st (nodup_at h4 hn)
          have hD3 := s3 _ _ hD
          refine Z.i_dend hD3 (by rw [st.len, List.length_take, sizeLine_eq]; omega) fun H4 u4 => ?_
          rw [putK_new _ hno] at u4 ⊢
          rw [take_snoc hn]
          have nl : ∀ {q : Addr} {xs : List V}, H3 q = some (.lst xs) → q ≠ D := fun e z => by subst z; rw [hD3] at e; cases e
          refine ⟨fD, (st.mono ?_).snoc ⟨D', rfl, u4.get (nl hD') hD'⟩, (b2.same s3).up u4⟩
          rintro kv z ⟨q, rfl, hq⟩
          exact ⟨q, rfl, u4.get (nl (s3 _ _ hq)) (s3 _ _ hq)⟩
      · rintro D acc H2 fD hD ⟨_, st, b2⟩
        rw [List.length_map, List.take_length] at st
        exact k D acc H2 fD (Z.But.back b2 fD) hD st
    · k_call_by "za" 0
      refine Z.dcomp_list (xs := ns.map V.str) (fun D i acc H' => H D = none ∧ Steps H' (onward ws) acc (ns.take i) ∧ Z.But D H H') ?_ ?_ ?_ ?_
      · intro D H' n'
        exact ⟨n'.fr, .nil, .ofSame n'.same⟩
      · rintro D i acc H' hi ⟨f, _, b⟩
        exact SqL.of (Z.But.back b f _ _ h1)
      · rintro D i acc x H2 fD hx hD ⟨_, st, b2⟩
        obtain ⟨nm, hn, rfl⟩ := strs_at hx
        have s2 : Same H H2 := Z.But.back b2 fD
        k_call_by "za" 0
        refine Z.comp_tup (xs := us) (fun j ac H' => ac = ((((ws.take j).filter fun w => decide (w.s = nm)).map (·.g)).map V.str) ∧ Same H2 H') ?_ ?_ ?_ ?_
        · intro D' H' n'
          exact ⟨rfl, n'.same⟩
        · rintro j ac H' hj ⟨_, s'⟩
          exact SqT.of (s' _ _ (s2 _ _ h2))
        · rintro D' j ac y H3 fD' hy hD' ⟨rfl, s3⟩
          obtain ⟨w, hw, t, rfl, ht⟩ := h3.get hy
          have ht3 := s3 _ _ (s2 _ _ ht)
          have lj : (ws.take (j + 1)) = ws.take j ++ [w] := take_snoc hw
          k_call_by "za" 0
          refine Z.ite2' (fun hz => ?_) (fun hz => ?_)
          · k_call_by "za" 0
            refine Z.i_end hD' (by
              rw [List.length_map, List.length_map, sizeLine_eq]
              refine Nat.lt_of_le_of_lt (List.length_filter_le _ _) ?_
              rw [List.length_take]; omega) fun H4 u4 => ⟨?_, by k_call_by "fr" 0⟩
            rw [lj, List.filter_append, List.map_append, List.map_append, List.filter_cons_of_pos (by simpa using hz)]; rfl
          · refine Z.i_skip hD' ⟨?_, s3⟩
            rw [lj, List.filter_append, List.filter_cons_of_neg (by simpa using hz)]; simp
        · rintro D' ac H3 fD' hD' ⟨rfl, s3⟩
          rw [h3.len, List.take_length] at hD'
          have hno : valV acc (.inr nm) = none := steps_none st (nodup_at h4 hn)
          have hD3 := s3 _ _ hD
          refine Z.i_dend hD3 (by rw [st.len, List.length_take, sizeLine_eq]; omega) fun H4 u4 => ?_
          rw [putK_new _ hno] at u4 ⊢
          rw [take_snoc hn]
          have nl : ∀ {q : Addr} {xs : List V}, H3 q = some (.lst xs) → q ≠ D := fun e z => by subst z; rw [hD3] at e; cases e
          refine ⟨fD, (st.mono ?_).snoc ⟨D', rfl, u4.get (nl hD') hD'⟩, (b2.same s3).up u4⟩
          rintro kv z ⟨q, rfl, hq⟩
          exact ⟨q, rfl, u4.get (nl (s3 _ _ hq)) (s3 _ _ hq)⟩
      · rintro D acc H2 fD hD ⟨_, st, b2⟩
        rw [List.length_map, List.take_length] at st
        exact k D acc H2 fD (Z.But.back b2 fD) hD st

inductive Reach (f : Str → List Str) (xs : List Str) : Str → Prop where
  | base {x : Str} (h : x ∈ xs) : Reach f xs x
  | step {x y : Str} (h : Reach f xs x) (m : y ∈ f x) : Reach f xs y
theorem snoc_or {α : Type} (xs : List α) : xs = [] ∨ ∃ ys y, xs = ys ++ [y] := by
  rcases List.eq_nil_or_concat xs with h | ⟨ys, y, h⟩
  · exact .inl h
  · exact .inr ⟨ys, y, by rw [h, List.concat_eq_append]⟩
theorem sub_len {xs ys : List Str} (nd : xs.Nodup) (h : ∀ x ∈ xs, x ∈ ys) : xs.length ≤ ys.length := nodup_le nd h
theorem keys_some {zs : List Str} {kvs : List (Key × V)} (e : kvs.map (·.1) = zs.map Sum.inr) (x : Str) : (valV kvs (.inr x)).isSome = decide (x ∈ zs) := by
  rw [← valV_any]
  have : (kvs.any fun kv => decide (kv.1 = Sum.inr x)) = (kvs.map (·.1)).any fun k => decide (k = Sum.inr x) := by rw [List.any_map]; rfl
  rw [this, e, List.any_map]
  rw [Bool.eq_iff_iff, List.any_eq_true, decide_eq_true_eq]
  constructor
  · rintro ⟨z, hz, h⟩
    have h : (Sum.inr z : Key) = Sum.inr x := of_decide_eq_true h
    rw [← Sum.inr.inj h]; exact hz
  · intro h
    exact ⟨x, h, decide_eq_true rfl⟩

def sp_come_to (K : PySem.W.Frag) : Sp := fun vz H Q Ex => ∃ (d p : Addr) (kvs : List (Key × V)) (f : Str → List Str) (ns xs : List Str), vz = [.ref d, .ref p] ∧ (H d = some (.dK kvs)) ∧ (Steps H f kvs ns) ∧ (H p = some (.lst (xs.map V.str))) ∧ (∀ x ∈ xs, x ∈ ns) ∧ (∀ n ∈ ns, ∀ m ∈ f n, m ∈ ns) ∧ (∀ n, (f n).length ≤ 48) ∧ (ns.length ≤ 24) ∧ (xs.length ≤ 48) ∧ (∀ (r : Addr) (ys : List (Key × V)) (zs : List Str) (H' : Hp), H r = none → Same H H' → H' r = some (.dK ys) → ys.map (·.1) = zs.map Sum.inr → zs.Nodup → (∀ x ∈ xs, x ∈ zs) → (∀ z ∈ zs, ∀ y ∈ f z, y ∈ zs) → (∀ z ∈ zs, Reach f xs z) → Q (.ref r) H')
theorem c_come_to {K : PySem.W.Frag} {H : Hp} {Q : VK} {Ex : XK} {d p : Addr} {kvs : List (Key × V)} {f : Str → List Str} {ns xs : List Str} (h1 : H d = some (.dK kvs)) (h2 : Steps H f kvs ns) (h3 : H p = some (.lst (xs.map V.str))) (h4 : ∀ x ∈ xs, x ∈ ns) (h5 : ∀ n ∈ ns, ∀ m ∈ f n, m ∈ ns) (h6 : ∀ n, (f n).length ≤ 48) (h7 : ns.length ≤ 24) (h8 : xs.length ≤ 48) (k : ∀ (r : Addr) (ys : List (Key × V)) (zs : List Str) (H' : Hp), H r = none → Same H H' → H' r = some (.dK ys) → ys.map (·.1) = zs.map Sum.inr → zs.Nodup → (∀ x ∈ xs, x ∈ zs) → (∀ z ∈ zs, ∀ y ∈ f z, y ∈ zs) → (∀ z ∈ zs, Reach f xs z) → Q (.ref r) H') : sp_come_to K [.ref d, .ref p] H Q Ex := ⟨d, p, kvs, f, ns, xs, rfl, h1, h2, h3, h4, h5, h6, h7, h8, k⟩
theorem ok_come_to {g : Prop} {P : Program} {w : World} {K : PySem.W.Frag} {mg : Str → Option Value} {base : Heap} (E : Ev K mg) : Z.Pr g P w K mg base 1 (He.ga K "come_to") d_come_to p_come_to (sp_come_to K) := by
  obtain ⟨fd, FD⟩ := E.fn 59 (d := d_come_to)
  refine ⟨fd, FD, Z.FunD.okG FD sc_come_to (fun vz H Q Ex h => ?_) (fun cdv A outer s H vz Q Ex hr hgd h => ?_)⟩
  · obtain ⟨_, _, _, _, _, _, rfl, _⟩ := h
    rfl
  · have hu := hr.units
    obtain ⟨d, p, kvs, f, ns, xs, rfl, h1, h2, h3, h4, h5, h6, h7, h8, k⟩ := h
    refine ⟨_, (Z.zs_cons (Z.z_set (i := 2) sc_come_to.nd rfl (Or.inl rfl) pe_dnewK)
   (Z.zs_cons (Z.z_set (i := 3) sc_come_to.nd rfl (Or.inl rfl) (pe_callTy (Z.clistK K rfl) (by rfl) (E.free 35) (by decide +kernel) (pa_cons (pv 1) pa_nil)))
   (Z.zs_cons (Z.z_while (passes_of rfl) (pt_cmpR (Z.opNe0 K rfl hu) (pv 3) (pe_lst pa_nil) (nomark _))
   (Z.zs_cons (Z.z_set (i := 4) sc_come_to.nd rfl (Or.inl rfl) (pe_bm0 PySem.F.plainAttrs_list PySem.F.slot_list_pop PySem.F.type_list_pop mt_pop (pv 3)))
   (Z.zs_one (Z.z_if (pt_cmp (pc_dnotin (Z.hu1 hu) (pv 4) (pv 2))) (Z.zs_cons (Z.z_asg pe_bl (pg_sub (pv 2) (pv 4) (set_dict (Z.hu1 hu))))
   (Z.zs_one (Z.z_expr (pe_bm PySem.F.plainAttrs_list PySem.F.slot_list_extend PySem.F.type_list_extend mt_extend (pv 3) (pa_cons (pe_dget (Z.hu1 hu) (pv 0) (pv 4) (fun _ _ => rfl)) pa_nil))))) Z.zs_nil))))
   (Z.zs_one (Z.z_ret (pv 2)))))), ?_⟩
    refine Z.i_start (σ := [some (.ref d), some (.ref p), none, none, none]) rfl ?_
    try dsimp only [Z.cxK]
    k_call_by "za" 0
    rename_i r H1 n1 w H2 n2
    have fr : H r = none := n1.fr
    have fw : H w = none := fresh_of n1.same n2.fr
    have rw' : r ≠ w := n2.ne n1.at
    refine Z.i_while (fun σ H' => (∃ x4, σ = [some (.ref d), some (.ref p), some (.ref r), some (.ref w), x4]) ∧ ∃ zs ws : List Str, ∃ kv : List (Key × V), H' r = some (.dK kv) ∧ kv.map (·.1) = zs.map Sum.inr ∧ H' w = some (.lst (ws.map V.str)) ∧ zs.Nodup ∧ ws.length ≤ 48 + 48 * zs.length ∧
        (∀ z ∈ zs, z ∈ ns) ∧ (∀ z ∈ ws, z ∈ ns) ∧ (∀ x ∈ xs, x ∈ zs ∨ x ∈ ws) ∧ (∀ z ∈ zs, ∀ y ∈ f z, y ∈ zs ∨ y ∈ ws) ∧ (∀ z, z ∈ zs ∨ z ∈ ws → Reach f xs z) ∧ Same H H') (fun σ H' => match H' r, H' w with
      | some (.dK kv), some (.lst ws) => 49 * (24 - kv.length) + ws.length
      | _, _ => 0) ?_ ?_
    · exact ⟨⟨_, rfl⟩, [], xs, [], n2.get n1.at, rfl, n2.at, List.nodup_nil, by omega, (fun z hz => by cases hz), h4, fun x hx => .inr hx, (fun z hz => by cases hz), (fun z hz => hz.elim (fun m => by cases m) .base), by k_call_by "fr" 0⟩
    · rintro σ H3 ⟨⟨x4, rfl⟩, zs, ws, kv, hr, ek, hw, nz, lw, z1, z2, z3, z4, z5, s3⟩
      have lz : zs.length ≤ 24 := Nat.le_trans (nodup_le nz z1) h7
      have lk : kv.length = zs.length := by have := congrArg List.length ek; simpa using this
      have rw3 : r ≠ w := rw'
      k_call_by "za" 0
      rename_i e H4 n4
      rcases snoc_or ws with rfl | ⟨wi, here, rfl⟩
      · refine Z.ifF rfl ?_
        k_call_by "za" 0
        refine k r kv zs H4 fr (s3.trans n4.same) (n4.get hr) ek nz (fun x hx => (z3 x hx).elim id fun m => by cases m) (fun z hz y hy => (z4 z hz y hy).elim id fun m => by cases m) fun z hz => z5 z (.inl hz)
      · refine Z.ifT (by simp) ?_
        refine Z.i_body ?_
        k_call_by "za" 0
        have hw4 : H4 w = some (.lst (wi.map V.str ++ [.str here])) := by rw [n4.get hw, List.map_append]; rfl
        refine Z.i_pop hw4 fun H5 u5 => ?_
        have hr5 := u5.get rw3 (n4.get hr)
        have s5 : Same H H5 := Z.Same.up (s3.trans n4.same) u5 fw
        rw [List.length_append] at lw
        simp only [List.length_cons, List.length_nil] at lw
        k_call_by "za" 0
        rw [keys_some ek]
        have mh : here ∈ ns := z2 here (by simp)
        refine Z.iten' (fun hin => ?_) (fun hin => ?_)
        · k_call_by "za" 0
          rename_i H6 u6
          have hno : valV kv (.inr here) = none := by
            have := keys_some ek here
            rw [decide_eq_false hin] at this
            cases e : valV kv (.inr here) with
            | none => rfl
            | some v => rw [e] at this; cases this
          rw [putK_new _ hno] at u6
          have s6 : Same H H6 := Z.Same.up s5 u6 fr
          have hw6 := u6.get rw3.symm u5.at
          obtain ⟨q, hq, hl⟩ := steps_get h2 here mh
          refine Z.i_dgK (s6 _ _ h1) hq ?_
          k_call_by "za" 0
          refine Z.i_extend (q := q) hw6 (s6 _ _ hl) (by simp only [List.length_map, sizeLine_eq]; have := h6 here; omega) fun H7 u7 => ?_
          have hw7 : H7 w = some (.lst ((wi ++ f here).map V.str)) := by rw [u7.at, List.map_append]
          have hr7 := u7.get rw3 u6.at
          have nz' : (zs ++ [here]).Nodup := by
            rw [List.nodup_append]
            exact ⟨nz, by simp, fun a ha b hb e => hin (by rw [← List.mem_singleton.mp hb, ← e]; exact ha)⟩
          have lz' : (zs ++ [here]).length ≤ 24 := Nat.le_trans (nodup_le nz' (fun z hz => (List.mem_append.mp hz).elim (z1 z) fun m => by rw [List.mem_singleton.mp m]; exact mh)) h7
          rw [List.length_append] at lz'
          simp only [List.length_cons, List.length_nil] at lz'
          refine ⟨⟨⟨_, rfl⟩, zs ++ [here], wi ++ f here, _, hr7, by rw [List.map_append, List.map_append, ek]; rfl, hw7, nz', ?_, ?_, ?_, ?_, ?_, ?_, Z.Same.up s6 u7 fw⟩, ?_⟩
          · rw [List.length_append, List.length_append]
            have := h6 here
            simp only [List.length_cons, List.length_nil]
            omega
          · exact fun z hz => (List.mem_append.mp hz).elim (z1 z) fun m => by rw [List.mem_singleton.mp m]; exact mh
          · exact fun z hz => (List.mem_append.mp hz).elim (fun m => z2 z (List.mem_append.mpr (.inl m))) fun m => h5 here mh z m
          · intro x hx
            rcases z3 x hx with m | m
            · exact .inl (List.mem_append.mpr (.inl m))
            · rcases List.mem_append.mp m with m | m
              · exact .inr (List.mem_append.mpr (.inl m))
              · exact .inl (List.mem_append.mpr (.inr m))
          · intro z hz y hy
            rcases List.mem_append.mp hz with m | m
            · rcases z4 z m y hy with m | m
              · exact .inl (List.mem_append.mpr (.inl m))
              · rcases List.mem_append.mp m with m | m
                · exact .inr (List.mem_append.mpr (.inl m))
                · exact .inl (List.mem_append.mpr (.inr m))
            · rw [List.mem_singleton.mp m] at hy
              exact .inr (List.mem_append.mpr (.inr hy))
          · intro z hz
            have rh : Reach f xs here := z5 here (.inr (by simp))
            rcases hz with m | m
            · rcases List.mem_append.mp m with m | m
              · exact z5 z (.inl m)
              · rw [List.mem_singleton.mp m]; exact rh
            · rcases List.mem_append.mp m with m | m
              · exact z5 z (.inr (List.mem_append.mpr (.inl m)))
              · exact .step rh m
          · rw [hr7, hw7, hr, hw]
            simp only [List.length_append, List.length_map, List.length_cons, List.length_nil]
            have := h6 here
            omega
        · k_call_by "za" 0
          refine ⟨⟨⟨_, rfl⟩, zs, wi, kv, hr5, ek, u5.at, nz, by omega, z1, fun z hz => z2 z (List.mem_append.mpr (.inl hz)), ?_, ?_, ?_, s5⟩, ?_⟩
          · intro x hx
            rcases z3 x hx with m | m
            · exact .inl m
            · rcases List.mem_append.mp m with m | m
              · exact .inr m
              · exact .inl (by rw [List.mem_singleton.mp m]; exact hin)
          · intro z hz y hy
            rcases z4 z hz y hy with m | m
            · exact .inl m
            · rcases List.mem_append.mp m with m | m
              · exact .inr m
              · exact .inl (by rw [List.mem_singleton.mp m]; exact hin)
          · exact fun z hz => z5 z (hz.imp id fun m => List.mem_append.mpr (.inl m))
          · rw [hr5, u5.at, hr, hw]
            simp only [List.length_append, List.length_map, List.length_cons, List.length_nil]
            omega

def hits (ws : List Wire) (nm : Str) (p : Nat) : List Int := ((List.range ws.length).filter fun i => decide ((ws[i]?).map Wire.at = some (nm, p))).map fun i => ((i : Nat) : Int)
def into (ws : List Wire) (nm : Str) (n : Nat) : List Int := ((List.range n).map (hits ws nm)).flatten
abbrev Nums (H : Hp) (ws : List Wire) := Z.All2 fun (kv : Key × V) (k : Knot) => ∃ q, kv = (.inr k.nm, .ref q) ∧ H q = some (.lst ((into ws k.nm k.nd.takes.length).map V.int))
/-- the lists that are told of are none of the elder heap's -/
def NumsNew (H0 : Hp) (nbs : List (Key × V)) : Prop := ∀ kv ∈ nbs, ∀ q, kv.2 = V.ref q → H0 q = none
theorem keys_none {zs : List Str} {kvs : List (Key × V)} (e : kvs.map (·.1) = zs.map Sum.inr) {x : Str} (n : x ∉ zs) : valV kvs (.inr x) = none := by
  have := keys_some e x
  rw [decide_eq_false n] at this
  cases h : valV kvs (.inr x) with
  | none => rfl
  | some v => rw [h] at this; cases this
theorem nums_keys {H : Hp} {ws : List Wire} : ∀ {kvs : List (Key × V)} {ks : List Knot}, Nums H ws kvs ks → kvs.map (·.1) = (ks.map (·.nm)).map Sum.inr
  | _, [], h => by rw [h.nil_of]; rfl
  | kvs, k :: ks, h => by
    obtain ⟨y, xs, rfl, ⟨q, rfl, _⟩, h'⟩ := h.cons_of
    rw [List.map_cons, List.map_cons, List.map_cons, nums_keys h']
theorem Kept.butL2 {d e : Addr} {H H' : Hp} {x y : List (Key × V)} (b : Z.ButL [d, e] H H') (hd : H d = some (.dK x)) (he : H e = some (.dK y)) : Kept H H' := by
  refine ⟨fun r xs h => b r _ (fun m => ?_) h, fun r C dx fs h => b r _ (fun m => ?_) h⟩
  all_goals
    rcases List.mem_cons.mp m with rfl | m
    · rw [hd] at h; cases h
    · rw [List.mem_singleton.mp m] at h; rw [he] at h; cases h
theorem filt1 {α : Type} {p : α → Bool} {x : α} (h : p x = true) : [x].filter p = [x] := by simp [h]
theorem filt0 {α : Type} {p : α → Bool} {x : α} (h : p x = false) : [x].filter p = [] := by simp [h]
theorem hits_take (ws : List Wire) (nm : Str) (p i : Nat) : ((List.range (i + 1)).filter fun i => decide ((ws[i]?).map Wire.at = some (nm, p))) = ((List.range i).filter fun i => decide ((ws[i]?).map Wire.at = some (nm, p))) ++ (if (ws[i]?).map Wire.at = some (nm, p) then [i] else []) := by
  rw [List.range_succ, List.filter_append]
  congr 1
  by_cases h : (ws[i]?).map Wire.at = some (nm, p)
  · rw [if_pos h]; exact filt1 (decide_eq_true h)
  · rw [if_neg h]; exact filt0 (decide_eq_false h)
theorem hits_len (ws : List Wire) (nm : Str) (p : Nat) : (hits ws nm p).length ≤ ws.length := by
  unfold hits
  rw [List.length_map]
  refine Nat.le_trans (List.length_filter_le _ _) ?_
  rw [List.length_range]; exact Nat.le_refl _
theorem into_len (ws : List Wire) (nm : Str) : ∀ n, (into ws nm n).length ≤ n * ws.length
  | 0 => by simp [into]
  | n + 1 => by
    unfold into
    rw [List.range_succ, List.map_append, List.flatten_append, List.length_append]
    have := into_len ws nm n
    unfold into at this
    have h := hits_len ws nm n
    rw [Nat.succ_mul]
    simp only [List.map_cons, List.map_nil, List.flatten_cons, List.flatten_nil, List.append_nil]
    omega
theorem into_succ (ws : List Wire) (nm : Str) (n : Nat) : into ws nm (n + 1) = into ws nm n ++ hits ws nm n := by
  unfold into
  rw [List.range_succ, List.map_append, List.flatten_append]; simp
theorem hits_ne {ks : List Knot} {ws : List Wire} (h : Valid ks ws) {k : Knot} (hk : k ∈ ks) {p : Nat} (hp : p < k.nd.takes.length) : hits ws k.nm p ≠ [] := by
  obtain ⟨w, hw, e⟩ := h.all k hk p hp
  obtain ⟨i, hi⟩ := List.getElem?_of_mem hw
  intro z
  have : ((i : Nat) : Int) ∈ hits ws k.nm p := by
    unfold hits
    refine List.mem_map.mpr ⟨i, List.mem_filter.mpr ⟨List.mem_range.mpr (List.getElem?_eq_some_iff.mp hi).1, ?_⟩, rfl⟩
    rw [hi, Option.map_some, e, decide_eq_true rfl]
  rw [z] at this
  cases this

def sp_wires_into (K : PySem.W.Frag) : Sp := fun vz H Q Ex => ∃ (d r : Addr) (kvs : List (Key × V)) (ks : List Knot) (us : List V) (ws : List Wire), vz = [.ref d, .ref r] ∧ (H d = some (.dK kvs)) ∧ (Named K H kvs ks) ∧ (H r = some (.tup us)) ∧ (Wires H us ws) ∧ (Valid ks ws) ∧ (∀ e nbs H', H e = none → Same H H' → H' e = some (.dK nbs) → Nums H' ws nbs ks → NumsNew H nbs → Q (.ref e) H')
theorem c_wires_into {K : PySem.W.Frag} {H : Hp} {Q : VK} {Ex : XK} {d r : Addr} {kvs : List (Key × V)} {ks : List Knot} {us : List V} {ws : List Wire} (h1 : H d = some (.dK kvs)) (h2 : Named K H kvs ks) (h3 : H r = some (.tup us)) (h4 : Wires H us ws) (h5 : Valid ks ws) (k : ∀ e nbs H', H e = none → Same H H' → H' e = some (.dK nbs) → Nums H' ws nbs ks → NumsNew H nbs → Q (.ref e) H') : sp_wires_into K [.ref d, .ref r] H Q Ex := ⟨d, r, kvs, ks, us, ws, rfl, h1, h2, h3, h4, h5, k⟩
theorem ok_wires_into {g : Prop} {P : Program} {w : World} {K : PySem.W.Frag} {mg : Str → Option Value} {base : Heap} (E : Ev K mg) : Z.Pr g P w K mg base 2 (He.ga K "wires_into") d_wires_into p_wires_into (sp_wires_into K) := by
  obtain ⟨fd, FD⟩ := E.fn 60 (d := d_wires_into)
  refine ⟨fd, FD, Z.FunD.okG FD sc_wires_into (fun vz H Q Ex h => ?_) (fun cdv A outer s H vz Q Ex hr hgd h => ?_)⟩
  · obtain ⟨_, _, _, _, _, _, rfl, _⟩ := h
    rfl
  · have hu := hr.units
    obtain ⟨d, r, kvs, ks, us, ws, rfl, h1, h2, h3, h4, h5, k⟩ := h
    have F_Choose_takes := ok_Choose_takes (g := g) (P := P) (w := w) (base := base) E
    have F_Down_takes := ok_Down_takes (g := g) (P := P) (w := w) (base := base) E
    have F_Inlet_takes := ok_Inlet_takes (g := g) (P := P) (w := w) (base := base) E
    have F_Mix_takes := ok_Mix_takes (g := g) (P := P) (w := w) (base := base) E
    have F_Node_takes := ok_Node_takes (g := g) (P := P) (w := w) (base := base) E
    have F_Own_takes := ok_Own_takes (g := g) (P := P) (w := w) (base := base) E
    have F_Resample_takes := ok_Resample_takes (g := g) (P := P) (w := w) (base := base) E
    have F_Times_takes := ok_Times_takes (g := g) (P := P) (w := w) (base := base) E
    refine ⟨_, (Z.zs_cons (Z.z_set (i := 2) sc_wires_into.nd rfl (Or.inl rfl) pe_dnewK)
   (Z.zs_cons (Z.z_lock (Z.z_for (passes_of rfl) rfl (pi_items (pv 0)) (pg_tup (n := 2) (by rfl) (pgs_cons (pg_name (i := 3) sc_wires_into.nd rfl (Or.inr rfl)) (pgs_cons (pg_name (i := 4) sc_wires_into.nd rfl (Or.inl rfl)) pgs_nil)))
   (Z.zs_cons (Z.z_asg (pe_lst pa_nil) (pg_sub (pv 2) (pv 3) (set_dict (Z.hu1 hu))))
   (Z.zs_one (Z.z_for (passes_of rfl) rfl (pi_range1 (by rfl) (E.free 41) (pa_cons (pe_callB (Z.clenK K rfl) (by rfl) (E.free 32) (by decide +kernel) (pa_cons (Z.pe_M0K K rfl (Z.ms_cons (Z.mt_of (E.cls 0) (Z.fxM_ok (E.own 83)) F_Inlet_takes bd_Inlet_takes (hr.mono (by decide)) hgd) (Z.ms_cons (Z.mt_of (E.cls 1) (Z.fxM_ok (E.own 82)) F_Node_takes bd_Node_takes (hr.mono (by decide)) hgd) (Z.ms_cons (Z.mt_of (E.cls 2) (Z.fxM_ok (E.own 81)) F_Node_takes bd_Node_takes (hr.mono (by decide)) hgd) (Z.ms_cons (Z.mt_of (E.cls 3) (Z.fxM_ok (E.own 80)) F_Mix_takes bd_Mix_takes (hr.mono (by decide)) hgd) (Z.ms_cons (Z.mt_of (E.cls 4) (Z.fxM_ok (E.own 79)) F_Times_takes bd_Times_takes (hr.mono (by decide)) hgd) (Z.ms_cons (Z.mt_of (E.cls 5) (Z.fxM_ok (E.own 78)) F_Choose_takes bd_Choose_takes (hr.mono (by decide)) hgd) (Z.ms_cons (Z.mt_of (E.cls 6) (Z.fxM_ok (E.own 77)) F_Own_takes bd_Own_takes (hr.mono (by decide)) hgd) (Z.ms_cons (Z.mt_of (E.cls 7) (Z.fxM_ok (E.own 76)) F_Node_takes bd_Node_takes (hr.mono (by decide)) hgd) (Z.ms_cons (Z.mt_of (E.cls 8) (Z.fxM_ok (E.own 75)) F_Down_takes bd_Down_takes (hr.mono (by decide)) hgd) (Z.ms_cons (Z.mt_of (E.cls 9) (Z.fxM_ok (E.own 74)) F_Resample_takes bd_Resample_takes (hr.mono (by decide)) hgd) Z.ms_nil)))))))))) (passL) (pv 4)) pa_nil)) pa_nil)) (pg_name (i := 5) sc_wires_into.nd rfl (Or.inr rfl))
   (Z.zs_cons (Z.z_setLc (i := 6) (own := [("number", 7), ("row", 8)]) (g := gTup K 2 (gCons (gName 7) (gCons (gName 8) gNil))) rfl sc_wires_into.nd rfl rfl (sw_true rfl rfl rfl (by decide +kernel)) (Z.pi_enumAK K rfl (by rfl) (E.free 63) (pa_cons (pv 1) pa_nil)) (blkOk_by (own := [("number", 7), ("row", 8)]) (N := n_wires_into) (sc := (defScope s_wires_into)) (by decide +kernel)) (fun _ _ _ _ _ => (pg_tup (n := 2) (by rfl) (pgs_cons (pg_name (i := 7) sc_wires_into.nd rfl (Or.inl rfl)) (pgs_cons (pg_name (i := 8) sc_wires_into.nd rfl (Or.inl rfl)) pgs_nil)))) (fun _ _ _ _ _ => pts_one (pt_cmpR (Z.opEqK K rfl hu) (pe_slice (Z.slUK K rfl) (pv 8) (po_some pe_int) (po_some pe_int)) (pe_tup (pa_cons (pv 3) (pa_cons (pv 5) pa_nil))) (nomark _))) (fun _ _ _ _ _ => (pv 7)))
   (Z.zs_cons (Z.z_if (pt_cmpR (Z.opEq0 K rfl hu) (pv 6) (pe_lst pa_nil) (nomark _)) (Z.zs_one Z.z_never) Z.zs_nil)
   (Z.zs_one (Z.z_expr (pe_bm PySem.F.plainAttrs_list PySem.F.slot_list_extend PySem.F.type_list_extend mt_extend (pe_dget (Z.hu1 hu) (pv 2) (pv 3) (fun _ _ => rfl)) (pa_cons (pv 6) pa_nil)))))))))))
   (Z.zs_one (Z.z_ret (pv 2))))), ?_⟩
    refine Z.i_start (σ := [some (.ref d), some (.ref r), none, none, none, none, none, none, none]) rfl ?_
    try dsimp only [Z.cxK]
    k_call_by "za" 0
    rename_i e H1 n1
    have ed : d ≠ e := n1.ne h1
    refine Z.i_lock d (n1.get h1) fun od H2 u2 => ?_
    have he2 := u2.get ed.symm n1.at
    k_call_by "za" 0
    refine Z.loop_items (kvs := kvs) (fun i σ H' => (∃ x3 x4 x5 x6 x7 x8, σ = [some (.ref d), some (.ref r), some (.ref e), x3, x4, x5, x6, x7, x8]) ∧ ∃ nbs, H' e = some (.dK nbs) ∧ H' d = some (.frz od (.dK kvs)) ∧ Nums H' ws nbs (ks.take i) ∧ NumsNew H nbs ∧ Z.ButL [d, e] H1 H') ?_ ?_ ?_ ?_
    · exact ⟨⟨_, _, _, _, _, _, rfl⟩, [], he2, u2.at, .nil, (fun _ h => by cases h), .ofUp u2 (by simp)⟩
    · rintro i σ H' hi ⟨_, nbs, _, hd, _⟩
      exact hd
    · rintro i kk v T σ H3 H4 hx ⟨⟨x3, x4, x5, x6, x7, x8, rfl⟩, nbs, he, hd, nn, nw, b3⟩ n4
      obtain ⟨kn, hk, a, ek, hn⟩ := h2.get hx
      cases ek
      have km := List.mem_of_getElem? hk
      have li := (List.getElem?_eq_some_iff.mp hk).1
      have wk := h5.wf kn km
      have kp13 : Kept H1 H3 := .butL2 b3 (n1.get h1) n1.at
      have kp3 : Kept H H3 := (Kept.of n1.same).trans kp13
      k_call_by "za" 0
      dsimp only [kV]
      rename_i q0 H5 n5
      have s35 : Same H3 H5 := n4.same.trans n5.same
      have he5 := s35 _ _ he
      have hd5 := s35 _ _ hd
      have eq0 : e ≠ q0 := n5.ne (n4.get he)
      have dq0 : d ≠ q0 := n5.ne (n4.get hd)
      have nk : kn.nm ∉ (ks.take i).map (·.nm) := by
        rw [List.map_take]
        exact nodup_at h5.nd (by rw [List.getElem?_map, hk]; rfl)
      have hno := keys_none (nums_keys nn) nk
      refine Z.i_setD he5 (by rw [nn.len, List.length_take, sizeLine_eq]; have := h5.kl; omega) fun H6 u6 => ?_
      rw [putK_new _ hno] at u6
      have kp6 : Kept H3 H6 := (Kept.of s35).trans (.upD u6 he5)
      have hq6 := u6.get eq0.symm n5.at
      have hd6 := u6.get ed hd5
      k_call_by "za" 0
      refine m_takes (hn.kept (kp3.trans kp6)) wk fun t7 H7 s7 e7 => ?_
      have lt8 := takes_le wk
      k_call_by "za" 0
      rw [tk_len]
      refine Z.i_rng1N (by omega) ?_
      have hq7 := s7 _ _ hq6
      have kp7 : Kept H H7 := (kp3.trans kp6).trans (.of s7)
      have he7 := s7 _ _ u6.at
      refine Z.loop_range0 (fun j σ H' => (∃ x5 x6 x7 x8, σ = [some (.ref d), some (.ref r), some (.ref e), some (.str kn.nm), some (.ref a), x5, x6, x7, x8]) ∧ H' q0 = some (.lst ((into ws kn.nm j).map V.int)) ∧ Z.But q0 H7 H') ?_ ?_ ?_
      · exact ⟨⟨_, _, _, _, rfl⟩, hq7, .refl⟩
      · rintro j σ H8 hj ⟨⟨x5, x6, x7, x8, rfl⟩, hq8, b8⟩
        have kp8 : Kept H H8 := kp7.trans (.but b8 hq7)
        have r8 := kp8.t _ _ h3
        k_call_by "za" 0
        refine Z.comp_enumT (xs := us) (fun m acc H' => acc = ((((List.range m).filter fun i => decide ((ws[i]?).map Wire.at = some (kn.nm, j))).map fun i => ((i : Nat) : Int)).map V.int) ∧ Same H8 H') ?_ ?_ ?_ ?_
        · intro D H' n'
          exact ⟨rfl, n'.same⟩
        · rintro m acc H' hm ⟨_, s'⟩
          exact SqT.of (s' _ _ r8)
        · rintro D m acc x T' H9 H10 fD hxm hD ⟨rfl, s9⟩ n10
          obtain ⟨w, hw, t, rfl, ht⟩ := h4.get hxm
          have lm := (List.getElem?_eq_some_iff.mp hw).1
          have ht10 : H10 t = _ := n10.get (s9 _ _ (kp8.t _ _ ht))
          k_call_by "za" 0
          refine Z.i_slT13 ht10 fun t11 H11 n11 => ?_
          k_call_by "za" 0
          rename_i t12 H12 n12
          have hD12 : H12 D = _ := n12.get (n11.get (n10.get hD))
          refine Z.i_eqD (Z.dp_tup (n12.get n11.at) (.cons (.str _) (.cons (.int _) .nil))) (Z.dp_tup n12.at (.cons (.str _) (.cons (.int _) .nil))) (shaped_at (h5.gnm (List.mem_of_getElem? hw)) _) (shaped_at (h5.nm kn km) _) ?_
          rw [show PyData.eqv (.tuple [.str w.g, .int (w.p : Nat)]) (.tuple [.str kn.nm, .int (j : Nat)]) = decide ((kn.nm, j) = w.at) from eqv_at w.at (kn.nm, j)]
          k_call_by "za" 0
          have ht := hits_take ws kn.nm j m
          rw [hw, Option.map_some] at ht
          refine Z.ite2' (fun hz => ?_) (fun hz => ?_)
          · k_call_by "za" 0
            refine Z.i_end hD12 (by
              rw [List.length_map, List.length_map, sizeLine_eq]
              refine Nat.lt_of_le_of_lt (List.length_filter_le _ _) ?_
              rw [List.length_range]; have := h5.wl; omega) fun H13 u13 => ⟨?_, by k_call_by "fr" 0⟩
            rw [ht, if_pos (by rw [hz]), List.map_append, List.map_append]; rfl
          · refine Z.i_skip hD12 ⟨?_, by k_call_by "fr" 0⟩
            rw [ht, if_neg (fun z => hz (Option.some.inj z).symm), List.append_nil]
        · rintro D acc H9 fD hD ⟨rfl, s9⟩
          rw [h4.len] at hD
          have hD : H9 D = some (.lst ((hits ws kn.nm j).map V.int)) := hD
          k_call_by "za" 0
          rename_i t10 H10 n10
          have hD10 : H10 D = some (.lst ((hits ws kn.nm j).map V.int)) := n10.get hD
          have hne := hits_ne h5 km hj
          refine Z.ifF (by
            cases hh : hits ws kn.nm j with
            | nil => exact absurd hh hne
            | cons a b => rfl) ?_
          k_call_by "za" 0
          have he10 : H10 e = _ := n10.get (s9 _ _ (b8.get eq0 he7))
          have hq10 : H10 q0 = _ := n10.get (s9 _ _ hq8)
          refine Z.i_dgK he10 (v := .ref q0) (by rw [valV_snoc _ _ _ _ hno, if_pos rfl]) ?_
          k_call_by "za" 0
          refine Z.i_extend (q := D) hq10 hD10 (by
            rw [List.length_map, List.length_map, sizeLine_eq]
            have h1 := into_len ws kn.nm j
            have h2 := hits_len ws kn.nm j
            have h3 := h5.wl
            have : j * ws.length ≤ 8 * 48 := Nat.mul_le_mul (by omega) h3
            omega) fun H11 u11 => ?_
          refine ⟨⟨_, _, _, _, rfl⟩, ?_, ((b8.same s9).same n10.same).up u11⟩
          rw [u11.at, into_succ, List.map_append]
      · rintro σ H8 ⟨⟨x5, x6, x7, x8, rfl⟩, hq8, b8⟩
        refine ⟨⟨_, _, _, _, _, _, rfl⟩, _, b8.get eq0 he7, b8.get dq0 (s7 _ _ hd6), ?_, ?_, ?_⟩
        · rw [take_snoc hk]
          refine (nn.mono ?_).snoc ⟨q0, rfl, hq8⟩
          rintro kv k' ⟨q, rfl, hq⟩
          refine ⟨q, rfl, b8.get (n5.ne (n4.get hq)) (s7 _ _ (u6.get (fun z => by subst z; rw [he] at hq; cases hq) (s35 _ _ hq)))⟩
        · intro kv hkv q' eq'
          rcases List.mem_append.mp hkv with h | h
          · exact nw kv h q' eq'
          · rw [List.mem_singleton.mp h] at eq'
            cases eq'
            cases z : H q0 with
            | none => rfl
            | some u =>
              have z3 := b3 q0 u (by simp [dq0.symm, eq0.symm]) (n1.get z)
              have := n5.fr
              rw [n4.get z3] at this
              cases this
        · intro b u hb hu
          have hbe : b ≠ e := fun z => hb (by rw [z]; simp)
          have h3' := b3 b u hb hu
          exact b8.get (n5.ne (n4.get h3')) (s7 _ _ (u6.get hbe (s35 _ _ h3')))
    · rintro σ H' ⟨⟨x3, x4, x5, x6, x7, x8, rfl⟩, nbs, he, hd, nn, nw, b3⟩
      rw [h2.len, List.take_length] at nn
      refine ⟨hd, ?_⟩
      have g : ∀ b u, b ≠ d → H' b = some u → upd H' d (.dK kvs) b = some u := fun b u n h => by rw [upd_ne n]; exact h
      have fin : ∀ H9, H9 = upd H' d (.dK kvs) → Same H H9 ∧ H9 e = some (.dK nbs) ∧ Nums H9 ws nbs ks := by
        rintro H9 rfl
        refine ⟨fun b u h => ?_, g _ _ ed.symm he, nn.mono ?_⟩
        · by_cases hb : b = d
          · subst hb; rw [h1] at h; rw [upd_same]; exact h
          · exact g _ _ hb (b3 b u (by simp [hb, L2.ne_of_none h n1.fr]) (n1.get h))
        · rintro kv k' ⟨q, rfl, hq⟩
          exact ⟨q, rfl, g _ _ (fun z => by subst z; rw [hd] at hq; cases hq) hq⟩
      generalize upd H' d (.dK kvs) = H9 at *
      obtain ⟨f1, f2, f3⟩ := fin H9 rfl
      k_call_by "za" 0
      exact k e nbs H9 n1.fr f1 f2 f3 nw

/-- a weave stands at a -/
def IsWeave (K : PySem.W.Frag) (H : Hp) (a : Addr) (ks : List Knot) (ws : List Wire) : Prop := ∃ dx p r d e vs us kvs nbs, H a = some (.ins (He.ga K "Weave") dx [("pairs", .ref p), ("rows", .ref r), ("by_name", .ref d), ("numbers", .ref e)]) ∧
  H p = some (.tup vs) ∧ Pairs K H vs ks ∧ H r = some (.tup us) ∧ Wires H us ws ∧ H d = some (.dK kvs) ∧ Named K H kvs ks ∧ H e = some (.dK nbs) ∧ nbs.map (·.1) = (ks.map (·.nm)).map Sum.inr
theorem IsWeave.kept {K : PySem.W.Frag} {H H' : Hp} {a : Addr} {ks : List Knot} {ws : List Wire} (h : IsWeave K H a ks ws) (f : KeptD H H') : IsWeave K H' a ks ws := by
  obtain ⟨dx, p, r, d, e, vs, us, kvs, nbs, h1, h2, h3, h4, h5, h6, h7, h8, h9⟩ := h
  exact ⟨dx, p, r, d, e, vs, us, kvs, nbs, f.i _ _ _ _ h1, f.t _ _ h2, pairs_kept h3 f.toKept, f.t _ _ h4, wires_kept h5 f.toKept, f.d _ _ h6, named_kept h7 f.toKept, f.d _ _ h8, h9⟩
/-- its lists of numbers, too -/
def HasNums (K : PySem.W.Frag) (H : Hp) (a : Addr) (ks : List Knot) (ws : List Wire) : Prop := ∃ C dx fs e nbs, H a = some (.ins C dx fs) ∧ fs.lookup ("numbers" : Str) = some (.ref e) ∧ H e = some (.dK nbs) ∧ Nums H ws nbs ks
/-- and these are none of the elder heap's -/
def HasNumsF (K : PySem.W.Frag) (H0 H : Hp) (a : Addr) (ks : List Knot) (ws : List Wire) : Prop := ∃ C dx fs e nbs, H a = some (.ins C dx fs) ∧ fs.lookup ("numbers" : Str) = some (.ref e) ∧ H e = some (.dK nbs) ∧ Nums H ws nbs ks ∧ NumsNew H0 nbs
theorem HasNumsF.of {K : PySem.W.Frag} {H0 H : Hp} {a : Addr} {ks : List Knot} {ws : List Wire} (h : HasNumsF K H0 H a ks ws) : HasNums K H a ks ws := by
  obtain ⟨C, dx, fs, e, nbs, h1, h2, h3, h4, _⟩ := h
  exact ⟨C, dx, fs, e, nbs, h1, h2, h3, h4⟩
theorem HasNumsF.same {K : PySem.W.Frag} {H0 H H' : Hp} {a : Addr} {ks : List Knot} {ws : List Wire} (h : HasNumsF K H0 H a ks ws) (s : Same H H') : HasNumsF K H0 H' a ks ws := by
  obtain ⟨C, dx, fs, e, nbs, h1, h2, h3, h4, h5⟩ := h
  exact ⟨C, dx, fs, e, nbs, s _ _ h1, h2, s _ _ h3, h4.mono fun _ _ ⟨q, e, x⟩ => ⟨q, e, s _ _ x⟩, h5⟩
/-- an elder list is changed -/
theorem HasNumsF.but {K : PySem.W.Frag} {H0 H H' : Hp} {a p : Addr} {ks : List Knot} {ws : List Wire} {xs : List V} {o : HO} (h : HasNumsF K H0 H a ks ws) (h0 : H0 p = some o) (hp : H p = some (.lst xs)) (b : Z.But p H H') : HasNumsF K H0 H' a ks ws := by
  obtain ⟨C, dx, fs, e, nbs, h1, h2, h3, h4, h5⟩ := h
  refine ⟨C, dx, fs, e, nbs, b.get (fun z => by subst z; rw [hp] at h1; cases h1) h1, h2, b.get (fun z => by subst z; rw [hp] at h3; cases h3) h3, ⟨h4.1, fun i x y hx hy => ?_⟩, h5⟩
  obtain ⟨q, e, x'⟩ := h4.2 i x y hx hy
  refine ⟨q, e, b.get (fun z => ?_) x'⟩
  subst z
  have := h5 x (List.mem_of_getElem? hx) q (by rw [e])
  rw [h0] at this
  cases this
theorem pairs_names {K : PySem.W.Frag} {H : Hp} {vs : List V} {ks : List Knot} (h : Pairs K H vs ks) : True := trivial
theorem reach_all {ks : List Knot} {ws : List Wire} (v : Valid ks ws) {zs : List Str} (h0 : ∀ x ∈ (ks.filter fun k => k.nd.isIn).map (·.nm), x ∈ zs) (h1 : ∀ z ∈ zs, ∀ y ∈ onward ws z, y ∈ zs) : ∀ k ∈ ks, k.nm ∈ zs := by
  obtain ⟨f, hf⟩ := v.rank
  have key : ∀ n : Nat, ∀ k ∈ ks, f k.nm ≤ n → k.nm ∈ zs := by
    intro n
    induction n with
    | zero =>
      intro k hk hl
      cases hi : k.nd.isIn with
      | true => exact h0 _ (List.mem_map.mpr ⟨k, List.mem_filter.mpr ⟨hk, hi⟩, rfl⟩)
      | false =>
        obtain ⟨w, hw, e, l⟩ := hf k hk hi
        omega
    | succ n ih =>
      intro k hk hl
      cases hi : k.nd.isIn with
      | true => exact h0 _ (List.mem_map.mpr ⟨k, List.mem_filter.mpr ⟨hk, hi⟩, rfl⟩)
      | false =>
        obtain ⟨w, hw, e, l⟩ := hf k hk hi
        obtain ⟨j, hj, ej, _⟩ := v.src w hw
        have hs : w.s ∈ zs := by
          rw [← ej]
          exact ih j hj (by rw [ej]; omega)
        refine h1 _ hs _ ?_
        unfold onward
        exact List.mem_map.mpr ⟨w, List.mem_filter.mpr ⟨hw, decide_eq_true rfl⟩, e⟩
  exact fun k hk => key (f k.nm) k hk (Nat.le_refl _)

def sp_Weave_names (K : PySem.W.Frag) : Sp := fun vz H Q Ex => ∃ (a dx p : Addr) (vs : List V) (fs : List (Str × V)) (ks : List Knot), vz = [.ref a] ∧ (H a = some (.ins (He.ga K "Weave") dx fs)) ∧ (fs.lookup ("pairs" : Str) = some (.ref p)) ∧ (H p = some (.tup vs)) ∧ (Pairs K H vs ks) ∧ (ks.length ≤ 1000) ∧ (∀ q H', H q = none → Same H H' → H' q = some (.lst ((ks.map (·.nm)).map V.str)) → Q (.ref q) H')
theorem c_Weave_names {K : PySem.W.Frag} {H : Hp} {Q : VK} {Ex : XK} {a dx p : Addr} {vs : List V} {fs : List (Str × V)} {ks : List Knot} (h1 : H a = some (.ins (He.ga K "Weave") dx fs)) (h2 : fs.lookup ("pairs" : Str) = some (.ref p)) (h3 : H p = some (.tup vs)) (h4 : Pairs K H vs ks) (h5 : ks.length ≤ 1000) (k : ∀ q H', H q = none → Same H H' → H' q = some (.lst ((ks.map (·.nm)).map V.str)) → Q (.ref q) H') : sp_Weave_names K [.ref a] H Q Ex := ⟨a, dx, p, vs, fs, ks, rfl, h1, h2, h3, h4, h5, k⟩
theorem ok_Weave_names {g : Prop} {P : Program} {w : World} {K : PySem.W.Frag} {mg : Str → Option Value} {base : Heap} (E : Ev K mg) : Z.Pr g P w K mg base 1 (He.ma K (He.ga K "Weave") "names") d_Weave_names p_Weave_names (sp_Weave_names K) := by
  obtain ⟨fd, FD⟩ := E.fn 61 (d := d_Weave_names)
  refine ⟨fd, FD, Z.FunD.okG FD sc_Weave_names (fun vz H Q Ex h => ?_) (fun cdv A outer s H vz Q Ex hr hgd h => ?_)⟩
  · obtain ⟨_, _, _, _, _, _, rfl, _⟩ := h
    rfl
  · have hu := hr.units
    obtain ⟨a, dx, p, vs, fs, ks, rfl, h1, h2, h3, h4, h5, k⟩ := h
    have cl_Weave := E.cls 30
    have na_Weave_pairs := E.noat 121
    refine ⟨_, (Z.zs_one (Z.z_ret (pe_lc (own := [("name", 1), ("node", 2)]) (g := gTup K 2 (gCons (gName 1) (gCons (gName 2) gNil))) rfl sc_Weave_names.nd (Z.pi_seqK K rfl (Z.pe_fldK K rfl (pv 0) rfl)) (blkOk_by (own := [("name", 1), ("node", 2)]) (N := n_Weave_names) (sc := (defScope s_Weave_names)) (by decide +kernel)) (fun _ _ _ _ _ => (pg_tup (n := 2) (by rfl) (pgs_cons (pg_name (i := 1) sc_Weave_names.nd rfl (Or.inl rfl)) (pgs_cons (pg_name (i := 2) sc_Weave_names.nd rfl (Or.inl rfl)) pgs_nil)))) (fun _ _ _ _ _ => pts_nil) (fun _ _ _ _ _ => (pv 1))))), ?_⟩
    refine Z.i_start (σ := [some (.ref a), none, none]) rfl ?_
    try dsimp only [Z.cxK]
    k_call_by "za" 0
    refine Z.i_fld1 h1 cl_Weave na_Weave_pairs h2 ?_
    k_call_by "za" 0
    refine Z.comp_tup (xs := vs) (fun i acc H' => acc = ((ks.take i).map (·.nm)).map V.str ∧ Same H H') ?_ ?_ ?_ ?_
    · intro D H' n'
      exact ⟨rfl, n'.same⟩
    · rintro i acc H' hi ⟨_, s⟩
      exact SqT.of (s _ _ h3)
    · rintro D i acc x H2 fD hx hD ⟨rfl, s2⟩
      obtain ⟨kn, hk, r, b, rfl, hr, hn⟩ := h4.get hx
      have li := (List.getElem?_eq_some_iff.mp hk).1
      refine Z.i_tupT (s2 _ _ hr) rfl ?_
      k_call_by "za" 0
      have tk : ks.take (i + 1) = ks.take i ++ [kn] := take_snoc hk
      refine Z.i_end hD (by
        simp only [List.length_map, sizeLine_eq]
        rw [List.length_take]; omega) fun H3 u3 => ⟨?_, by k_call_by "fr" 0⟩
      rw [tk, List.map_append, List.map_append]; rfl
    · rintro D acc H2 fD hD ⟨rfl, s2⟩
      rw [h4.len, List.take_length] at hD
      exact k D H2 fD s2 hD
def sp_Weave_inlets (K : PySem.W.Frag) : Sp := fun vz H Q Ex => ∃ (a dx p : Addr) (vs : List V) (fs : List (Str × V)) (ks : List Knot), vz = [.ref a] ∧ (H a = some (.ins (He.ga K "Weave") dx fs)) ∧ (fs.lookup ("pairs" : Str) = some (.ref p)) ∧ (H p = some (.tup vs)) ∧ (Pairs K H vs ks) ∧ (ks.length ≤ 1000) ∧ (∀ q H', H q = none → Same H H' → H' q = some (.lst (((ks.filter fun k => k.nd.isIn).map (·.nm)).map V.str)) → Q (.ref q) H')
theorem c_Weave_inlets {K : PySem.W.Frag} {H : Hp} {Q : VK} {Ex : XK} {a dx p : Addr} {vs : List V} {fs : List (Str × V)} {ks : List Knot} (h1 : H a = some (.ins (He.ga K "Weave") dx fs)) (h2 : fs.lookup ("pairs" : Str) = some (.ref p)) (h3 : H p = some (.tup vs)) (h4 : Pairs K H vs ks) (h5 : ks.length ≤ 1000) (k : ∀ q H', H q = none → Same H H' → H' q = some (.lst (((ks.filter fun k => k.nd.isIn).map (·.nm)).map V.str)) → Q (.ref q) H') : sp_Weave_inlets K [.ref a] H Q Ex := ⟨a, dx, p, vs, fs, ks, rfl, h1, h2, h3, h4, h5, k⟩
theorem ok_Weave_inlets {g : Prop} {P : Program} {w : World} {K : PySem.W.Frag} {mg : Str → Option Value} {base : Heap} (E : Ev K mg) : Z.Pr g P w K mg base 1 (He.ma K (He.ga K "Weave") "inlets") d_Weave_inlets p_Weave_inlets (sp_Weave_inlets K) := by
  obtain ⟨fd, FD⟩ := E.fn 62 (d := d_Weave_inlets)
  refine ⟨fd, FD, Z.FunD.okG FD sc_Weave_inlets (fun vz H Q Ex h => ?_) (fun cdv A outer s H vz Q Ex hr hgd h => ?_)⟩
  · obtain ⟨_, _, _, _, _, _, rfl, _⟩ := h
    rfl
  · have hu := hr.units
    obtain ⟨a, dx, p, vs, fs, ks, rfl, h1, h2, h3, h4, h5, k⟩ := h
    have cl_Weave := E.cls 30
    have na_Weave_pairs := E.noat 121
    refine ⟨_, (Z.zs_one (Z.z_ret (pe_lc (own := [("name", 1), ("node", 2)]) (g := gTup K 2 (gCons (gName 1) (gCons (gName 2) gNil))) rfl sc_Weave_inlets.nd (Z.pi_seqK K rfl (Z.pe_fldK K rfl (pv 0) rfl)) (blkOk_by (own := [("name", 1), ("node", 2)]) (N := n_Weave_inlets) (sc := (defScope s_Weave_inlets)) (by decide +kernel)) (fun _ _ _ _ _ => (pg_tup (n := 2) (by rfl) (pgs_cons (pg_name (i := 1) sc_Weave_inlets.nd rfl (Or.inl rfl)) (pgs_cons (pg_name (i := 2) sc_Weave_inlets.nd rfl (Or.inl rfl)) pgs_nil)))) (fun _ _ _ _ _ => pts_one (pt_val (pe_callB (Z.cisiK K rfl) (by rfl) (E.free 39) (by decide +kernel) (pa_cons (pv 2) (pa_cons (pe_glob (v := .ref (He.ga K "Inlet")) rfl (E.glo 64) rfl) pa_nil))))) (fun _ _ _ _ _ => (pv 1))))), ?_⟩
    refine Z.i_start (σ := [some (.ref a), none, none]) rfl ?_
    try dsimp only [Z.cxK]
    k_call_by "za" 0
    refine Z.i_fld1 h1 cl_Weave na_Weave_pairs h2 ?_
    k_call_by "za" 0
    refine Z.comp_tup (xs := vs) (fun i acc H' => acc = (((ks.take i).filter fun k => k.nd.isIn).map (·.nm)).map V.str ∧ Same H H') ?_ ?_ ?_ ?_
    · intro D H' n'
      exact ⟨rfl, n'.same⟩
    · rintro i acc H' hi ⟨_, s⟩
      exact SqT.of (s _ _ h3)
    · rintro D i acc x H2 fD hx hD ⟨rfl, s2⟩
      obtain ⟨kn, hk, r, b, rfl, hr, hn⟩ := h4.get hx
      have li := (List.getElem?_eq_some_iff.mp hk).1
      refine Z.i_tupT (s2 _ _ hr) rfl ?_
      k_call_by "za" 0
      have tk : ks.take (i + 1) = ks.take i ++ [kn] := take_snoc hk
      refine m_isin E (hn.kept (.of s2)) ?_
      cases hi : kn.nd.isIn with
      | true =>
        k_call_by "za" 0
        refine Z.i_end hD (by
          simp only [List.length_map, sizeLine_eq]
          refine Nat.lt_of_le_of_lt (List.length_filter_le _ _) ?_; rw [List.length_take]; omega) fun H3 u3 => ⟨?_, by k_call_by "fr" 0⟩
        rw [tk, List.filter_append, List.map_append, List.map_append, filt1 (p := fun k : Knot => k.nd.isIn) hi]; rfl
      | false =>
        refine Z.i_blV ?_
        refine Z.ifF rfl (Z.i_skip hD ⟨?_, s2⟩)
        rw [tk, List.filter_append, List.filter_cons_of_neg (by rw [hi]; exact Bool.false_ne_true)]; simp
    · rintro D acc H2 fD hD ⟨rfl, s2⟩
      rw [h4.len, List.take_length] at hD
      exact k D H2 fD s2 hD

theorem IsNode.butW {K : PySem.W.Frag} {H H' : Hp} {a b C dx : Addr} {fs : List (Str × V)} {nd : Nd} (h : IsNode K H b nd) (t : Z.But a H H') (e : H a = some (.ins C dx fs)) (l : fs.lookup ("own_late" : Str) = none) : IsNode K H' b nd := by
  obtain ⟨dy, s, h, g⟩ := h
  refine ⟨dy, s, t.get (fun z => ?_) h, fun ns q => t.get (fun z => ?_) (g ns q)⟩
  · subst z
    rw [e] at h
    cases h
    obtain ⟨x, y, f⟩ := late_at nd K s
    rw [(f s).1] at l
    cases l
  · subst z
    have := g ns q
    rw [e] at this
    cases this
theorem pairs_butW {K : PySem.W.Frag} {H H' : Hp} {a C dx : Addr} {fs : List (Str × V)} {vs : List V} {ks : List Knot} (h : Pairs K H vs ks) (t : Z.But a H H') (e : H a = some (.ins C dx fs)) (l : fs.lookup ("own_late" : Str) = none) : Pairs K H' vs ks := h.mono fun v k ⟨r, b, ev, hr, hn⟩ =>
  ⟨r, b, ev, t.get (fun z => by subst z; rw [e] at hr; cases hr) hr, hn.butW t e l⟩
theorem named_butW {K : PySem.W.Frag} {H H' : Hp} {a C dx : Addr} {fs : List (Str × V)} {vs : List (Key × V)} {ks : List Knot} (h : Named K H vs ks) (t : Z.But a H H') (e : H a = some (.ins C dx fs)) (l : fs.lookup ("own_late" : Str) = none) : Named K H' vs ks := h.mono fun v k ⟨b, ev, hn⟩ => ⟨b, ev, hn.butW t e l⟩
theorem wires_butW {H H' : Hp} {a C dx : Addr} {fs : List (Str × V)} {vs : List V} {ws : List Wire} (h : Wires H vs ws) (t : Z.But a H H') (e : H a = some (.ins C dx fs)) : Wires H' vs ws := h.mono fun v w ⟨r, ev, hr⟩ => ⟨r, ev, t.get (fun z => by subst z; rw [e] at hr; cases hr) hr⟩

def sp_Weave_u__init (K : PySem.W.Frag) : Sp := fun vz H Q Ex => ∃ (a dx n q : Addr) (vs us : List V) (ks : List Knot) (ws : List Wire), vz = [.ref a, .ref n, .ref q] ∧ (H a = some (.ins (He.ga K "Weave") dx [])) ∧ (Z.Sq H n vs) ∧ (Pairs K H vs ks) ∧ (Z.Sq H q us) ∧ (Wires H us ws) ∧ (Valid ks ws) ∧ (∀ H', IsWeave K H' a ks ws → HasNumsF K H H' a ks ws → Z.But a H H' → Q .non H')
theorem c_Weave_u__init {K : PySem.W.Frag} {H : Hp} {Q : VK} {Ex : XK} {a dx n q : Addr} {vs us : List V} {ks : List Knot} {ws : List Wire} (h1 : H a = some (.ins (He.ga K "Weave") dx [])) (h2 : Z.Sq H n vs) (h3 : Pairs K H vs ks) (h4 : Z.Sq H q us) (h5 : Wires H us ws) (h6 : Valid ks ws) (k : ∀ H', IsWeave K H' a ks ws → HasNumsF K H H' a ks ws → Z.But a H H' → Q .non H') : sp_Weave_u__init K [.ref a, .ref n, .ref q] H Q Ex := ⟨a, dx, n, q, vs, us, ks, ws, rfl, h1, h2, h3, h4, h5, h6, k⟩
theorem ok_Weave_u__init {g : Prop} {P : Program} {w : World} {K : PySem.W.Frag} {mg : Str → Option Value} {base : Heap} (E : Ev K mg) : Z.Pr g P w K mg base 4 (He.ma K (He.ga K "Weave") "__init__") d_Weave_u__init p_Weave_u__init (sp_Weave_u__init K) := by
  obtain ⟨fd, FD⟩ := E.fn 63 (d := d_Weave_u__init)
  refine ⟨fd, FD, Z.FunD.okG FD sc_Weave_u__init (fun vz H Q Ex h => ?_) (fun cdv A outer s H vz Q Ex hr hgd h => ?_)⟩
  · obtain ⟨_, _, _, _, _, _, _, _, rfl, _⟩ := h
    rfl
  · have hu := hr.units
    obtain ⟨a, dx, n, q, vs, us, ks, ws, rfl, h1, h2, h3, h4, h5, h6, k⟩ := h
    have F_Weave_inlets := ok_Weave_inlets (g := g) (P := P) (w := w) (base := base) E
    have F_Weave_names := ok_Weave_names (g := g) (P := P) (w := w) (base := base) E
    have F_come_to := ok_come_to (g := g) (P := P) (w := w) (base := base) E
    have F_named_nodes := ok_named_nodes (g := g) (P := P) (w := w) (base := base) E
    have F_steps_onward := ok_steps_onward (g := g) (P := P) (w := w) (base := base) E
    have F_want_wire := ok_want_wire (g := g) (P := P) (w := w) (base := base) E
    have F_wires_into := ok_wires_into (g := g) (P := P) (w := w) (base := base) E
    have cl_Weave := E.cls 30
    have na_Weave_by_name := E.noat 122
    have na_Weave_numbers := E.noat 123
    have na_Weave_pairs := E.noat 121
    have na_Weave_rows := E.noat 124
    refine ⟨_, (Z.zs_cons (Z.z_if (PW.pt (pw_or (pt_cmpR op_gt (pe_callB (Z.clenK K rfl) (by rfl) (E.free 32) (by decide +kernel) (pa_cons (pv 1) pa_nil)) (Z.pe_gint rfl (E.int 71)) (nomark _)) (pw_or1 (pt_cmpR op_gt (pe_callB (Z.clenK K rfl) (by rfl) (E.free 32) (by decide +kernel) (pa_cons (pv 2) pa_nil)) (Z.pe_gint rfl (E.int 70)) (nomark _))))) (Z.zs_one Z.z_never) Z.zs_nil)
   (Z.zs_cons (Z.z_fld (pv 0) (pe_callTy (Z.ctupleK K rfl) (by rfl) (E.free 51) (by decide +kernel) (pa_cons (pv 1) pa_nil)) rfl)
   (Z.zs_cons (Z.z_fld (pv 0) (pe_callTy (Z.ctupleK K rfl) (by rfl) (E.free 51) (by decide +kernel) (pa_cons (pv 2) pa_nil)) rfl)
   (Z.zs_cons (Z.z_fld (pv 0) (Z.pe_f F_named_nodes (hr.mono (by decide)) hgd (by rfl) (E.glo 69) bd_named_nodes (passL) (pa_cons (Z.pe_fldK K rfl (pv 0) rfl) pa_nil)) rfl)
   (Z.zs_cons (Z.z_for (passes_of rfl) rfl (pi_range1 (by rfl) (E.free 41) (pa_cons (pe_callB (Z.clenK K rfl) (by rfl) (E.free 32) (by decide +kernel) (pa_cons (Z.pe_fldK K rfl (pv 0) rfl) pa_nil)) pa_nil)) (pg_name (i := 3) sc_Weave_u__init.nd rfl (Or.inl rfl))
   (Z.zs_one (Z.z_expr (Z.pe_f F_want_wire (hr.mono (by decide)) hgd (by rfl) (E.glo 68) bd_want_wire (passL) (pa_cons (Z.pe_fldK K rfl (pv 0) rfl) (pa_cons (Z.pe_fldK K rfl (pv 0) rfl) (pa_cons (pv 3) pa_nil)))))))
   (Z.zs_cons (Z.z_fld (pv 0) (Z.pe_f F_wires_into (hr.mono (by decide)) hgd (by rfl) (E.glo 67) bd_wires_into (passL) (pa_cons (Z.pe_fldK K rfl (pv 0) rfl) (pa_cons (Z.pe_fldK K rfl (pv 0) rfl) pa_nil))) rfl)
   (Z.zs_cons (Z.z_set (i := 4) sc_Weave_u__init.nd rfl (Or.inl rfl) (Z.pe_f F_come_to (hr.mono (by decide)) hgd (by rfl) (E.glo 65) bd_come_to (passL) (pa_cons (Z.pe_f F_steps_onward (hr.mono (by decide)) hgd (by rfl) (E.glo 66) bd_steps_onward (passL) (pa_cons (Z.pe_M0K K rfl (Z.ms_cons (Z.mt_of (E.cls 30) (Z.fxM_ok (E.own 84)) F_Weave_names bd_Weave_names (hr.mono (by decide)) hgd) Z.ms_nil) (passL) (pv 0)) (pa_cons (Z.pe_fldK K rfl (pv 0) rfl) pa_nil))) (pa_cons (Z.pe_M0K K rfl (Z.ms_cons (Z.mt_of (E.cls 30) (Z.fxM_ok (E.own 85)) F_Weave_inlets bd_Weave_inlets (hr.mono (by decide)) hgd) Z.ms_nil) (passL) (pv 0)) pa_nil))))
   (Z.zs_one (Z.z_for (passes_of rfl) rfl (Z.pi_seqK K rfl (Z.pe_M0K K rfl (Z.ms_cons (Z.mt_of (E.cls 30) (Z.fxM_ok (E.own 84)) F_Weave_names bd_Weave_names (hr.mono (by decide)) hgd) Z.ms_nil) (passL) (pv 0))) (pg_name (i := 5) sc_Weave_u__init.nd rfl (Or.inl rfl))
   (Z.zs_one (Z.z_if (pt_cmp (pc_dnotin (Z.hu1 hu) (pv 5) (pv 4))) (Z.zs_one Z.z_never) Z.zs_nil))))))))))), ?_⟩
    refine Z.i_start (σ := [some (.ref a), some (.ref n), some (.ref q), none, none, none]) rfl ?_
    try dsimp only [Z.cxK]
    have lv := h3.len
    have lu := h5.len
    have v1 := h6.kl
    have v2 := h6.wl
    k_call_by "za" 0
    refine Z.i_lenSq h2 ?_
    k_call_by "za" 0
    refine Z.ite2' (fun hz => absurd hz (by omega)) (fun hz => ?_)
    k_call_by "za" 0
    refine Z.i_lenSq h4 ?_
    k_call_by "za" 0
    refine Z.ite2' (fun hz => absurd hz (by omega)) (fun hz => ?_)
    k_call_by "za" 0
    refine Z.i_tupleSq h2 fun p H1 s1 e1 => ?_
    have i1 := s1 _ _ h1
    have na : ∀ {b : Addr} {xs : List V}, H b = some (.tup xs) → b ≠ a := fun e z => by subst z; rw [h1] at e; cases e
    k_call_by "za" 0
    rename_i H2 u2
    have qa : q ≠ a := fun z => by
      subst z
      rcases h4 with e | e <;> (rw [h1] at e; cases e)
    have b2 : Z.But a H H2 := (Z.But.ofSame s1).up u2
    have q2 : Z.Sq H2 q us := h4.imp (fun h => b2.get qa h) fun h => b2.get qa h
    refine Z.i_tupleSq q2 fun r H3 s3 e3 => ?_
    have a3 := s3 _ _ u2.at
    k_call_by "za" 0
    rename_i H4 u4
    have b4 : Z.But a H H4 := (b2.same s3).up u4
    have pa : p ≠ a := fun z => by subst z; rw [i1] at e1; cases e1
    have ra : r ≠ a := fun z => by subst z; rw [a3] at e3; cases e3
    have e1' := u4.get pa (s3 _ _ (u2.get pa e1))
    have e3' := u4.get ra e3
    have p4 : Pairs K H4 vs ks := pairs_butW h3 b4 h1 rfl
    refine c_named_nodes e1' p4 h6.nd h6.nm h6.kl fun d kvs H5 f5 s5 e5 nm5 => ?_
    have a5 := s5 _ _ u4.at
    k_call_by "za" 0
    rename_i H6 u6
    have da : d ≠ a := fun z => by subst z; rw [u4.at] at f5; cases f5
    have b46 : Z.But a H4 H6 := (Z.But.ofSame s5).up u6
    have nm6 : Named K H6 kvs ks := named_butW nm5 u6.but a5 rfl
    have d6 := u6.get da e5
    have r6 := b46.get ra e3'
    have w6 : Wires H6 us ws := wires_butW h5 (b4.trans b46) h1
    refine Z.loop_range0 (fun i σ H' => (∃ x3, σ = [some (.ref a), some (.ref n), some (.ref q), x3, none, none]) ∧ Same H6 H') ?_ ?_ ?_
    · exact ⟨⟨_, rfl⟩, .refl _⟩
    · rintro i σ H7 hi ⟨⟨x3, rfl⟩, s7⟩
      have a7 := s7 _ _ u6.at
      k_call_by "za" 0
      refine c_want_wire (s7 _ _ d6) (named_kept nm6 (.of s7)) (s7 _ _ r6) (wires_kept w6 (.of s7)) h6 (by omega) fun H8 s8 => ?_
      exact ⟨⟨_, rfl⟩, s7.trans s8⟩
    rintro σ H7 ⟨⟨x3, rfl⟩, s7⟩
    have a7 := s7 _ _ u6.at
    k_call_by "za" 0
    refine c_wires_into (s7 _ _ d6) (named_kept nm6 (.of s7)) (s7 _ _ r6) (wires_kept w6 (.of s7)) h6 fun e nbs H8 f8 s8 e8 n8 nw8 => ?_
    have a8 := s8 _ _ a7
    k_call_by "za" 0
    rename_i H9 u9
    have ea : e ≠ a := fun z => by subst z; rw [a7] at f8; cases f8
    have s78 := s7.trans s8
    have b9 : Z.But a H6 H9 := (Z.But.ofSame s78).up u9
    have p9 : Pairs K H9 vs ks := pairs_butW p4 (b46.trans b9) u4.at rfl
    have ep9 := (b46.trans b9).get pa e1'
    have er9 := b9.get ra r6
    have w9 : Wires H9 us ws := wires_butW w6 b9 u6.at
    refine Z.i_Mi 0 u9.at rfl rfl ⟨rfl, rfl, ?_⟩
    dsimp only
    refine c_Weave_names u9.at rfl ep9 p9 (by omega) fun l1 H10 f10 s10 e10 => ?_
    have a10 := s10 _ _ u9.at
    k_call_by "za" 0
    refine c_steps_onward (ws := ws) e10 (.inr (s10 _ _ er9)) (wires_kept w9 (.of s10)) h6.nd (by rw [List.length_map]; exact h6.kl) h6.wl fun st sk H11 f11 s11 e11 st11 => ?_
    have s9b : Same H9 H11 := s10.trans s11
    k_call_by "za" 0
    refine Z.i_Mi 0 (s9b _ _ u9.at) rfl rfl ⟨rfl, rfl, ?_⟩
    dsimp only
    refine c_Weave_inlets (s9b _ _ u9.at) rfl (s9b _ _ ep9) (pairs_kept p9 (.of s9b)) (by omega) fun l2 H12 f12 s12 e12 => ?_
    k_call_by "za" 0
    refine c_come_to (f := onward ws) (ns := ks.map (·.nm)) (xs := (ks.filter fun k => k.nd.isIn).map (·.nm)) (s12 _ _ e11) (st11.mono ?_) e12 ?_ ?_ ?_ (by rw [List.length_map]; omega) (by
        rw [List.length_map]
        exact Nat.le_trans (List.length_filter_le _ _) (by omega)) fun c ck zs H13 f13 s13 e13 k13 z1 z2 z3 z4 => ?_
    · rintro kv z ⟨q', rfl, hq'⟩
      exact ⟨q', rfl, s12 _ _ hq'⟩
    · intro x hx
      obtain ⟨kn, hk, rfl⟩ := List.mem_map.mp hx
      exact List.mem_map_of_mem (List.mem_filter.mp hk).1
    · intro x hx y hy
      unfold onward at hy
      obtain ⟨w, hw, rfl⟩ := List.mem_map.mp hy
      obtain ⟨kn, hk, e, _⟩ := h6.gol w (List.mem_filter.mp hw).1
      rw [← e]
      exact List.mem_map_of_mem hk
    · intro x
      unfold onward
      rw [List.length_map]
      exact Nat.le_trans (List.length_filter_le _ _) v2
    have s9d : Same H9 H13 := (s9b.trans s12).trans s13
    k_call_by "za" 0
    refine Z.i_Mi 0 (s9d _ _ u9.at) rfl rfl ⟨rfl, rfl, ?_⟩
    dsimp only
    refine c_Weave_names (s9d _ _ u9.at) rfl (s9d _ _ ep9) (pairs_kept p9 (.of s9d)) (by omega) fun l3 H14 f14 s14 e14 => ?_
    have s9e := s9d.trans s14
    have c14 := s14 _ _ e13
    have all := reach_all h6 z2 z3
    k_call_by "za" 0
    refine Z.loop_list (xs := (ks.map (·.nm)).map V.str) (fun i σ H' => (∃ x5, σ = [some (.ref a), some (.ref n), some (.ref q), x3, some (.ref c), x5]) ∧ H' = H14) ?_ ?_ ?_ ?_
    · exact ⟨⟨_, rfl⟩, rfl⟩
    · rintro i σ H' hi ⟨_, rfl⟩
      exact SqL.of e14
    · rintro i x σ H' hx ⟨⟨x5, rfl⟩, rfl⟩
      obtain ⟨z, hz, rfl⟩ := strs_at hx
      obtain ⟨kn, hk, rfl⟩ := List.mem_map.mp (List.mem_of_getElem? hz)
      k_call_by "za" 0
      rw [keys_some k13, decide_eq_true (all kn hk)]
      k_call_by "za" 0
      exact ⟨⟨_, rfl⟩, rfl⟩
    · rintro σ H' ⟨⟨x5, rfl⟩, rfl⟩
      have da9 : H9 d = _ := b9.get da d6
      have ee9 : H9 e = _ := u9.get ea e8
      refine k H' ⟨dx, p, r, d, e, vs, us, kvs, nbs, s9e _ _ u9.at, s9e _ _ ep9, pairs_kept p9 (.of s9e), s9e _ _ er9, wires_kept w9 (.of s9e), s9e _ _ da9, named_kept (named_butW nm6 b9 u6.at rfl) (.of s9e), s9e _ _ ee9, nums_keys n8⟩
        ⟨_, dx, _, e, nbs, s9e _ _ u9.at, rfl, s9e _ _ ee9, n8.mono ?_, fun kv hkv q' e' => ?_⟩ ((((b4.trans b46).trans b9)).same s9e)
      rotate_left
      · have z7 := nw8 kv hkv q' e'
        cases z : H q' with
        | none => rfl
        | some u =>
          have := s7 _ _ ((b4.trans b46).get (fun y => by subst y; rw [a7] at z7; cases z7) z)
          rw [z7] at this
          cases this
      rintro kv z ⟨q', rfl, hq'⟩
      exact ⟨q', rfl, s9e _ _ (u9.get (fun z => by subst z; rw [a8] at hq'; cases hq') hq')⟩
def sp_Weave_u__len (K : PySem.W.Frag) : Sp := fun vz H Q Ex => ∃ (a : Addr) (ks : List Knot) (ws : List Wire), vz = [.ref a] ∧ (IsWeave K H a ks ws) ∧ (Q (.int (ks.length : Nat)) H)
theorem c_Weave_u__len {K : PySem.W.Frag} {H : Hp} {Q : VK} {Ex : XK} {a : Addr} {ks : List Knot} {ws : List Wire} (h1 : IsWeave K H a ks ws) (k : Q (.int (ks.length : Nat)) H) : sp_Weave_u__len K [.ref a] H Q Ex := ⟨a, ks, ws, rfl, h1, k⟩
theorem ok_Weave_u__len {g : Prop} {P : Program} {w : World} {K : PySem.W.Frag} {mg : Str → Option Value} {base : Heap} (E : Ev K mg) : Z.Pr g P w K mg base 1 (He.ma K (He.ga K "Weave") "__len__") d_Weave_u__len p_Weave_u__len (sp_Weave_u__len K) := by
  obtain ⟨fd, FD⟩ := E.fn 64 (d := d_Weave_u__len)
  refine ⟨fd, FD, Z.FunD.okG FD sc_Weave_u__len (fun vz H Q Ex h => ?_) (fun cdv A outer s H vz Q Ex hr hgd h => ?_)⟩
  · obtain ⟨_, _, _, rfl, _⟩ := h
    rfl
  · have hu := hr.units
    obtain ⟨a, ks, ws, rfl, h1, k⟩ := h
    have cl_Weave := E.cls 30
    have na_Weave_pairs := E.noat 121
    refine ⟨_, (Z.zs_one (Z.z_ret (pe_callB (Z.clenK K rfl) (by rfl) (E.free 32) (by decide +kernel) (pa_cons (Z.pe_fldK K rfl (pv 0) rfl) pa_nil)))), ?_⟩
    refine Z.i_start (σ := [some (.ref a)]) rfl ?_
    try dsimp only [Z.cxK]
    obtain ⟨dx, p, r, d, e, vs, us, kvs, nbs, i1, i2, i3, i4, i5, i6, i7, i8, i9⟩ := h1
    k_call_by "za" 0
    rw [i3.len]
    exact k
def sp_Weave_wires (K : PySem.W.Frag) : Sp := fun vz H Q Ex => ∃ (a : Addr) (ks : List Knot) (ws : List Wire), vz = [.ref a] ∧ (IsWeave K H a ks ws) ∧ (∀ q us H', H q = none → Same H H' → H' q = some (.lst us) → Wires H' us ws → Q (.ref q) H')
theorem c_Weave_wires {K : PySem.W.Frag} {H : Hp} {Q : VK} {Ex : XK} {a : Addr} {ks : List Knot} {ws : List Wire} (h1 : IsWeave K H a ks ws) (k : ∀ q us H', H q = none → Same H H' → H' q = some (.lst us) → Wires H' us ws → Q (.ref q) H') : sp_Weave_wires K [.ref a] H Q Ex := ⟨a, ks, ws, rfl, h1, k⟩
theorem ok_Weave_wires {g : Prop} {P : Program} {w : World} {K : PySem.W.Frag} {mg : Str → Option Value} {base : Heap} (E : Ev K mg) : Z.Pr g P w K mg base 1 (He.ma K (He.ga K "Weave") "wires") d_Weave_wires p_Weave_wires (sp_Weave_wires K) := by
  obtain ⟨fd, FD⟩ := E.fn 65 (d := d_Weave_wires)
  refine ⟨fd, FD, Z.FunD.okG FD sc_Weave_wires (fun vz H Q Ex h => ?_) (fun cdv A outer s H vz Q Ex hr hgd h => ?_)⟩
  · obtain ⟨_, _, _, rfl, _⟩ := h
    rfl
  · have hu := hr.units
    obtain ⟨a, ks, ws, rfl, h1, k⟩ := h
    have cl_Weave := E.cls 30
    have na_Weave_rows := E.noat 124
    refine ⟨_, (Z.zs_one (Z.z_ret (pe_callTy (Z.clistK K rfl) (by rfl) (E.free 35) (by decide +kernel) (pa_cons (Z.pe_fldK K rfl (pv 0) rfl) pa_nil)))), ?_⟩
    refine Z.i_start (σ := [some (.ref a)]) rfl ?_
    try dsimp only [Z.cxK]
    obtain ⟨dx, p, r, d, e, vs, us, kvs, nbs, i1, i2, i3, i4, i5, i6, i7, i8, i9⟩ := h1
    k_call_by "za" 0
    rename_i q H1 n1
    exact k q us H1 n1.fr n1.same n1.at (wires_kept i5 (.of n1.same))
def sp_Weave_node (K : PySem.W.Frag) : Sp := fun vz H Q Ex => ∃ (a : Addr) (ks : List Knot) (ws : List Wire) (kn : Knot), vz = [.ref a, .str kn.nm] ∧ (IsWeave K H a ks ws) ∧ (kn ∈ ks) ∧ ((ks.map (·.nm)).Nodup) ∧ (isNm kn.nm) ∧ (∀ b H', Same H H' → IsNode K H' b kn.nd → Q (.ref b) H')
theorem c_Weave_node {K : PySem.W.Frag} {H : Hp} {Q : VK} {Ex : XK} {a : Addr} {ks : List Knot} {ws : List Wire} {kn : Knot} (h1 : IsWeave K H a ks ws) (h2 : kn ∈ ks) (h3 : (ks.map (·.nm)).Nodup) (h4 : isNm kn.nm) (k : ∀ b H', Same H H' → IsNode K H' b kn.nd → Q (.ref b) H') : sp_Weave_node K [.ref a, .str kn.nm] H Q Ex := ⟨a, ks, ws, kn, rfl, h1, h2, h3, h4, k⟩
theorem ok_Weave_node {g : Prop} {P : Program} {w : World} {K : PySem.W.Frag} {mg : Str → Option Value} {base : Heap} (E : Ev K mg) : Z.Pr g P w K mg base 3 (He.ma K (He.ga K "Weave") "node") d_Weave_node p_Weave_node (sp_Weave_node K) := by
  obtain ⟨fd, FD⟩ := E.fn 66 (d := d_Weave_node)
  refine ⟨fd, FD, Z.FunD.okG FD sc_Weave_node (fun vz H Q Ex h => ?_) (fun cdv A outer s H vz Q Ex hr hgd h => ?_)⟩
  · obtain ⟨_, _, _, _, rfl, _⟩ := h
    rfl
  · have hu := hr.units
    obtain ⟨a, ks, ws, kn, rfl, h1, h2, h3, h4, k⟩ := h
    have F_want_known := ok_want_known (g := g) (P := P) (w := w) (base := base) E
    have cl_Weave := E.cls 30
    have na_Weave_by_name := E.noat 122
    refine ⟨_, (Z.zs_cons (Z.z_expr (Z.pe_f F_want_known (hr.mono (by decide)) hgd (by rfl) (E.glo 62) bd_want_known (passL) (pa_cons (Z.pe_fldK K rfl (pv 0) rfl) (pa_cons (pv 1) pa_nil))))
   (Z.zs_one (Z.z_ret (pe_dget (Z.hu1 hu) (Z.pe_fldK K rfl (pv 0) rfl) (pv 1) (fun _ _ => rfl))))), ?_⟩
    refine Z.i_start (σ := [some (.ref a), some (.str kn.nm)]) rfl ?_
    try dsimp only [Z.cxK]
    obtain ⟨dx, p, r, d, e, vs, us, kvs, nbs, i1, i2, i3, i4, i5, i6, i7, i8, i9⟩ := h1
    obtain ⟨b, hb, hn⟩ := named_get i7 h3 kn h2
    k_call_by "za" 0
    refine W_want_known i6 (by rw [hb]; rfl) h4 fun H1 s1 => ?_
    have i1' := s1 _ _ i1
    have i6' := s1 _ _ i6
    k_call_by "za" 0
    exact k b H1 s1 (hn.kept (.of s1))
theorem W_Weave_node {K : PySem.W.Frag} {H : Hp} {Q : VK} {Ex : XK} {a : Addr} {ks : List Knot} {ws : List Wire} {kn : Knot} (h1 : IsWeave K H a ks ws) (h2 : kn ∈ ks) (h3 : (ks.map (·.nm)).Nodup) (h4 : isNm kn.nm) (k : ∀ b H', Same H H' → IsNode K H' b kn.nd → Q (.ref b) H') : sp_Weave_node K [.ref a, .str kn.nm] H Q Ex := c_Weave_node h1 h2 h3 h4 k
abbrev Ms___eq__ (K : PySem.W.Frag) : List Z.MA := [⟨He.ga K "Inlet", 2, fun _ vs _ => vs, sp_Node_u__eq K⟩, ⟨He.ga K "Outlet", 2, fun _ vs _ => vs, sp_Node_u__eq K⟩, ⟨He.ga K "Gain", 2, fun _ vs _ => vs, sp_Node_u__eq K⟩, ⟨He.ga K "Mix", 2, fun _ vs _ => vs, sp_Node_u__eq K⟩, ⟨He.ga K "Times", 2, fun _ vs _ => vs, sp_Node_u__eq K⟩, ⟨He.ga K "Choose", 2, fun _ vs _ => vs, sp_Node_u__eq K⟩, ⟨He.ga K "Own", 2, fun _ vs _ => vs, sp_Node_u__eq K⟩, ⟨He.ga K "Up", 2, fun _ vs _ => vs, sp_Node_u__eq K⟩, ⟨He.ga K "Down", 2, fun _ vs _ => vs, sp_Node_u__eq K⟩, ⟨He.ga K "Resample", 2, fun _ vs _ => vs, sp_Node_u__eq K⟩]
abbrev sorts : List Str := ["Inlet", "Outlet", "Gain", "Mix", "Times", "Choose", "Own", "Up", "Down", "Resample"]
theorem cls_in (nd : Nd) : nd.cls ∈ sorts := by cases nd <;> simp [Nd.cls]
theorem node_uniq {K : PySem.W.Frag} {mg : Str → Option Value} (E : Ev K mg) {H : Hp} {a : Addr} {nd nd' : Nd} (h : IsNode K H a nd) (h' : IsNode K H a nd') : nd = nd' := by
  obtain ⟨dx, s, e, g⟩ := h
  obtain ⟨dy, s', e', g'⟩ := h'
  rw [e] at e'
  have q := HO.ins.inj (Option.some.inj e')
  have hc : nd.cls = nd'.cls := Z.fxDist_ok ((E.own 41)) (cls_in nd) (cls_in nd') q.1
  have hf := q.2.2
  clear e e' q
  cases nd <;> cases nd' <;> first
    | exact absurd hc (by simp only [Nd.cls]; decide +kernel)
    | rfl
    | skip
  · rename_i gn l b gn' l' b'
    simp [Nd.fs] at hf
    congr 1 <;> omega
  · rename_i n n'
    simp [Nd.fs] at hf
    congr 1 <;> omega
  · rename_i ts n ts' n'
    simp only [Nd.fs, List.cons.injEq, Prod.mk.injEq, V.ref.injEq, V.int.injEq, and_true, true_and] at hf
    have h1 := g _ rfl
    have h2 := g' _ rfl
    rw [hf.1, h2] at h1
    have z : ts' = ts := nats_inj (ints_inj (HO.tup.inj (Option.some.inj h1)))
    rw [z]
    congr 1
    omega
  · rename_i n n'
    simp [Nd.fs] at hf
    congr 1 <;> omega
  · rename_i n n'
    simp [Nd.fs] at hf
    congr 1 <;> omega
  · rename_i ru rd ru' rd'
    simp [Nd.fs] at hf
    congr 1 <;> omega

theorem m_insB {K : PySem.W.Frag} {mg : Str → Option Value} (E : Ev K mg) {H : Hp} {a q : Addr} {nd' : Nd} (h2 : IsNode K H q nd') : ∀ {nd : Nd}, IsNode K H a nd → Z.InsB K E0 (Ms___eq__ K) (.ref a) (.ref q) (decide (nd = nd')) H
  | .inlet , h1 => by
    obtain ⟨dx, s, e, g⟩ := id h1
    obtain ⟨dy, s', e', g'⟩ := id h2
    exact ⟨_, a, q, dx, dy, _, _, _, List.mem_of_getElem? (i := 0) rfl, rfl, rfl, e, e', Z.fxNFs_ok (c := Nd.cls .inlet) ((E.own 40)) (cls_in _) (cls_in nd'), rfl, rfl, fun z => decide_eq_true (by subst z; exact node_uniq E h1 h2), fun H1 s1 => by
      dsimp only
      exact c_Node_u__eq (h1.kept (.of s1)) (h2.kept (.of s1)) fun H' s => ⟨rfl, s⟩⟩
  | .outlet , h1 => by
    obtain ⟨dx, s, e, g⟩ := id h1
    obtain ⟨dy, s', e', g'⟩ := id h2
    exact ⟨_, a, q, dx, dy, _, _, _, List.mem_of_getElem? (i := 1) rfl, rfl, rfl, e, e', Z.fxNFs_ok (c := Nd.cls .outlet) ((E.own 40)) (cls_in _) (cls_in nd'), rfl, rfl, fun z => decide_eq_true (by subst z; exact node_uniq E h1 h2), fun H1 s1 => by
      dsimp only
      exact c_Node_u__eq (h1.kept (.of s1)) (h2.kept (.of s1)) fun H' s => ⟨rfl, s⟩⟩
  | .gain gn l b, h1 => by
    obtain ⟨dx, s, e, g⟩ := id h1
    obtain ⟨dy, s', e', g'⟩ := id h2
    exact ⟨_, a, q, dx, dy, _, _, _, List.mem_of_getElem? (i := 2) rfl, rfl, rfl, e, e', Z.fxNFs_ok (c := Nd.cls (.gain gn l b)) ((E.own 40)) (cls_in _) (cls_in nd'), rfl, rfl, fun z => decide_eq_true (by subst z; exact node_uniq E h1 h2), fun H1 s1 => by
      dsimp only
      exact c_Node_u__eq (h1.kept (.of s1)) (h2.kept (.of s1)) fun H' s => ⟨rfl, s⟩⟩
  | .mix n, h1 => by
    obtain ⟨dx, s, e, g⟩ := id h1
    obtain ⟨dy, s', e', g'⟩ := id h2
    exact ⟨_, a, q, dx, dy, _, _, _, List.mem_of_getElem? (i := 3) rfl, rfl, rfl, e, e', Z.fxNFs_ok (c := Nd.cls (.mix n)) ((E.own 40)) (cls_in _) (cls_in nd'), rfl, rfl, fun z => decide_eq_true (by subst z; exact node_uniq E h1 h2), fun H1 s1 => by
      dsimp only
      exact c_Node_u__eq (h1.kept (.of s1)) (h2.kept (.of s1)) fun H' s => ⟨rfl, s⟩⟩
  | .times , h1 => by
    obtain ⟨dx, s, e, g⟩ := id h1
    obtain ⟨dy, s', e', g'⟩ := id h2
    exact ⟨_, a, q, dx, dy, _, _, _, List.mem_of_getElem? (i := 4) rfl, rfl, rfl, e, e', Z.fxNFs_ok (c := Nd.cls .times) ((E.own 40)) (cls_in _) (cls_in nd'), rfl, rfl, fun z => decide_eq_true (by subst z; exact node_uniq E h1 h2), fun H1 s1 => by
      dsimp only
      exact c_Node_u__eq (h1.kept (.of s1)) (h2.kept (.of s1)) fun H' s => ⟨rfl, s⟩⟩
  | .choose , h1 => by
    obtain ⟨dx, s, e, g⟩ := id h1
    obtain ⟨dy, s', e', g'⟩ := id h2
    exact ⟨_, a, q, dx, dy, _, _, _, List.mem_of_getElem? (i := 5) rfl, rfl, rfl, e, e', Z.fxNFs_ok (c := Nd.cls .choose) ((E.own 40)) (cls_in _) (cls_in nd'), rfl, rfl, fun z => decide_eq_true (by subst z; exact node_uniq E h1 h2), fun H1 s1 => by
      dsimp only
      exact c_Node_u__eq (h1.kept (.of s1)) (h2.kept (.of s1)) fun H' s => ⟨rfl, s⟩⟩
  | .own ts n, h1 => by
    obtain ⟨dx, s, e, g⟩ := id h1
    obtain ⟨dy, s', e', g'⟩ := id h2
    exact ⟨_, a, q, dx, dy, _, _, _, List.mem_of_getElem? (i := 6) rfl, rfl, rfl, e, e', Z.fxNFs_ok (c := Nd.cls (.own ts n)) ((E.own 40)) (cls_in _) (cls_in nd'), rfl, rfl, fun z => decide_eq_true (by subst z; exact node_uniq E h1 h2), fun H1 s1 => by
      dsimp only
      exact c_Node_u__eq (h1.kept (.of s1)) (h2.kept (.of s1)) fun H' s => ⟨rfl, s⟩⟩
  | .up n, h1 => by
    obtain ⟨dx, s, e, g⟩ := id h1
    obtain ⟨dy, s', e', g'⟩ := id h2
    exact ⟨_, a, q, dx, dy, _, _, _, List.mem_of_getElem? (i := 7) rfl, rfl, rfl, e, e', Z.fxNFs_ok (c := Nd.cls (.up n)) ((E.own 40)) (cls_in _) (cls_in nd'), rfl, rfl, fun z => decide_eq_true (by subst z; exact node_uniq E h1 h2), fun H1 s1 => by
      dsimp only
      exact c_Node_u__eq (h1.kept (.of s1)) (h2.kept (.of s1)) fun H' s => ⟨rfl, s⟩⟩
  | .down n, h1 => by
    obtain ⟨dx, s, e, g⟩ := id h1
    obtain ⟨dy, s', e', g'⟩ := id h2
    exact ⟨_, a, q, dx, dy, _, _, _, List.mem_of_getElem? (i := 8) rfl, rfl, rfl, e, e', Z.fxNFs_ok (c := Nd.cls (.down n)) ((E.own 40)) (cls_in _) (cls_in nd'), rfl, rfl, fun z => decide_eq_true (by subst z; exact node_uniq E h1 h2), fun H1 s1 => by
      dsimp only
      exact c_Node_u__eq (h1.kept (.of s1)) (h2.kept (.of s1)) fun H' s => ⟨rfl, s⟩⟩
  | .resample ru rd, h1 => by
    obtain ⟨dx, s, e, g⟩ := id h1
    obtain ⟨dy, s', e', g'⟩ := id h2
    exact ⟨_, a, q, dx, dy, _, _, _, List.mem_of_getElem? (i := 9) rfl, rfl, rfl, e, e', Z.fxNFs_ok (c := Nd.cls (.resample ru rd)) ((E.own 40)) (cls_in _) (cls_in nd'), rfl, rfl, fun z => decide_eq_true (by subst z; exact node_uniq E h1 h2), fun H1 s1 => by
      dsimp only
      exact c_Node_u__eq (h1.kept (.of s1)) (h2.kept (.of s1)) fun H' s => ⟨rfl, s⟩⟩

theorem knot_dec (k k' : Knot) : ((List.range (min 2 2)).all (fun i => match i with
    | 0 => decide (k.nm = k'.nm)
    | _ => decide (k.nd = k'.nd)) && decide (2 = 2)) = decide (k = k') := by
  show ((decide (k.nm = k'.nm) && (decide (k.nd = k'.nd) && true)) && true) = _
  cases k
  cases k'
  simp [Bool.decide_and]
theorem wire_dec (w w' : Wire) : ((List.range (min 4 4)).all (fun i => match i with
    | 0 => decide (w.s = w'.s)
    | 1 => decide (w.g = w'.g)
    | 2 => decide (w.p = w'.p)
    | _ => decide (w.d = w'.d)) && decide (4 = 4)) = decide (w = w') := by
  show ((decide (w.s = w'.s) && (decide (w.g = w'.g) && (decide (w.p = w'.p) && (decide (w.d = w'.d) && true)))) && true) = _
  cases w
  cases w'
  simp [Bool.decide_and]
theorem eqV_str {x y : Str} : eqV (.str x) (.str y) = decide (x = y) := by
  by_cases h : x = y
  · subst h; simp [eqV]
  · rw [decide_eq_false h]; simp [eqV, h]
theorem pair_tb {K : PySem.W.Frag} {mg : Str → Option Value} (E : Ev K mg) {H : Hp} {x y : V} {k k' : Knot} (h1 : IsPair K H x k) (h2 : IsPair K H y k') : Z.TupB (Z.OrB Z.FlatB (Z.InsB K E0 (Ms___eq__ K))) x y (decide (k = k')) H := by
  obtain ⟨r, a, rfl, hr, na⟩ := h1
  obtain ⟨r', a', rfl, hr', na'⟩ := h2
  refine ⟨r, r', _, _, _, rfl, rfl, hr, hr', fun i x y hx hy => ?_, (knot_dec k k').symm⟩
  match i, hx, hy with
  | 0, hx, hy => cases hx; cases hy; exact .inl ⟨rfl, rfl, eqV_str⟩
  | 1, hx, hy => cases hx; cases hy; exact .inr (m_insB E na' na)
  | n + 2, hx, _ => simp at hx
theorem wire_tb {K : PySem.W.Frag} {H : Hp} {x y : V} {w w' : Wire} (h1 : IsWire H x w) (h2 : IsWire H y w') : Z.TupB (Z.OrB Z.FlatB (Z.InsB K E0 (Ms___eq__ K))) x y (decide (w = w')) H := by
  obtain ⟨r, rfl, hr⟩ := h1
  obtain ⟨r', rfl, hr'⟩ := h2
  refine ⟨r, r', _, _, _, rfl, rfl, hr, hr', fun i x y hx hy => ?_, (wire_dec w w').symm⟩
  match i, hx, hy with
  | 0, hx, hy => cases hx; cases hy; exact .inl ⟨rfl, rfl, eqV_str⟩
  | 1, hx, hy => cases hx; cases hy; exact .inl ⟨rfl, rfl, eqV_str⟩
  | 2, hx, hy => cases hx; cases hy; exact .inl ⟨rfl, rfl, Z.eqV_int.trans (decide_eq_decide.mpr (by omega))⟩
  | 3, hx, hy => cases hx; cases hy; exact .inl ⟨rfl, rfl, Z.eqV_int⟩
  | n + 4, hx, _ => simp at hx
theorem dec_at {α : Type} [DecidableEq α] {xs ys : List α} {i : Nat} {x y : α} (h : xs[i]? = some x) (h' : ys[i]? = some y) : decide (xs[i]? = ys[i]?) = decide (x = y) := by
  rw [h, h']
  exact decide_eq_decide.mpr (by simp)
theorem pairs_tb {K : PySem.W.Frag} {mg : Str → Option Value} (E : Ev K mg) {H : Hp} {a c : Addr} {xs ys : List V} {ks ks' : List Knot} (h1 : H a = some (.tup xs)) (h2 : H c = some (.tup ys)) (p1 : Pairs K H xs ks) (p2 : Pairs K H ys ks') : Z.TupTB K E0 (Ms___eq__ K) (.ref a) (.ref c) (decide (ks = ks')) H := by
  refine ⟨a, c, xs, ys, fun i => decide (ks[i]? = ks'[i]?), rfl, rfl, h1, h2, fun i x y hx hy => ?_, by rw [p1.len, p2.len, all_eq]⟩
  obtain ⟨k, hk, e1⟩ := p1.get hx
  obtain ⟨k', hk', e2⟩ := p2.get hy
  dsimp only
  rw [dec_at hk hk']
  exact pair_tb E e1 e2
theorem wires_tb {K : PySem.W.Frag} {H : Hp} {a c : Addr} {xs ys : List V} {ws ws' : List Wire} (h1 : H a = some (.tup xs)) (h2 : H c = some (.tup ys)) (p1 : Wires H xs ws) (p2 : Wires H ys ws') : Z.TupTB K E0 (Ms___eq__ K) (.ref a) (.ref c) (decide (ws = ws')) H := by
  refine ⟨a, c, xs, ys, fun i => decide (ws[i]? = ws'[i]?), rfl, rfl, h1, h2, fun i x y hx hy => ?_, by rw [p1.len, p2.len, all_eq]⟩
  obtain ⟨k, hk, e1⟩ := p1.get hx
  obtain ⟨k', hk', e2⟩ := p2.get hy
  dsimp only
  rw [dec_at hk hk']
  exact wire_tb e1 e2
/-- what a weave is compared with: a weave, or a thing that is none -/
def Oth (K : PySem.W.Frag) (H : Hp) (y : V) (o : Option (List Knot × List Wire)) : Prop := match o with
  | some p => ∃ b, y = .ref b ∧ IsWeave K H b p.1 p.2
  | none => ∃ T, Z.BT H y T
def eqO (ks : List Knot) (ws : List Wire) (o : Option (List Knot × List Wire)) : Bool := match o with
  | some p => decide (ks = p.1) && decide (ws = p.2)
  | none => false
theorem Oth.same {K : PySem.W.Frag} {H H' : Hp} {y : V} {o : Option (List Knot × List Wire)} (h : Oth K H y o) (s : Same H H') : Oth K H' y o := by
  cases o with
  | none =>
    obtain ⟨T, h⟩ := h
    exact ⟨T, h.same s⟩
  | some p =>
    obtain ⟨b, e, h⟩ := h
    exact ⟨b, e, h.kept (.of s)⟩

theorem m_noweave {K : PySem.W.Frag} {mg : Str → Option Value} (E : Ev K mg) {H : Hp} {Q : VK} {x : V} {T : String} (h : Z.BT H x T) (q : Q (.bl false) H) : rIsi K [x, .ref (He.ga K "Weave")] H Q := by
  cases h with
  | non => exact Z.i_isiB (.base .non) (Z.fxKitB_ok (E.own 42)) q
  | int i => exact Z.i_isiB (.base (.int i)) (Z.fxKitB_ok (E.own 43)) q
  | bl b => exact Z.i_isiB (.base (.bl b)) (Z.fxKitB_ok (E.own 44)) q
  | str x => exact Z.i_isiB (.base (.str x)) (Z.fxKitB_ok (E.own 45)) q
  | lst h => exact Z.i_isiB (.base (.lst h)) (Z.fxKitB_ok (E.own 46)) q
  | tup h => exact Z.i_isiB (.base (.tup h)) (Z.fxKitB_ok (E.own 47)) q
  | dK h => exact Z.i_isiB (.base (.dK h)) (Z.fxKitB_ok (E.own 48)) q
def sp_Weave_u__eq (K : PySem.W.Frag) : Sp := fun vz H Q Ex => ∃ (a : Addr) (y : V) (ks : List Knot) (ws : List Wire) (o : Option (List Knot × List Wire)), vz = [.ref a, y] ∧ (IsWeave K H a ks ws) ∧ (Oth K H y o) ∧ (∀ H', Same H H' → Q (.bl (eqO ks ws o)) H')
theorem c_Weave_u__eq {K : PySem.W.Frag} {H : Hp} {Q : VK} {Ex : XK} {a : Addr} {y : V} {ks : List Knot} {ws : List Wire} {o : Option (List Knot × List Wire)} (h1 : IsWeave K H a ks ws) (h2 : Oth K H y o) (k : ∀ H', Same H H' → Q (.bl (eqO ks ws o)) H') : sp_Weave_u__eq K [.ref a, y] H Q Ex := ⟨a, y, ks, ws, o, rfl, h1, h2, k⟩
theorem ok_Weave_u__eq  {P : Program} {w : World} {K : PySem.W.Frag} {mg : Str → Option Value} {base : Heap} (E : Ev K mg) : Z.Pr True P w K mg base 8 (He.ma K (He.ga K "Weave") "__eq__") d_Weave_u__eq p_Weave_u__eq (sp_Weave_u__eq K) := by
  obtain ⟨fd, FD⟩ := E.fn 67 (d := d_Weave_u__eq)
  refine ⟨fd, FD, Z.FunD.okG FD sc_Weave_u__eq (fun vz H Q Ex h => ?_) (fun cdv A outer s H vz Q Ex hr hgd h => ?_)⟩
  · obtain ⟨_, _, _, _, _, rfl, _⟩ := h
    rfl
  · have hu := hr.units
    obtain ⟨a, y, ks, ws, o, rfl, h1, h2, k⟩ := h
    have F_Node_u__eq := ok_Node_u__eq (g := True) (P := P) (w := w) (base := base) E
    have cl_Weave := E.cls 30
    have na_Weave_pairs := E.noat 121
    have na_Weave_rows := E.noat 124
    refine ⟨_, (Z.zs_cons (Z.z_if (pt_not (pt_val (pe_callB (Z.cisiK K rfl) (by rfl) (E.free 39) (by decide +kernel) (pa_cons (pv 1) (pa_cons (pe_glob (v := .ref (He.ga K "Weave")) rfl (E.glo 72) rfl) pa_nil))))) (Z.zs_one (Z.z_ret pe_bl)) Z.zs_nil)
   (Z.zs_one (Z.z_ret (pe_and (pe_cmpR (Z.opEqTB K rfl (hr.mono (by decide)) hgd (Z.me_cons (Z.fxM_ok (E.own 95)) F_Node_u__eq bd_Node_u__eq (Z.me_cons (Z.fxM_ok (E.own 94)) F_Node_u__eq bd_Node_u__eq (Z.me_cons (Z.fxM_ok (E.own 93)) F_Node_u__eq bd_Node_u__eq (Z.me_cons (Z.fxM_ok (E.own 92)) F_Node_u__eq bd_Node_u__eq (Z.me_cons (Z.fxM_ok (E.own 91)) F_Node_u__eq bd_Node_u__eq (Z.me_cons (Z.fxM_ok (E.own 90)) F_Node_u__eq bd_Node_u__eq (Z.me_cons (Z.fxM_ok (E.own 89)) F_Node_u__eq bd_Node_u__eq (Z.me_cons (Z.fxM_ok (E.own 88)) F_Node_u__eq bd_Node_u__eq (Z.me_cons (Z.fxM_ok (E.own 87)) F_Node_u__eq bd_Node_u__eq (Z.me_cons (Z.fxM_ok (E.own 86)) F_Node_u__eq bd_Node_u__eq Z.me_nil)))))))))) passL) (Z.pe_fldK K rfl (pv 0) rfl) (Z.pe_fldK K rfl (pv 1) rfl) (nomark _)) (pe_one (pe_cmpR (Z.opEqTB K rfl (hr.mono (by decide)) hgd (Z.me_cons (Z.fxM_ok (E.own 95)) F_Node_u__eq bd_Node_u__eq (Z.me_cons (Z.fxM_ok (E.own 94)) F_Node_u__eq bd_Node_u__eq (Z.me_cons (Z.fxM_ok (E.own 93)) F_Node_u__eq bd_Node_u__eq (Z.me_cons (Z.fxM_ok (E.own 92)) F_Node_u__eq bd_Node_u__eq (Z.me_cons (Z.fxM_ok (E.own 91)) F_Node_u__eq bd_Node_u__eq (Z.me_cons (Z.fxM_ok (E.own 90)) F_Node_u__eq bd_Node_u__eq (Z.me_cons (Z.fxM_ok (E.own 89)) F_Node_u__eq bd_Node_u__eq (Z.me_cons (Z.fxM_ok (E.own 88)) F_Node_u__eq bd_Node_u__eq (Z.me_cons (Z.fxM_ok (E.own 87)) F_Node_u__eq bd_Node_u__eq (Z.me_cons (Z.fxM_ok (E.own 86)) F_Node_u__eq bd_Node_u__eq Z.me_nil)))))))))) passL) (Z.pe_fldK K rfl (pv 0) rfl) (Z.pe_fldK K rfl (pv 1) rfl) (nomark _))))))), ?_⟩
    refine Z.i_start (σ := [some (.ref a), some (y)]) rfl ?_
    try dsimp only [Z.cxK]
    obtain ⟨dx, p, r, d, e, vs, us, kvs, nbs, i1, i2, i3, i4, i5, i6, i7, i8, i9⟩ := id h1
    cases o with
    | none =>
      obtain ⟨T, bt⟩ := h2
      k_call_by "za" 0
      refine m_noweave E bt ?_
      k_call_by "za" 0
      exact k H (Same.refl _)
    | some pr =>
      obtain ⟨b, rfl, h2⟩ := h2
      obtain ⟨dx', p', r', d', e', vs', us', kvs', nbs', j1, j2, j3, j4, j5, j6, j7, j8, j9⟩ := id h2
      k_call_by "za" 0
      refine Z.i_isiC j1 (E.cls 30) (Z.fxIns_ok (E.own 49)) (Z.fxKit_ok (E.own 50)) ?_
      k_call_by "za" 0
      refine ⟨_, pairs_tb E i2 j2 i3 j3, fun H1 s1 => ?_⟩
      have i1' := s1 _ _ i1
      have j1' := s1 _ _ j1
      k_call_by "za" 0
      have k : ∀ H', Same H H' → Q (.bl (decide (ks = pr.1) && decide (ws = pr.2))) H' := k
      refine Z.ite2' (fun hk => ?_) (fun hk => ?_)
      · k_call_by "za" 0
        refine ⟨_, wires_tb (s1 _ _ i4) (s1 _ _ j4) (wires_kept i5 (.of s1)) (wires_kept j5 (.of s1)), fun H2 s2 => ?_⟩
        k_call_by "za" 0
        have q := k H2 (s1.trans s2)
        rw [decide_eq_true hk, Bool.true_and] at q
        exact q
      · have q := k H1 s1
        rw [decide_eq_false hk, Bool.false_and] at q
        exact q

theorem s_mt : (("mix" : Str) = "times") = False := by simp; decide +kernel
theorem s_mc : (("mix" : Str) = "choose") = False := by simp; decide +kernel
theorem s_tc : (("times" : Str) = "choose") = False := by simp; decide +kernel
theorem disp_mix {x y z : V} : mergeK [] [(Sum.inr ("mix" : Str), x), (.inr "times", y), (.inr "choose", z)] = [((.inr "mix" : Key), x), (.inr "times", y), (.inr "choose", z)] := by
  simp [mergeK, putK, s_mt, s_mc, s_tc]
theorem get_mix {x y z : V} : valV [((.inr "mix" : Key), x), (.inr "times", y), (.inr "choose", z)] (.inr "mix") = some x := by simp [valV]
theorem get_times {x y z : V} : valV [((.inr "mix" : Key), x), (.inr "times", y), (.inr "choose", z)] (.inr "times") = some y := by simp [valV, s_mt]
theorem get_choose {x y z : V} : valV [((.inr "mix" : Key), x), (.inr "times", y), (.inr "choose", z)] (.inr "choose") = some z := by simp [valV, s_mc, s_tc]


/-- a knot as the law draws it -/
def IsKnot (H : Hp) (v : V) (k : Knot) : Prop := ∃ r x, v = .ref r ∧ H r = some (.tup [.str k.nm, x]) ∧ IsSpec H x k.nd
theorem IsKnot.kept {H H' : Hp} {v : V} {k : Knot} (h : IsKnot H v k) (f : Kept H H') : IsKnot H' v k := by
  obtain ⟨r, x, e, h, g⟩ := h
  exact ⟨r, x, e, f.t _ _ h, g.kept f⟩
abbrev Knots (H : Hp) := Z.All2 (IsKnot H)
theorem knots_kept {H H' : Hp} {vs : List V} {ks : List Knot} (h : Knots H vs ks) (f : Kept H H') : Knots H' vs ks := h.mono fun _ _ x => x.kept f
def Nd.head : Nd → Str
  | .inlet => "inlet" | .outlet => "outlet" | .gain _ _ _ => "gain" | .mix _ => "mix" | .times => "times" | .choose => "choose" | .own _ _ => "own" | .up _ => "up" | .down _ => "down" | .resample _ _ => "resample"
theorem spec_head (nd : Nd) (s : Addr) : ∃ r, nd.spec s = .str nd.head :: r := by cases nd <;> exact ⟨_, rfl⟩
theorem head_out (nd : Nd) : (nd.head = ("outlet" : Str)) ↔ nd.isOut = true := by
  cases nd <;> simp [Nd.head, Nd.isOut] <;> decide +kernel
theorem head_in (nd : Nd) : (nd.head = ("inlet" : Str)) ↔ nd.isIn = true := by
  cases nd <;> simp [Nd.head, Nd.isIn] <;> decide +kernel


/-- the law's own gains are of one figure -/
def Nd.small : Nd → Prop
  | .gain gn _ _ => gn ≤ 9
  | _ => True

def sp_l_sources (K : PySem.W.Frag) : Sp := fun vz H Q Ex => ∃ (p : Addr) (vs : List V) (ks : List Knot), vz = [.ref p] ∧ (H p = some (.lst vs)) ∧ (Knots H vs ks) ∧ (ks.length ≤ 1000) ∧ (∀ q H', H q = none → Same H H' → H' q = some (.lst (((ks.filter fun k => !k.nd.isOut).map (·.nm)).map V.str)) → Q (.ref q) H')
theorem c_l_sources {K : PySem.W.Frag} {H : Hp} {Q : VK} {Ex : XK} {p : Addr} {vs : List V} {ks : List Knot} (h1 : H p = some (.lst vs)) (h2 : Knots H vs ks) (h3 : ks.length ≤ 1000) (k : ∀ q H', H q = none → Same H H' → H' q = some (.lst (((ks.filter fun k => !k.nd.isOut).map (·.nm)).map V.str)) → Q (.ref q) H') : sp_l_sources K [.ref p] H Q Ex := ⟨p, vs, ks, rfl, h1, h2, h3, k⟩
theorem ok_l_sources {g : Prop} {P : Program} {w : World} {K : PySem.W.Frag} {mg : Str → Option Value} {base : Heap} (E : Ev K mg) : Z.Pr g P w K mg base 1 (He.ga K "_law_sources") d_l_sources p_l_sources (sp_l_sources K) := by
  obtain ⟨fd, FD⟩ := E.fn 68 (d := d_l_sources)
  refine ⟨fd, FD, Z.FunD.okG FD sc_l_sources (fun vz H Q Ex h => ?_) (fun cdv A outer s H vz Q Ex hr hgd h => ?_)⟩
  · obtain ⟨_, _, _, rfl, _⟩ := h
    rfl
  · have hu := hr.units
    obtain ⟨p, vs, ks, rfl, h1, h2, h3, k⟩ := h
    refine ⟨_, (Z.zs_one (Z.z_ret (pe_lc (own := [("_law_tag", 2), ("_law_spec_here", 1)]) (g := gTup K 2 (gCons (gName 2) (gCons (gName 1) gNil))) rfl sc_l_sources.nd (Z.pi_seqK K rfl (pv 0)) (blkOk_by (own := [("_law_tag", 2), ("_law_spec_here", 1)]) (N := n_l_sources) (sc := (defScope s_l_sources)) (by decide +kernel)) (fun _ _ _ _ _ => (pg_tup (n := 2) (by rfl) (pgs_cons (pg_name (i := 2) sc_l_sources.nd rfl (Or.inl rfl)) (pgs_cons (pg_name (i := 1) sc_l_sources.nd rfl (Or.inl rfl)) pgs_nil)))) (fun _ _ _ _ _ => pts_one (pt_cmpR (Z.opNeK K rfl hu) (pe_ix (Z.ixUK K rfl) (pv 1) pe_int (fun _ _ => rfl)) pe_str (nomark _))) (fun _ _ _ _ _ => (pv 2))))), ?_⟩
    refine Z.i_start (σ := [some (.ref p), none, none]) rfl ?_
    try dsimp only [Z.cxK]
    k_call_by "za" 0
    refine Z.comp_list (xs := vs) (fun i acc H' => acc = (((ks.take i).filter fun k => !k.nd.isOut).map (·.nm)).map V.str ∧ Same H H') ?_ ?_ ?_ ?_
    · intro D H' n'
      exact ⟨rfl, n'.same⟩
    · rintro i acc H' hi ⟨_, s⟩
      exact SqL.of (s _ _ h1)
    · rintro D i acc x H2 fD hx hD ⟨rfl, s2⟩
      obtain ⟨kn, hk, r, y, rfl, hr, r', s, rfl, hr', hs⟩ := h2.get hx
      have li := (List.getElem?_eq_some_iff.mp hk).1
      refine Z.i_tupT (s2 _ _ hr) rfl ?_
      have tk : ks.take (i + 1) = ks.take i ++ [kn] := take_snoc hk
      obtain ⟨rr, er⟩ := spec_head kn.nd s
      k_call_by "za" 0
      refine Z.i_ixT (s2 _ _ hr') (v := .str kn.nd.head) (by rw [er]; exact atI_nat (j := 0) rfl) ?_
      k_call_by "za" 0
      refine Z.iten' (fun hz => ?_) (fun hz => ?_)
      · have ho : kn.nd.isOut = false := by
          cases e : kn.nd.isOut with
          | false => rfl
          | true => exact absurd ((head_out kn.nd).mpr e) hz
        k_call_by "za" 0
        refine Z.i_end hD (by
          simp only [List.length_map, sizeLine_eq]
          refine Nat.lt_of_le_of_lt (List.length_filter_le _ _) ?_; rw [List.length_take]; omega) fun H3 u3 => ⟨?_, by k_call_by "fr" 0⟩
        rw [tk, List.filter_append, List.map_append, List.map_append, filt1 (p := fun k : Knot => !k.nd.isOut) (by simp [ho])]; rfl
      · have ho := (head_out kn.nd).mp hz
        refine Z.i_skip hD ⟨?_, s2⟩
        rw [tk, List.filter_append, filt0 (p := fun k : Knot => !k.nd.isOut) (by simp [ho])]; simp
    · rintro D acc H2 fD hD ⟨rfl, s2⟩
      rw [h2.len, List.take_length] at hD
      exact k D H2 fD s2 hD
def sp_l_spec (K : PySem.W.Frag) : Sp := fun vz H Q Ex => ∃ (a : Addr), vz = [.ref a] ∧ (Pot H a) ∧ (∀ v nd H', nd.wf ∧ nd.small → nd.isIn = false → IsSpec H' v nd → Pot H' a → Z.But a H H' → Q v H')
theorem c_l_spec {K : PySem.W.Frag} {H : Hp} {Q : VK} {Ex : XK} {a : Addr} (h1 : Pot H a) (k : ∀ v nd H', nd.wf ∧ nd.small → nd.isIn = false → IsSpec H' v nd → Pot H' a → Z.But a H H' → Q v H') : sp_l_spec K [.ref a] H Q Ex := ⟨a, rfl, h1, k⟩
theorem ok_l_spec {g : Prop} {P : Program} {w : World} {K : PySem.W.Frag} {mg : Str → Option Value} {base : Heap} (E : Ev K mg) : Z.Pr g P w K mg base 2 (He.ga K "_law_spec") d_l_spec p_l_spec (sp_l_spec K) := by
  obtain ⟨fd, FD⟩ := E.fn 69 (d := d_l_spec)
  refine ⟨fd, FD, Z.FunD.okG FD sc_l_spec (fun vz H Q Ex h => ?_) (fun cdv A outer s H vz Q Ex hr hgd h => ?_)⟩
  · obtain ⟨_, rfl, _⟩ := h
    rfl
  · have hu := hr.units
    obtain ⟨a, rfl, h1, k⟩ := h
    have F_l_take := ok_l_take (g := g) (P := P) (w := w) (base := base) E
    refine ⟨_, (Z.zs_cons (Z.z_set (i := 1) sc_l_spec.nd rfl (Or.inl rfl) (Z.pe_f F_l_take (hr.mono (by decide)) hgd (by rfl) (E.glo 34) bd_l_take (passL) (pa_cons (pv 0) (pa_cons pe_int pa_nil))))
   (Z.zs_cons (Z.z_par (i := 2) (j := 3) rfl sc_l_spec.nd rfl rfl (by decide) rfl rfl (pa_cons (pe_op (Z.opAddK K rfl) pe_int (Z.pe_f F_l_take (hr.mono (by decide)) hgd (by rfl) (E.glo 34) bd_l_take (passL) (pa_cons (pv 0) (pa_cons pe_int pa_nil)))) (pa_cons (pe_op (Z.opAddK K rfl) pe_int (Z.pe_f F_l_take (hr.mono (by decide)) hgd (by rfl) (E.glo 34) bd_l_take (passL) (pa_cons (pv 0) (pa_cons pe_int pa_nil)))) pa_nil)) (by rfl))
   (Z.zs_cons (Z.z_if (pt_cmpR (Z.opEqK K rfl hu) (pv 1) pe_int (nomark _)) (Z.zs_one (Z.z_ret (pe_tup (pa_cons pe_str (pa_cons (pe_op op_sub (Z.pe_f F_l_take (hr.mono (by decide)) hgd (by rfl) (E.glo 34) bd_l_take (passL) (pa_cons (pv 0) (pa_cons pe_int pa_nil))) pe_int) (pa_cons (Z.pe_f F_l_take (hr.mono (by decide)) hgd (by rfl) (E.glo 34) bd_l_take (passL) (pa_cons (pv 0) (pa_cons pe_int pa_nil))) (pa_cons (Z.pe_f F_l_take (hr.mono (by decide)) hgd (by rfl) (E.glo 34) bd_l_take (passL) (pa_cons (pv 0) (pa_cons pe_int pa_nil))) pa_nil))))))) Z.zs_nil)
   (Z.zs_cons (Z.z_if (pt_cmpR (Z.opEqK K rfl hu) (pv 1) pe_int (nomark _)) (Z.zs_one (Z.z_ret (pe_tup (pa_cons pe_str (pa_cons (pv 2) pa_nil))))) Z.zs_nil)
   (Z.zs_cons (Z.z_if (pt_cmpR op_lt (pv 1) pe_int (nomark _)) (Z.zs_one (Z.z_ret (pe_ix (Z.ixUK K rfl) (pe_lst (pa_cons (pe_tup (pa_cons pe_str pa_nil)) (pa_cons (pe_tup (pa_cons pe_str pa_nil)) pa_nil))) (pe_op op_sub (pv 1) pe_int) (fun _ _ => rfl)))) Z.zs_nil)
   (Z.zs_cons (Z.z_if (pt_cmpR op_lt (pv 1) pe_int (nomark _)) (Z.zs_one (Z.z_ret (pe_ix (Z.ixUK K rfl) (pe_lst (pa_cons (pe_tup (pa_cons pe_str (pa_cons (pv 2) pa_nil))) (pa_cons (pe_tup (pa_cons pe_str (pa_cons (pv 2) pa_nil))) pa_nil))) (pe_op op_sub (pv 1) pe_int) (fun _ _ => rfl)))) Z.zs_nil)
   (Z.zs_cons (Z.z_if (pt_cmpR (Z.opEqK K rfl hu) (pv 1) pe_int (nomark _)) (Z.zs_one (Z.z_ret (pe_tup (pa_cons pe_str (pa_cons (pv 2) (pa_cons (pv 3) pa_nil)))))) Z.zs_nil)
   (Z.zs_cons (Z.z_if (pt_cmpR (Z.opEqK K rfl hu) (pv 1) pe_int (nomark _)) (Z.zs_one (Z.z_ret (pe_tup (pa_cons pe_str (pa_cons (pe_callTy (Z.ctupleK K rfl) (by rfl) (E.free 51) (by decide +kernel) (pa_cons (pe_lc (own := [("_law_k", 4)]) (g := gName 4) rfl sc_l_spec.nd (pi_range1 (by rfl) (E.free 41) (pa_cons (pe_op (Z.opAddK K rfl) pe_int (Z.pe_f F_l_take (hr.mono (by decide)) hgd (by rfl) (E.glo 34) bd_l_take (passL) (pa_cons (pv 0) (pa_cons pe_int pa_nil)))) pa_nil)) (blkOk_by (own := [("_law_k", 4)]) (N := n_l_spec) (sc := (defScope s_l_spec)) (by decide +kernel)) (fun _ _ _ _ _ => (pg_name (i := 4) sc_l_spec.nd rfl (Or.inl rfl))) (fun _ _ _ _ _ => pts_nil) (fun _ _ _ _ _ => (pe_op (Z.opAddK K rfl) pe_int (Z.pe_f F_l_take (hr.mono (by decide)) hgd (by rfl) (E.glo 34) bd_l_take (passL) (pa_cons (pv 0) (pa_cons pe_int pa_nil)))))) pa_nil)) (pa_cons (pv 2) pa_nil)))))) Z.zs_nil)
   (Z.zs_one (Z.z_ret (pe_tup (pa_cons pe_str pa_nil)))))))))))), ?_⟩
    refine Z.i_start (σ := [some (.ref a), none, none, none, none]) rfl ?_
    try dsimp only [Z.cxK]
    k_call_by "za" 0
    refine c_l_take h1 (by decide) (by decide) fun way H1 w0 w1 p1 b1 => ?_
    k_call_by "za" 0
    refine c_l_take p1 (by decide) (by decide) fun one H2 o0 o1 p2 b2 => ?_
    k_call_by "za" 0
    refine c_l_take p2 (by decide) (by decide) fun oth H3 t0 t1 p3 b3 => ?_
    have b03 := (b1.trans b2).trans b3
    obtain ⟨n1, rfl⟩ : ∃ n : Nat, one = n := ⟨one.toNat, by omega⟩
    obtain ⟨n2, rfl⟩ : ∃ n : Nat, oth = n := ⟨oth.toNat, by omega⟩
    have c1 : (1 : Int) + (n1 : Int) = ((n1 + 1 : Nat) : Int) := by omega
    have c2 : (1 : Int) + (n2 : Int) = ((n2 + 1 : Nat) : Int) := by omega
    k_call_by "za" 0
    refine Z.ite2' (fun hw => ?_) (fun hw0 => ?_)
    · k_call_by "za" 0
      refine c_l_take p3 (by decide) (by decide) fun g H4 g0 g1 p4 b4 => ?_
      k_call_by "za" 0
      refine c_l_take p4 (by decide) (by decide) fun l H5 l0 l1 p5 b5 => ?_
      k_call_by "za" 0
      refine c_l_take p5 (by decide) (by decide) fun b H6 b0 b1' p6 b6 => ?_
      obtain ⟨l, rfl⟩ : ∃ n : Nat, l = n := ⟨l.toNat, by omega⟩
      obtain ⟨b, rfl⟩ : ∃ n : Nat, b = n := ⟨b.toNat, by omega⟩
      k_call_by "za" 0
      rename_i r H7 n7
      exact k _ (.gain (g - 9) l b) H7 ⟨⟨by omega, by omega, by omega⟩, by show g - 9 ≤ 9; omega⟩ rfl ⟨r, r, rfl, n7.at, fun _ e => nomatch e⟩ (p6.mono n7.same) ((((b03.trans b4).trans b5).trans b6).new n7)
    k_call_by "za" 0
    refine Z.ite2' (fun hw => ?_) (fun hw1 => ?_)
    · k_call_by "za" 0
      rename_i r H4 n4
      rw [c1] at n4
      exact k _ (.mix (n1 + 1)) H4 ⟨⟨by omega, by omega⟩, trivial⟩ rfl ⟨r, r, rfl, n4.at, fun _ e => nomatch e⟩ (p3.mono n4.same) (b03.new n4)
    k_call_by "za" 0
    refine Z.ite2' (fun hw => ?_) (fun hwL => ?_)
    · k_call_by "za" 0
      rename_i ta H4 n4 tb H5 n5 tl H6 n6
      obtain rfl | rfl : way = 2 ∨ way = 3 := by omega
      · refine Z.i_ixL n6.at (v := .ref ta) (atI_nat (j := 0) rfl) ?_
        exact k _ .times H6 ⟨trivial, trivial⟩ rfl ⟨ta, ta, rfl, by rw [n6.get (n5.get n4.at)]; rfl, fun _ e => nomatch e⟩ (((p3.mono n4.same).mono n5.same).mono n6.same) (((b03.new n4).new n5).new n6)
      · refine Z.i_ixL n6.at (v := .ref tb) (atI_nat (j := 1) rfl) ?_
        exact k _ .choose H6 ⟨trivial, trivial⟩ rfl ⟨tb, tb, rfl, by rw [n6.get n5.at]; rfl, fun _ e => nomatch e⟩ (((p3.mono n4.same).mono n5.same).mono n6.same) (((b03.new n4).new n5).new n6)
    k_call_by "za" 0
    refine Z.ite2' (fun hw => ?_) (fun hwL => ?_)
    · k_call_by "za" 0
      rename_i ta H4 n4 tb H5 n5 tl H6 n6
      obtain rfl | rfl : way = 4 ∨ way = 5 := by omega
      · refine Z.i_ixL n6.at (v := .ref ta) (atI_nat (j := 0) rfl) ?_
        exact k _ (.up (n1 + 1)) H6 ⟨⟨by omega, by omega⟩, trivial⟩ rfl ⟨ta, ta, rfl, by rw [n6.get (n5.get n4.at), c1]; rfl, fun _ e => nomatch e⟩ (((p3.mono n4.same).mono n5.same).mono n6.same) (((b03.new n4).new n5).new n6)
      · refine Z.i_ixL n6.at (v := .ref tb) (atI_nat (j := 1) rfl) ?_
        exact k _ (.down (n1 + 1)) H6 ⟨⟨by omega, by omega⟩, trivial⟩ rfl ⟨tb, tb, rfl, by rw [n6.get n5.at, c1]; rfl, fun _ e => nomatch e⟩ (((p3.mono n4.same).mono n5.same).mono n6.same) (((b03.new n4).new n5).new n6)
    k_call_by "za" 0
    refine Z.ite2' (fun hw => ?_) (fun hw6 => ?_)
    · k_call_by "za" 0
      rename_i r H4 n4
      rw [c1, c2] at n4
      exact k _ (.resample (n1 + 1) (n2 + 1)) H4 ⟨⟨⟨by omega, by omega⟩, by omega, by omega⟩, trivial⟩ rfl ⟨r, r, rfl, n4.at, fun _ e => nomatch e⟩ (p3.mono n4.same) (b03.new n4)
    k_call_by "za" 0
    refine Z.ite2' (fun hw => ?_) (fun hw7 => ?_)
    · k_call_by "za" 0
      refine c_l_take p3 (by decide) (by decide) fun m H4 m0 m1 p4 b4 => ?_
      obtain ⟨m, rfl⟩ : ∃ n : Nat, m = n := ⟨m.toNat, by omega⟩
      k_call_by "za" 0
      rw [show (1 : Int) + (m : Int) = ((m + 1 : Nat) : Int) by omega]
      refine Z.i_rng1N (n := m + 1) (by omega) ?_
      refine Z.comp_range0 (fun i acc H' => ∃ ts : List Nat, acc = (nats ts).map V.int ∧ ts.length = i ∧ (∀ t ∈ ts, 1 ≤ t ∧ t ≤ 8) ∧ Pot H' a ∧ Z.But a H4 H') ?_ ?_ ?_
      · intro D H' n'
        exact ⟨[], rfl, rfl, (fun t ht => by cases ht), p4.mono n'.same, .ofSame n'.same⟩
      · rintro D i acc H5 fD hi hD ⟨ts, rfl, hl, ht, p5, b5⟩
        have nD := p4.ne fD
        k_call_by "za" 0
        refine c_l_take p5 (by decide) (by decide) fun r H6 r0 r1 p6 b6 => ?_
        obtain ⟨r, rfl⟩ : ∃ n : Nat, r = n := ⟨r.toNat, by omega⟩
        k_call_by "za" 0
        refine Z.i_end (b6.get nD hD) (by unfold nats; rw [List.length_map, List.length_map, sizeLine_eq]; omega) fun H7 u7 => ⟨ts ++ [r + 1], ?_, by rw [List.length_append, hl]; rfl, ?_, p6.up u7 nD.symm, Z.fb_upn u7 (b5.trans b6) fD⟩
        · unfold nats
          rw [List.map_append, List.map_append]
          show _ ++ [V.int (1 + (r : Int))] = _ ++ [V.int ((r + 1 : Nat) : Int)]
          rw [show (1 : Int) + (r : Int) = ((r + 1 : Nat) : Int) by omega]
        · intro t ht'
          rcases List.mem_append.mp ht' with z | z
          · exact ht t z
          · rw [List.mem_singleton.mp z]; omega
      · rintro D acc H5 fD hD ⟨ts, rfl, hl, ht, p5, b5⟩
        k_call_by "za" 0
        rename_i tt H6 n6 r H7 n7
        rw [c1] at n7
        exact k _ (.own ts (n1 + 1)) H7 ⟨⟨⟨by omega, by omega⟩, ht, by omega, by omega⟩, trivial⟩ rfl ⟨r, tt, rfl, n7.at, fun ns e => by cases e; exact n7.get n6.at⟩ ((p5.mono n6.same).mono n7.same) ((((b03.trans b4).trans b5).new n6).new n7)
    k_call_by "za" 0
    rename_i r H4 n4
    exact k _ .outlet H4 ⟨trivial, trivial⟩ rfl ⟨r, r, rfl, n4.at, fun _ e => nomatch e⟩ (p3.mono n4.same) (b03.new n4)
def sp_l_takes (K : PySem.W.Frag) : Sp := fun vz H Q Ex => ∃ (r s : Addr) (nd : Nd), vz = [.ref r] ∧ (H r = some (.tup (nd.spec s))) ∧ (∀ ns, SpecExt nd = some ns → H s = some (.tup (ns.map V.int))) ∧ (nd.wf) ∧ (∀ t H', Same H H' → H' t = some (.tup (nd.tk.map V.int)) → Q (.ref t) H')
theorem c_l_takes {K : PySem.W.Frag} {H : Hp} {Q : VK} {Ex : XK} {r s : Addr} {nd : Nd} (h1 : H r = some (.tup (nd.spec s))) (h2 : ∀ ns, SpecExt nd = some ns → H s = some (.tup (ns.map V.int))) (h3 : nd.wf) (k : ∀ t H', Same H H' → H' t = some (.tup (nd.tk.map V.int)) → Q (.ref t) H') : sp_l_takes K [.ref r] H Q Ex := ⟨r, s, nd, rfl, h1, h2, h3, k⟩
theorem ok_l_takes {g : Prop} {P : Program} {w : World} {K : PySem.W.Frag} {mg : Str → Option Value} {base : Heap} (E : Ev K mg) : Z.Pr g P w K mg base 1 (He.ga K "_law_takes") d_l_takes p_l_takes (sp_l_takes K) := by
  obtain ⟨fd, FD⟩ := E.fn 70 (d := d_l_takes)
  refine ⟨fd, FD, Z.FunD.okG FD sc_l_takes (fun vz H Q Ex h => ?_) (fun cdv A outer s H vz Q Ex hr hgd h => ?_)⟩
  · obtain ⟨_, _, _, rfl, _⟩ := h
    rfl
  · have hu := hr.units
    obtain ⟨r, s, nd, rfl, h1, h2, h3, k⟩ := h
    refine ⟨_, (Z.zs_cons (Z.z_if (pt_cmpR (Z.opIn K rfl hr) (pe_ix (Z.ixUK K rfl) (pv 0) pe_int (fun _ _ => rfl)) (pe_tup (pa_cons pe_str (pa_cons pe_str (pa_cons pe_str pa_nil)))) rfl) (Z.zs_one (Z.z_ret (pe_op (Z.opMulK K rfl) (pe_tup (pa_cons pe_int pa_nil)) (pe_dget (Z.hu1 hu) (pe_disp (pps_cons pe_str (pe_ix (Z.ixUK K rfl) (pv 0) (pe_un un_neg pe_int) (fun _ _ => rfl)) (pps_cons pe_str pe_int (pps_cons pe_str pe_int pps_nil))) (by rfl) (by rfl) (by simp) (by decide)) (pe_ix (Z.ixUK K rfl) (pv 0) pe_int (fun _ _ => rfl)) (fun _ _ => rfl))))) Z.zs_nil)
   (Z.zs_cons (Z.z_if (pt_cmpR (Z.opIn K rfl hr) (pe_ix (Z.ixUK K rfl) (pv 0) pe_int (fun _ _ => rfl)) (pe_tup (pa_cons pe_str (pa_cons pe_str pa_nil))) rfl) (Z.zs_one (Z.z_ret (pe_tup (pa_cons (pe_ix (Z.ixUK K rfl) (pv 0) (pe_un un_neg pe_int) (fun _ _ => rfl)) pa_nil)))) Z.zs_nil)
   (Z.zs_cons (Z.z_if (pt_cmpR (Z.opIn K rfl hr) (pe_ix (Z.ixUK K rfl) (pv 0) pe_int (fun _ _ => rfl)) (pe_tup (pa_cons pe_str (pa_cons pe_str pa_nil))) rfl) (Z.zs_one (Z.z_ret (pe_ifExp (pt_cmpR (Z.opEqK K rfl hu) (pe_ix (Z.ixUK K rfl) (pv 0) pe_int (fun _ _ => rfl)) pe_str (nomark _)) (pe_ix (Z.ixUK K rfl) (pv 0) pe_int (fun _ _ => rfl)) (pe_tup pa_nil)))) Z.zs_nil)
   (Z.zs_one (Z.z_ret (pe_tup (pa_cons pe_int pa_nil))))))), ?_⟩
    refine Z.i_start (σ := [some (.ref r)]) rfl ?_
    try dsimp only [Z.cxK]
    cases nd with
    | inlet  =>
      have h1 : H r = some (.tup (Nd.spec s .inlet)) := h1
      dsimp only [Nd.spec] at h1
      k_call_by "za" 0
      rename_i tq Hq nq
      refine Z.i_inT ["mix", "times", "choose"] nq.at ?_
      rw [show decide (("inlet" : Str) ∈ (["mix", "times", "choose"] : List Str)) = false by decide +kernel]
      k_call_by "za" 0
      rename_i tq Hq nq
      refine Z.i_inT ["down", "resample"] nq.at ?_
      rw [show decide (("inlet" : Str) ∈ (["down", "resample"] : List Str)) = false by decide +kernel]
      k_call_by "za" 0
      rename_i tq Hq nq
      refine Z.i_inT ["own", "inlet"] nq.at ?_
      rw [show decide (("inlet" : Str) ∈ (["own", "inlet"] : List Str)) = true by decide +kernel]
      k_call_by "za" 0
      refine Z.ifF (by decide +kernel) ?_
      k_call_by "za" 0
      rename_i t1 H1 n1
      exact k t1 H1 (by k_call_by "fr" 0) n1.at
    | outlet  =>
      have h1 : H r = some (.tup (Nd.spec s .outlet)) := h1
      dsimp only [Nd.spec] at h1
      k_call_by "za" 0
      rename_i tq Hq nq
      refine Z.i_inT ["mix", "times", "choose"] nq.at ?_
      rw [show decide (("outlet" : Str) ∈ (["mix", "times", "choose"] : List Str)) = false by decide +kernel]
      k_call_by "za" 0
      rename_i tq Hq nq
      refine Z.i_inT ["down", "resample"] nq.at ?_
      rw [show decide (("outlet" : Str) ∈ (["down", "resample"] : List Str)) = false by decide +kernel]
      k_call_by "za" 0
      rename_i tq Hq nq
      refine Z.i_inT ["own", "inlet"] nq.at ?_
      rw [show decide (("outlet" : Str) ∈ (["own", "inlet"] : List Str)) = false by decide +kernel]
      k_call_by "za" 0
      rename_i t1 H1 n1
      exact k t1 H1 (by k_call_by "fr" 0) n1.at
    | gain gn l b =>
      have h1 : H r = some (.tup (Nd.spec s (.gain gn l b))) := h1
      dsimp only [Nd.spec] at h1
      k_call_by "za" 0
      rename_i tq Hq nq
      refine Z.i_inT ["mix", "times", "choose"] nq.at ?_
      rw [show decide (("gain" : Str) ∈ (["mix", "times", "choose"] : List Str)) = false by decide +kernel]
      k_call_by "za" 0
      rename_i tq Hq nq
      refine Z.i_inT ["down", "resample"] nq.at ?_
      rw [show decide (("gain" : Str) ∈ (["down", "resample"] : List Str)) = false by decide +kernel]
      k_call_by "za" 0
      rename_i tq Hq nq
      refine Z.i_inT ["own", "inlet"] nq.at ?_
      rw [show decide (("gain" : Str) ∈ (["own", "inlet"] : List Str)) = false by decide +kernel]
      k_call_by "za" 0
      rename_i t1 H1 n1
      exact k t1 H1 (by k_call_by "fr" 0) n1.at
    | mix n =>
      have h1 : H r = some (.tup (Nd.spec s (.mix n))) := h1
      dsimp only [Nd.spec] at h1
      k_call_by "za" 0
      rename_i tq Hq nq
      refine Z.i_inT ["mix", "times", "choose"] nq.at ?_
      rw [show decide (("mix" : Str) ∈ (["mix", "times", "choose"] : List Str)) = true by decide +kernel]
      k_call_by "za" 0
      rename_i t1 H1 n1
      refine Z.i_disp fun p H2 n2 => ?_
      k_call_by "za" 0
      refine ⟨n2.at, [(.inr "mix", .int (n : Nat)), (.inr "times", .int 2), (.inr "choose", .int 3)], rfl, Nat.le_of_ble_eq_true rfl, fun H3 u3 => ?_⟩
      rw [disp_mix] at u3
      k_call_by "za" 0
      dsimp only
      have s3 : Same H1 H3 := Z.Same.up n2.same u3 n2.fr
      refine Z.i_mulTI (a := .int 1) (s3 _ _ n1.at) (by have := h3.2; omega) fun r' H4 s4 e4 => ?_
      refine k r' H4 (((nq.same.trans n1.same).trans s3).trans s4) ?_
      rw [e4]
      unfold Nd.tk Nd.takes nats
      simp
    | times  =>
      have h1 : H r = some (.tup (Nd.spec s .times)) := h1
      dsimp only [Nd.spec] at h1
      k_call_by "za" 0
      rename_i tq Hq nq
      refine Z.i_inT ["mix", "times", "choose"] nq.at ?_
      rw [show decide (("times" : Str) ∈ (["mix", "times", "choose"] : List Str)) = true by decide +kernel]
      k_call_by "za" 0
      rename_i t1 H1 n1
      refine Z.i_disp fun p H2 n2 => ?_
      k_call_by "za" 0
      refine ⟨n2.at, [(.inr "mix", .str "times"), (.inr "times", .int 2), (.inr "choose", .int 3)], rfl, Nat.le_of_ble_eq_true rfl, fun H3 u3 => ?_⟩
      rw [disp_mix] at u3
      k_call_by "za" 0
      dsimp only
      have s3 : Same H1 H3 := Z.Same.up n2.same u3 n2.fr
      refine Z.i_mulTI (a := .int 1) (s3 _ _ n1.at) (by decide) fun r' H4 s4 e4 => ?_
      refine k r' H4 (((nq.same.trans n1.same).trans s3).trans s4) ?_
      rw [e4]
      unfold Nd.tk Nd.takes nats
      simp
    | choose  =>
      have h1 : H r = some (.tup (Nd.spec s .choose)) := h1
      dsimp only [Nd.spec] at h1
      k_call_by "za" 0
      rename_i tq Hq nq
      refine Z.i_inT ["mix", "times", "choose"] nq.at ?_
      rw [show decide (("choose" : Str) ∈ (["mix", "times", "choose"] : List Str)) = true by decide +kernel]
      k_call_by "za" 0
      rename_i t1 H1 n1
      refine Z.i_disp fun p H2 n2 => ?_
      k_call_by "za" 0
      refine ⟨n2.at, [(.inr "mix", .str "choose"), (.inr "times", .int 2), (.inr "choose", .int 3)], rfl, Nat.le_of_ble_eq_true rfl, fun H3 u3 => ?_⟩
      rw [disp_mix] at u3
      k_call_by "za" 0
      dsimp only
      have s3 : Same H1 H3 := Z.Same.up n2.same u3 n2.fr
      refine Z.i_mulTI (a := .int 1) (s3 _ _ n1.at) (by decide) fun r' H4 s4 e4 => ?_
      refine k r' H4 (((nq.same.trans n1.same).trans s3).trans s4) ?_
      rw [e4]
      unfold Nd.tk Nd.takes nats
      simp
    | own ts n =>
      have h1 : H r = some (.tup (Nd.spec s (.own ts n))) := h1
      dsimp only [Nd.spec] at h1
      k_call_by "za" 0
      rename_i tq Hq nq
      refine Z.i_inT ["mix", "times", "choose"] nq.at ?_
      rw [show decide (("own" : Str) ∈ (["mix", "times", "choose"] : List Str)) = false by decide +kernel]
      k_call_by "za" 0
      rename_i tq Hq nq
      refine Z.i_inT ["down", "resample"] nq.at ?_
      rw [show decide (("own" : Str) ∈ (["down", "resample"] : List Str)) = false by decide +kernel]
      k_call_by "za" 0
      rename_i tq Hq nq
      refine Z.i_inT ["own", "inlet"] nq.at ?_
      rw [show decide (("own" : Str) ∈ (["own", "inlet"] : List Str)) = true by decide +kernel]
      k_call_by "za" 0
      refine Z.ifT (by decide +kernel) ?_
      k_call_by "za" 0
      exact k s _ (by k_call_by "fr" 0) ((by k_call_by "fr" 0 : Same H _) _ _ (h2 _ rfl))
    | up n =>
      have h1 : H r = some (.tup (Nd.spec s (.up n))) := h1
      dsimp only [Nd.spec] at h1
      k_call_by "za" 0
      rename_i tq Hq nq
      refine Z.i_inT ["mix", "times", "choose"] nq.at ?_
      rw [show decide (("up" : Str) ∈ (["mix", "times", "choose"] : List Str)) = false by decide +kernel]
      k_call_by "za" 0
      rename_i tq Hq nq
      refine Z.i_inT ["down", "resample"] nq.at ?_
      rw [show decide (("up" : Str) ∈ (["down", "resample"] : List Str)) = false by decide +kernel]
      k_call_by "za" 0
      rename_i tq Hq nq
      refine Z.i_inT ["own", "inlet"] nq.at ?_
      rw [show decide (("up" : Str) ∈ (["own", "inlet"] : List Str)) = false by decide +kernel]
      k_call_by "za" 0
      rename_i t1 H1 n1
      exact k t1 H1 (by k_call_by "fr" 0) n1.at
    | down n =>
      have h1 : H r = some (.tup (Nd.spec s (.down n))) := h1
      dsimp only [Nd.spec] at h1
      k_call_by "za" 0
      rename_i tq Hq nq
      refine Z.i_inT ["mix", "times", "choose"] nq.at ?_
      rw [show decide (("down" : Str) ∈ (["mix", "times", "choose"] : List Str)) = false by decide +kernel]
      k_call_by "za" 0
      rename_i tq Hq nq
      refine Z.i_inT ["down", "resample"] nq.at ?_
      rw [show decide (("down" : Str) ∈ (["down", "resample"] : List Str)) = true by decide +kernel]
      k_call_by "za" 0
      rename_i t1 H1 n1
      exact k t1 H1 (by k_call_by "fr" 0) n1.at
    | resample ru rd =>
      have h1 : H r = some (.tup (Nd.spec s (.resample ru rd))) := h1
      dsimp only [Nd.spec] at h1
      k_call_by "za" 0
      rename_i tq Hq nq
      refine Z.i_inT ["mix", "times", "choose"] nq.at ?_
      rw [show decide (("resample" : Str) ∈ (["mix", "times", "choose"] : List Str)) = false by decide +kernel]
      k_call_by "za" 0
      rename_i tq Hq nq
      refine Z.i_inT ["down", "resample"] nq.at ?_
      rw [show decide (("resample" : Str) ∈ (["down", "resample"] : List Str)) = true by decide +kernel]
      k_call_by "za" 0
      rename_i t1 H1 n1
      exact k t1 H1 (by k_call_by "fr" 0) n1.at
def sp_l_made (K : PySem.W.Frag) : Sp := fun vz H Q Ex => ∃ (r s : Addr) (nd : Nd), vz = [.ref r] ∧ (H r = some (.tup (nd.spec s))) ∧ (∀ ns, SpecExt nd = some ns → H s = some (.tup (ns.map V.int))) ∧ (nd.wf) ∧ (∀ a H', H a = none → Same H H' → IsNode K H' a nd → Q (.ref a) H')
theorem c_l_made {K : PySem.W.Frag} {H : Hp} {Q : VK} {Ex : XK} {r s : Addr} {nd : Nd} (h1 : H r = some (.tup (nd.spec s))) (h2 : ∀ ns, SpecExt nd = some ns → H s = some (.tup (ns.map V.int))) (h3 : nd.wf) (k : ∀ a H', H a = none → Same H H' → IsNode K H' a nd → Q (.ref a) H') : sp_l_made K [.ref r] H Q Ex := ⟨r, s, nd, rfl, h1, h2, h3, k⟩
theorem ok_l_made {g : Prop} {P : Program} {w : World} {K : PySem.W.Frag} {mg : Str → Option Value} {base : Heap} (E : Ev K mg) : Z.Pr g P w K mg base 6 (He.ga K "_law_made") d_l_made p_l_made (sp_l_made K) := by
  obtain ⟨fd, FD⟩ := E.fn 71 (d := d_l_made)
  refine ⟨fd, FD, Z.FunD.okG FD sc_l_made (fun vz H Q Ex h => ?_) (fun cdv A outer s H vz Q Ex hr hgd h => ?_)⟩
  · obtain ⟨_, _, _, rfl, _⟩ := h
    rfl
  · have hu := hr.units
    obtain ⟨r, s, nd, rfl, h1, h2, h3, k⟩ := h
    have F_Choose_u__init := ok_Choose_u__init (g := g) (P := P) (w := w) (base := base) E
    have F_Down_u__init := ok_Down_u__init (g := g) (P := P) (w := w) (base := base) E
    have F_Gain_u__init := ok_Gain_u__init (g := g) (P := P) (w := w) (base := base) E
    have F_Inlet_u__init := ok_Inlet_u__init (g := g) (P := P) (w := w) (base := base) E
    have F_Mix_u__init := ok_Mix_u__init (g := g) (P := P) (w := w) (base := base) E
    have F_Outlet_u__init := ok_Outlet_u__init (g := g) (P := P) (w := w) (base := base) E
    have F_Own_u__init := ok_Own_u__init (g := g) (P := P) (w := w) (base := base) E
    have F_Resample_u__init := ok_Resample_u__init (g := g) (P := P) (w := w) (base := base) E
    have F_Times_u__init := ok_Times_u__init (g := g) (P := P) (w := w) (base := base) E
    have F_Up_u__init := ok_Up_u__init (g := g) (P := P) (w := w) (base := base) E
    refine ⟨_, (Z.zs_cons (Z.z_if (pt_cmpR (Z.opEqK K rfl hu) (pe_ix (Z.ixUK K rfl) (pv 0) pe_int (fun _ _ => rfl)) pe_str (nomark _)) (Z.zs_one (Z.z_ret (Z.pe_newk (E.mkr 90) F_Gain_u__init (hr.mono (by decide)) hgd (by rfl) (E.glo 91) (passL) kb_Gain_u__init_2_late_begin (pa_cons (pe_ix (Z.ixUK K rfl) (pv 0) pe_int (fun _ _ => rfl)) pa_nil) (pk_cons (pe_ix (Z.ixUK K rfl) (pv 0) pe_int (fun _ _ => rfl)) (pk_cons (pe_ix (Z.ixUK K rfl) (pv 0) pe_int (fun _ _ => rfl)) pk_nil))))) Z.zs_nil)
   (Z.zs_cons (Z.z_if (pt_cmpR (Z.opEqK K rfl hu) (pe_ix (Z.ixUK K rfl) (pv 0) pe_int (fun _ _ => rfl)) pe_str (nomark _)) (Z.zs_one (Z.z_ret (Z.pe_new (E.mkr 88) F_Mix_u__init (hr.mono (by decide)) hgd (by rfl) (E.glo 89) (passL) kb_Mix_u__init_2 (pa_cons (pe_ix (Z.ixUK K rfl) (pv 0) pe_int (fun _ _ => rfl)) pa_nil)))) Z.zs_nil)
   (Z.zs_cons (Z.z_if (pt_cmpR (Z.opIn K rfl hr) (pe_ix (Z.ixUK K rfl) (pv 0) pe_int (fun _ _ => rfl)) (pe_tup (pa_cons pe_str (pa_cons pe_str pa_nil))) rfl) (Z.zs_one (Z.z_ret (pe_ifExp (pt_cmpR (Z.opEqK K rfl hu) (pe_ix (Z.ixUK K rfl) (pv 0) pe_int (fun _ _ => rfl)) pe_str (nomark _)) (Z.pe_new0 (E.mkr 84) F_Times_u__init (hr.mono (by decide)) hgd (by rfl) (E.glo 85) (passL) kb_Times_u__init_1) (Z.pe_new0 (E.mkr 86) F_Choose_u__init (hr.mono (by decide)) hgd (by rfl) (E.glo 87) (passL) kb_Choose_u__init_1)))) Z.zs_nil)
   (Z.zs_cons (Z.z_if (pt_cmpR (Z.opIn K rfl hr) (pe_ix (Z.ixUK K rfl) (pv 0) pe_int (fun _ _ => rfl)) (pe_tup (pa_cons pe_str (pa_cons pe_str pa_nil))) rfl) (Z.zs_one (Z.z_ret (pe_ifExp (pt_cmpR (Z.opEqK K rfl hu) (pe_ix (Z.ixUK K rfl) (pv 0) pe_int (fun _ _ => rfl)) pe_str (nomark _)) (Z.pe_new (E.mkr 80) F_Up_u__init (hr.mono (by decide)) hgd (by rfl) (E.glo 81) (passL) kb_Up_u__init_2 (pa_cons (pe_ix (Z.ixUK K rfl) (pv 0) pe_int (fun _ _ => rfl)) pa_nil)) (Z.pe_new (E.mkr 82) F_Down_u__init (hr.mono (by decide)) hgd (by rfl) (E.glo 83) (passL) kb_Down_u__init_2 (pa_cons (pe_ix (Z.ixUK K rfl) (pv 0) pe_int (fun _ _ => rfl)) pa_nil))))) Z.zs_nil)
   (Z.zs_cons (Z.z_if (pt_cmpR (Z.opEqK K rfl hu) (pe_ix (Z.ixUK K rfl) (pv 0) pe_int (fun _ _ => rfl)) pe_str (nomark _)) (Z.zs_one (Z.z_ret (Z.pe_new (E.mkr 78) F_Resample_u__init (hr.mono (by decide)) hgd (by rfl) (E.glo 79) (passL) kb_Resample_u__init_4 (pa_cons (pe_ix (Z.ixUK K rfl) (pv 0) pe_int (fun _ _ => rfl)) (pa_cons (pe_ix (Z.ixUK K rfl) (pv 0) pe_int (fun _ _ => rfl)) (pa_cons (pe_lst (pa_cons pe_int (pa_cons pe_int pa_nil))) pa_nil)))))) Z.zs_nil)
   (Z.zs_cons (Z.z_if (pt_cmpR (Z.opEqK K rfl hu) (pe_ix (Z.ixUK K rfl) (pv 0) pe_int (fun _ _ => rfl)) pe_str (nomark _)) (Z.zs_one (Z.z_ret (Z.pe_new (E.mkr 75) F_Own_u__init (hr.mono (by decide)) hgd (by rfl) (E.glo 76) (passL) kb_Own_u__init_4 (pa_cons (pe_glob (v := .ref (He.ga K "_law_deed")) rfl (E.glo 77) rfl) (pa_cons (pe_ix (Z.ixUK K rfl) (pv 0) pe_int (fun _ _ => rfl)) (pa_cons (pe_ix (Z.ixUK K rfl) (pv 0) pe_int (fun _ _ => rfl)) pa_nil)))))) Z.zs_nil)
   (Z.zs_one (Z.z_ret (pe_ifExp (pt_cmpR (Z.opEqK K rfl hu) (pe_ix (Z.ixUK K rfl) (pv 0) pe_int (fun _ _ => rfl)) pe_str (nomark _)) (Z.pe_new0 (E.mkr 73) F_Inlet_u__init (hr.mono (by decide)) hgd (by rfl) (E.glo 64) (passL) bd_Inlet_u__init) (Z.pe_new0 (E.mkr 74) F_Outlet_u__init (hr.mono (by decide)) hgd (by rfl) (E.glo 61) (passL) bd_Outlet_u__init)))))))))), ?_⟩
    refine Z.i_start (σ := [some (.ref r)]) rfl ?_
    try dsimp only [Z.cxK]
    cases nd with
    | inlet  =>
      have h1 : H r = some (.tup (Nd.spec s .inlet)) := h1
      dsimp only [Nd.spec] at h1
      k_call_by "za" 0
      refine Z.ifF (by decide +kernel) ?_
      k_call_by "za" 0
      refine Z.ifF (by decide +kernel) ?_
      k_call_by "za" 0
      rename_i tq Hq nq
      refine Z.i_inT ["times", "choose"] nq.at ?_
      rw [show decide (("inlet" : Str) ∈ (["times", "choose"] : List Str)) = false by decide +kernel]
      k_call_by "za" 0
      rename_i tq Hq nq
      refine Z.i_inT ["up", "down"] nq.at ?_
      rw [show decide (("inlet" : Str) ∈ (["up", "down"] : List Str)) = false by decide +kernel]
      k_call_by "za" 0
      refine Z.ifF (by decide +kernel) ?_
      k_call_by "za" 0
      refine Z.ifF (by decide +kernel) ?_
      k_call_by "za" 0
      refine Z.ifT (by decide +kernel) ?_
      k_call_by "za" 0
      rename_i x dx Hm m
      refine c_Inlet_u__init  m.at fun H4 nd4 b4 => ⟨rfl, ?_⟩
      have fx : H x = none := by k_call_by "fh" 0
      exact k x H4 fx (Z.Same.thenBut (by k_call_by "fr" 0 : Same H Hm) b4 fx) nd4
    | outlet  =>
      have h1 : H r = some (.tup (Nd.spec s .outlet)) := h1
      dsimp only [Nd.spec] at h1
      k_call_by "za" 0
      refine Z.ifF (by decide +kernel) ?_
      k_call_by "za" 0
      refine Z.ifF (by decide +kernel) ?_
      k_call_by "za" 0
      rename_i tq Hq nq
      refine Z.i_inT ["times", "choose"] nq.at ?_
      rw [show decide (("outlet" : Str) ∈ (["times", "choose"] : List Str)) = false by decide +kernel]
      k_call_by "za" 0
      rename_i tq Hq nq
      refine Z.i_inT ["up", "down"] nq.at ?_
      rw [show decide (("outlet" : Str) ∈ (["up", "down"] : List Str)) = false by decide +kernel]
      k_call_by "za" 0
      refine Z.ifF (by decide +kernel) ?_
      k_call_by "za" 0
      refine Z.ifF (by decide +kernel) ?_
      k_call_by "za" 0
      refine Z.ifF (by decide +kernel) ?_
      k_call_by "za" 0
      rename_i x dx Hm m
      refine c_Outlet_u__init  m.at fun H4 nd4 b4 => ⟨rfl, ?_⟩
      have fx : H x = none := by k_call_by "fh" 0
      exact k x H4 fx (Z.Same.thenBut (by k_call_by "fr" 0 : Same H Hm) b4 fx) nd4
    | gain gn l b =>
      have h1 : H r = some (.tup (Nd.spec s (.gain gn l b))) := h1
      dsimp only [Nd.spec] at h1
      k_call_by "za" 0
      refine Z.ifT (by decide +kernel) ?_
      k_call_by "za" 0
      rename_i x dx Hm m
      refine c_Gain_u__init (gn := gn) (l := l) (b := b) m.at h3 fun H4 nd4 b4 => ⟨rfl, ?_⟩
      have fx : H x = none := by k_call_by "fh" 0
      exact k x H4 fx (Z.Same.thenBut (by k_call_by "fr" 0 : Same H Hm) b4 fx) nd4
    | mix n =>
      have h1 : H r = some (.tup (Nd.spec s (.mix n))) := h1
      dsimp only [Nd.spec] at h1
      k_call_by "za" 0
      refine Z.ifF (by decide +kernel) ?_
      k_call_by "za" 0
      refine Z.ifT (by decide +kernel) ?_
      k_call_by "za" 0
      rename_i x dx Hm m
      refine c_Mix_u__init (n := n) m.at h3 fun H4 nd4 b4 => ⟨rfl, ?_⟩
      have fx : H x = none := by k_call_by "fh" 0
      exact k x H4 fx (Z.Same.thenBut (by k_call_by "fr" 0 : Same H Hm) b4 fx) nd4
    | times  =>
      have h1 : H r = some (.tup (Nd.spec s .times)) := h1
      dsimp only [Nd.spec] at h1
      k_call_by "za" 0
      refine Z.ifF (by decide +kernel) ?_
      k_call_by "za" 0
      refine Z.ifF (by decide +kernel) ?_
      k_call_by "za" 0
      rename_i tq Hq nq
      refine Z.i_inT ["times", "choose"] nq.at ?_
      rw [show decide (("times" : Str) ∈ (["times", "choose"] : List Str)) = true by decide +kernel]
      k_call_by "za" 0
      refine Z.ifT (by decide +kernel) ?_
      k_call_by "za" 0
      rename_i x dx Hm m
      refine c_Times_u__init  m.at fun H4 nd4 b4 => ⟨rfl, ?_⟩
      have fx : H x = none := by k_call_by "fh" 0
      exact k x H4 fx (Z.Same.thenBut (by k_call_by "fr" 0 : Same H Hm) b4 fx) nd4
    | choose  =>
      have h1 : H r = some (.tup (Nd.spec s .choose)) := h1
      dsimp only [Nd.spec] at h1
      k_call_by "za" 0
      refine Z.ifF (by decide +kernel) ?_
      k_call_by "za" 0
      refine Z.ifF (by decide +kernel) ?_
      k_call_by "za" 0
      rename_i tq Hq nq
      refine Z.i_inT ["times", "choose"] nq.at ?_
      rw [show decide (("choose" : Str) ∈ (["times", "choose"] : List Str)) = true by decide +kernel]
      k_call_by "za" 0
      refine Z.ifF (by decide +kernel) ?_
      k_call_by "za" 0
      rename_i x dx Hm m
      refine c_Choose_u__init  m.at fun H4 nd4 b4 => ⟨rfl, ?_⟩
      have fx : H x = none := by k_call_by "fh" 0
      exact k x H4 fx (Z.Same.thenBut (by k_call_by "fr" 0 : Same H Hm) b4 fx) nd4
    | own ts n =>
      have h1 : H r = some (.tup (Nd.spec s (.own ts n))) := h1
      dsimp only [Nd.spec] at h1
      k_call_by "za" 0
      refine Z.ifF (by decide +kernel) ?_
      k_call_by "za" 0
      refine Z.ifF (by decide +kernel) ?_
      k_call_by "za" 0
      rename_i tq Hq nq
      refine Z.i_inT ["times", "choose"] nq.at ?_
      rw [show decide (("own" : Str) ∈ (["times", "choose"] : List Str)) = false by decide +kernel]
      k_call_by "za" 0
      rename_i tq Hq nq
      refine Z.i_inT ["up", "down"] nq.at ?_
      rw [show decide (("own" : Str) ∈ (["up", "down"] : List Str)) = false by decide +kernel]
      k_call_by "za" 0
      refine Z.ifF (by decide +kernel) ?_
      k_call_by "za" 0
      refine Z.ifT (by decide +kernel) ?_
      k_call_by "za" 0
      rename_i x dx Hm m
      have s_ : Same H Hm := by k_call_by "fr" 0
      refine c_Own_u__init (ts := ts) (n := n) m.at h3 (q := s) (s_ _ _ (h2 _ rfl)) fun H4 nd4 b4 => ⟨rfl, ?_⟩
      have fx : H x = none := by k_call_by "fh" 0
      exact k x H4 fx (Z.Same.thenBut (by k_call_by "fr" 0 : Same H Hm) b4 fx) nd4
    | up n =>
      have h1 : H r = some (.tup (Nd.spec s (.up n))) := h1
      dsimp only [Nd.spec] at h1
      k_call_by "za" 0
      refine Z.ifF (by decide +kernel) ?_
      k_call_by "za" 0
      refine Z.ifF (by decide +kernel) ?_
      k_call_by "za" 0
      rename_i tq Hq nq
      refine Z.i_inT ["times", "choose"] nq.at ?_
      rw [show decide (("up" : Str) ∈ (["times", "choose"] : List Str)) = false by decide +kernel]
      k_call_by "za" 0
      rename_i tq Hq nq
      refine Z.i_inT ["up", "down"] nq.at ?_
      rw [show decide (("up" : Str) ∈ (["up", "down"] : List Str)) = true by decide +kernel]
      k_call_by "za" 0
      refine Z.ifT (by decide +kernel) ?_
      k_call_by "za" 0
      rename_i x dx Hm m
      refine c_Up_u__init (n := n) m.at h3 fun H4 nd4 b4 => ⟨rfl, ?_⟩
      have fx : H x = none := by k_call_by "fh" 0
      exact k x H4 fx (Z.Same.thenBut (by k_call_by "fr" 0 : Same H Hm) b4 fx) nd4
    | down n =>
      have h1 : H r = some (.tup (Nd.spec s (.down n))) := h1
      dsimp only [Nd.spec] at h1
      k_call_by "za" 0
      refine Z.ifF (by decide +kernel) ?_
      k_call_by "za" 0
      refine Z.ifF (by decide +kernel) ?_
      k_call_by "za" 0
      rename_i tq Hq nq
      refine Z.i_inT ["times", "choose"] nq.at ?_
      rw [show decide (("down" : Str) ∈ (["times", "choose"] : List Str)) = false by decide +kernel]
      k_call_by "za" 0
      rename_i tq Hq nq
      refine Z.i_inT ["up", "down"] nq.at ?_
      rw [show decide (("down" : Str) ∈ (["up", "down"] : List Str)) = true by decide +kernel]
      k_call_by "za" 0
      refine Z.ifF (by decide +kernel) ?_
      k_call_by "za" 0
      rename_i x dx Hm m
      refine c_Down_u__init (n := n) m.at h3 fun H4 nd4 b4 => ⟨rfl, ?_⟩
      have fx : H x = none := by k_call_by "fh" 0
      exact k x H4 fx (Z.Same.thenBut (by k_call_by "fr" 0 : Same H Hm) b4 fx) nd4
    | resample ru rd =>
      have h1 : H r = some (.tup (Nd.spec s (.resample ru rd))) := h1
      dsimp only [Nd.spec] at h1
      k_call_by "za" 0
      refine Z.ifF (by decide +kernel) ?_
      k_call_by "za" 0
      refine Z.ifF (by decide +kernel) ?_
      k_call_by "za" 0
      rename_i tq Hq nq
      refine Z.i_inT ["times", "choose"] nq.at ?_
      rw [show decide (("resample" : Str) ∈ (["times", "choose"] : List Str)) = false by decide +kernel]
      k_call_by "za" 0
      rename_i tq Hq nq
      refine Z.i_inT ["up", "down"] nq.at ?_
      rw [show decide (("resample" : Str) ∈ (["up", "down"] : List Str)) = false by decide +kernel]
      k_call_by "za" 0
      refine Z.ifT (by decide +kernel) ?_
      k_call_by "za" 0
      rename_i l H1 n1 x dx Hm m
      refine c_Resample_u__init (ru := ru) (rd := rd) m.at h3 (q := l) (m.get n1.at) fun H4 nd4 b4 => ⟨rfl, ?_⟩
      have fx : H x = none := by k_call_by "fh" 0
      exact k x H4 fx (Z.Same.thenBut (by k_call_by "fr" 0 : Same H Hm) b4 fx) nd4

/-- the list's own end -/
theorem cut_end {xs : List V} (h : xs ≠ []) : ∃ v ∈ xs, cutV xs (some (-1)) none = [v] := by
  obtain ⟨ys, y, rfl⟩ : ∃ ys y, xs = ys ++ [y] := (snoc_or xs).resolve_left h
  refine ⟨y, by simp, ?_⟩
  have e : HT.sIx (ys ++ [y]).length 0 (some (-1)) = ys.length := by
    rw [List.length_append]
    unfold HT.sIx
    simp
    omega
  unfold cutV
  rw [e, HT.sIx_none, List.drop_left, List.length_append]
  rw [show ys.length + [y].length - ys.length = 1 by simp]
  rfl
def rk (ks : List Knot) (x : Str) : Nat := (ks.map (·.nm)).idxOf x
/-- what has been drawn so far; lim: how many places of each node are fed -/
structure Bld (ks : List Knot) (ws : List Wire) (lim : Str → Nat) : Prop where
  nm : ∀ k ∈ ks, isNm k.nm
  nd : (ks.map (·.nm)).Nodup
  wf : ∀ k ∈ ks, k.nd.wf ∧ k.nd.small
  src : ∀ w ∈ ws, ∃ k ∈ ks, k.nm = w.s ∧ k.nd.isOut = false
  gol : ∀ w ∈ ws, ∃ k ∈ ks, k.nm = w.g ∧ w.p < k.nd.takes.length ∧ w.p < lim w.g
  dly : ∀ w ∈ ws, 0 ≤ w.d ∧ w.d ≤ 9999
  uni : (ws.map Wire.at).Nodup
  all : ∀ k ∈ ks, ∀ p, p < lim k.nm → (k.nm, p) ∈ ws.map Wire.at
  rank : ∀ k ∈ ks, 0 < lim k.nm → ∃ w ∈ ws, w.g = k.nm ∧ w.p = 0 ∧ rk ks w.s < rk ks k.nm
  one : ks ≠ [] → ∃ k ∈ ks, k.nd.isOut = false
def Full (ks : List Knot) (lim : Str → Nat) : Prop := ∀ k ∈ ks, lim k.nm = k.nd.takes.length
theorem rk_old {ks : List Knot} {x : Str} {k : Knot} (h : x ∈ ks.map (·.nm)) : rk (ks ++ [k]) x = rk ks x := by
  unfold rk
  rw [List.map_append, List.idxOf_append, if_pos h]
theorem rk_lt {ks : List Knot} {x : Str} (h : x ∈ ks.map (·.nm)) : rk ks x < ks.length := by
  unfold rk
  have := List.idxOf_lt_length_of_mem h
  rwa [List.length_map] at this
theorem rk_new {ks : List Knot} {k : Knot} (h : k.nm ∉ ks.map (·.nm)) : rk (ks ++ [k]) k.nm = ks.length := by
  unfold rk
  rw [List.map_append, List.idxOf_append, if_neg h]
  simp
theorem Bld.knot {ks : List Knot} {ws : List Wire} {lim : Str → Nat} (b : Bld ks ws lim) (k : Knot) (h1 : isNm k.nm) (h2 : k.nm ∉ ks.map (·.nm)) (h3 : k.nd.wf ∧ k.nd.small) (h4 : ks = [] → k.nd.isOut = false) : Bld (ks ++ [k]) ws (fun x => if x = k.nm then 0 else lim x) := by
  have old : ∀ j ∈ ks, j.nm ≠ k.nm := fun j hj e => h2 (e ▸ List.mem_map_of_mem hj)
  refine ⟨?_, ?_, ?_, ?_, ?_, b.dly, b.uni, ?_, ?_, ?_⟩
  · intro j hj
    rcases List.mem_append.mp hj with m | m
    · exact b.nm j m
    · rw [List.mem_singleton.mp m]; exact h1
  · rw [List.map_append, List.nodup_append]
    refine ⟨b.nd, by simp, fun x hx y hy e => h2 ?_⟩
    have : y = k.nm := by simpa using hy
    rw [← this, ← e]; exact hx
  · intro j hj
    rcases List.mem_append.mp hj with m | m
    · exact b.wf j m
    · rw [List.mem_singleton.mp m]; exact h3
  · intro w hw
    obtain ⟨j, hj, e⟩ := b.src w hw
    exact ⟨j, List.mem_append.mpr (.inl hj), e⟩
  · intro w hw
    obtain ⟨j, hj, e1, e2, e3⟩ := b.gol w hw
    refine ⟨j, List.mem_append.mpr (.inl hj), e1, e2, ?_⟩
    rw [if_neg (by rw [← e1]; exact old j hj)]
    exact e3
  · intro j hj p hp
    rcases List.mem_append.mp hj with m | m
    · rw [if_neg (old j m)] at hp
      exact b.all j m p hp
    · rw [List.mem_singleton.mp m, if_pos rfl] at hp
      exact absurd hp (by omega)
  · intro j hj hp
    rcases List.mem_append.mp hj with m | m
    · rw [if_neg (old j m)] at hp
      obtain ⟨w, hw, e1, e2, e3⟩ := b.rank j m hp
      refine ⟨w, hw, e1, e2, ?_⟩
      obtain ⟨i, hi, e4, _⟩ := b.src w hw
      rw [rk_old (by rw [← e4]; exact List.mem_map_of_mem hi), rk_old (List.mem_map_of_mem m)]
      exact e3
    · rw [List.mem_singleton.mp m, if_pos rfl] at hp
      exact absurd hp (by omega)
  · intro _
    by_cases e : ks = []
    · exact ⟨k, by simp, h4 e⟩
    · obtain ⟨j, hj, o⟩ := b.one e
      exact ⟨j, List.mem_append.mpr (.inl hj), o⟩
theorem Bld.wire {ks : List Knot} {ws : List Wire} {lim : Str → Nat} (b : Bld ks ws lim) (w : Wire) (k : Knot) (hk : k ∈ ks) (e : k.nm = w.g) (hp : lim w.g = w.p) (ht : w.p < k.nd.takes.length) (hd : 0 ≤ w.d ∧ w.d ≤ 9999) (hs : ∃ j ∈ ks, j.nm = w.s ∧ j.nd.isOut = false) (hr : w.p = 0 → rk ks w.s < rk ks w.g) :
    Bld ks (ws ++ [w]) (fun x => if x = w.g then w.p + 1 else lim x) := by
  refine ⟨b.nm, b.nd, b.wf, ?_, ?_, ?_, ?_, ?_, ?_, b.one⟩
  · intro v hv
    rcases List.mem_append.mp hv with m | m
    · exact b.src v m
    · rw [List.mem_singleton.mp m]; exact hs
  · intro v hv
    rcases List.mem_append.mp hv with m | m
    · obtain ⟨j, hj, e1, e2, e3⟩ := b.gol v m
      refine ⟨j, hj, e1, e2, ?_⟩
      by_cases z : v.g = w.g
      · rw [if_pos z]; rw [z, hp] at e3; omega
      · rw [if_neg z]; exact e3
    · rw [List.mem_singleton.mp m]
      exact ⟨k, hk, e, ht, by rw [if_pos rfl]; omega⟩
  · intro v hv
    rcases List.mem_append.mp hv with m | m
    · exact b.dly v m
    · rw [List.mem_singleton.mp m]; exact hd
  · rw [List.map_append, List.nodup_append]
    refine ⟨b.uni, by simp, fun x hx y hy z => ?_⟩
    have hy : y = w.at := by simpa using hy
    obtain ⟨v, hv, rfl⟩ := List.mem_map.mp hx
    obtain ⟨j, hj, e1, e2, e3⟩ := b.gol v hv
    rw [hy] at z
    have z1 : v.g = w.g := congrArg Prod.fst z
    have z2 : v.p = w.p := congrArg Prod.snd z
    rw [z1, hp] at e3
    omega
  · intro j hj p hq
    rw [List.map_append]
    by_cases z : j.nm = w.g
    · rw [if_pos z] at hq
      by_cases y : p = w.p
      · refine List.mem_append.mpr (.inr ?_)
        rw [z, y]; simp [Wire.at]
      · exact List.mem_append.mpr (.inl (b.all j hj p (by rw [z, hp]; omega)))
    · rw [if_neg z] at hq
      exact List.mem_append.mpr (.inl (b.all j hj p hq))
  · intro j hj hq
    by_cases z : j.nm = w.g
    · by_cases y : w.p = 0
      · exact ⟨w, by simp, z.symm, y, by rw [z]; exact hr y⟩
      · obtain ⟨v, hv, r⟩ := b.rank j hj (by rw [z, hp]; omega)
        exact ⟨v, List.mem_append.mpr (.inl hv), r⟩
    · rw [if_neg z] at hq
      obtain ⟨v, hv, r⟩ := b.rank j hj hq
      exact ⟨v, List.mem_append.mpr (.inl hv), r⟩
theorem map_set {α β : Type} (f : α → β) {xs : List α} {i : Nat} {x y : α} (h : xs[i]? = some x) (e : f y = f x) : (xs.set i y).map f = xs.map f := by
  refine List.ext_getElem? fun j => ?_
  rw [List.getElem?_map, List.getElem?_map, List.getElem?_set]
  by_cases hj : i = j
  · subst hj
    rw [if_pos rfl, h]
    rw [if_pos (List.getElem?_eq_some_iff.mp h).1]
    simp [e]
  · rw [if_neg hj]
theorem mem_set {α : Type} {xs : List α} {i : Nat} {y z : α} (h : z ∈ xs.set i y) : z ∈ xs ∨ z = y := List.mem_or_eq_of_mem_set h
theorem Bld.change {ks : List Knot} {ws : List Wire} {lim : Str → Nat} (b : Bld ks ws lim) {i : Nat} {w : Wire} (hw : ws[i]? = some w) (hp : 0 < w.p) (s : Str) (hs : ∃ j ∈ ks, j.nm = s ∧ j.nd.isOut = false) : Bld ks (ws.set i ⟨s, w.g, w.p, w.d⟩) lim := by
  have wm := List.mem_of_getElem? hw
  have ea : (ws.set i ⟨s, w.g, w.p, w.d⟩).map Wire.at = ws.map Wire.at := map_set Wire.at hw rfl
  refine ⟨b.nm, b.nd, b.wf, ?_, ?_, ?_, by rw [ea]; exact b.uni, fun k hk p h => by rw [ea]; exact b.all k hk p h, ?_, b.one⟩
  · intro v hv
    rcases mem_set hv with m | rfl
    · exact b.src v m
    · exact hs
  · intro v hv
    rcases mem_set hv with m | rfl
    · exact b.gol v m
    · exact b.gol w wm
  · intro v hv
    rcases mem_set hv with m | rfl
    · exact b.dly v m
    · exact b.dly w wm
  · intro k hk hl
    obtain ⟨v, hv, e1, e2, e3⟩ := b.rank k hk hl
    refine ⟨v, ?_, e1, e2, e3⟩
    obtain ⟨j, hj⟩ := List.getElem?_of_mem hv
    have ne : i ≠ j := fun z => by
      subst z
      rw [hw] at hj
      cases hj
      omega
    refine List.mem_of_getElem? (i := j) ?_
    rw [List.getElem?_set, if_neg ne]; exact hj
theorem Bld.valid {ks : List Knot} {ws : List Wire} {lim : Str → Nat} (b : Bld ks ws lim) (f : Full ks lim) (h1 : ks.length ≤ 24) (h2 : ws.length ≤ 48) : Valid ks ws := by
  refine ⟨h1, h2, b.nm, b.nd, fun k hk => (b.wf k hk).1, b.src, ?_, b.dly, b.uni, ?_, rk ks, ?_⟩
  · intro w hw
    obtain ⟨k, hk, e1, e2, _⟩ := b.gol w hw
    exact ⟨k, hk, e1, e2⟩
  · intro k hk p hp
    obtain ⟨w, hw, e⟩ := List.mem_map.mp (b.all k hk p (by rw [f k hk]; exact hp))
    exact ⟨w, hw, e⟩
  · intro k hk hi
    obtain ⟨w, hw, e1, _, e3⟩ := b.rank k hk (by rw [f k hk]; exact takes_pos (b.wf k hk).1 hi)
    exact ⟨w, hw, e1, e3⟩
theorem Valid.perm {ks ks' : List Knot} {ws ws' : List Wire} (v : Valid ks ws) (p : ks'.Perm ks) (q : ws'.Perm ws) : Valid ks' ws' := by
  have mk : ∀ {k}, k ∈ ks' ↔ k ∈ ks := fun {k} => p.mem_iff
  have mw : ∀ {w}, w ∈ ws' ↔ w ∈ ws := fun {w} => q.mem_iff
  obtain ⟨f, hf⟩ := v.rank
  refine ⟨by rw [p.length_eq]; exact v.kl, by rw [q.length_eq]; exact v.wl, fun k hk => v.nm k (mk.mp hk), (p.map _).nodup_iff.mpr v.nd, fun k hk => v.wf k (mk.mp hk), ?_, ?_, fun w hw => v.dly w (mw.mp hw), (q.map _).nodup_iff.mpr v.uni, ?_, f, ?_⟩
  · intro w hw
    obtain ⟨k, hk, e⟩ := v.src w (mw.mp hw)
    exact ⟨k, mk.mpr hk, e⟩
  · intro w hw
    obtain ⟨k, hk, e⟩ := v.gol w (mw.mp hw)
    exact ⟨k, mk.mpr hk, e⟩
  · intro k hk j hj
    obtain ⟨w, hw, e⟩ := v.all k (mk.mp hk) j hj
    exact ⟨w, mw.mpr hw, e⟩
  · intro k hk hi
    obtain ⟨w, hw, e⟩ := hf k (mk.mp hk) hi
    exact ⟨w, mw.mpr hw, e⟩
theorem all2_perm {α β : Type} {R : α → β → Prop} {ys xs : List α} (p : ys.Perm xs) : ∀ {ks : List β}, Z.All2 R xs ks → ∃ ks', ks'.Perm ks ∧ Z.All2 R ys ks' := by
  induction p with
  | nil => intro ks h; exact ⟨ks, .refl _, h⟩
  | cons x p ih =>
    intro ks h
    cases ks with
    | nil => cases h.1
    | cons k ks =>
      obtain ⟨h1, h2⟩ := h.uncons
      obtain ⟨ks', p', a⟩ := ih h2
      exact ⟨k :: ks', p'.cons k, a.cons h1⟩
  | swap x y l =>
    intro ks h
    cases ks with
    | nil => cases h.1
    | cons k ks =>
      obtain ⟨h1, h2⟩ := h.uncons
      cases ks with
      | nil => cases h2.1
      | cons k2 ks =>
        obtain ⟨h3, h4⟩ := h2.uncons
        exact ⟨k2 :: k :: ks, .swap _ _ _, (h4.cons h1).cons h3⟩
  | trans p q ih1 ih2 =>
    intro ks h
    obtain ⟨k1, p1, a1⟩ := ih2 h
    obtain ⟨k2, p2, a2⟩ := ih1 a1
    exact ⟨k2, p2.trans p1, a2⟩
/-- the state while a weave is drawn -/
structure DSt (H0 : Hp) (a kl cl : Addr) (H : Hp) (ks : List Knot) (ws : List Wire) : Prop where
  ak : a ≠ kl
  ac : a ≠ cl
  kc : kl ≠ cl
  pot : Pot H a
  k : ∃ vs, H kl = some (.lst vs) ∧ Knots H vs ks
  c : ∃ us, H cl = some (.lst us) ∧ Wires H us ws
  b : Z.ButL [a, kl, cl] H0 H
theorem DSt.but {H0 H H' : Hp} {a kl cl : Addr} {ks : List Knot} {ws : List Wire} (d : DSt H0 a kl cl H ks ws) (b : Z.But a H H') (p : Pot H' a) : DSt H0 a kl cl H' ks ws := by
  obtain ⟨vs, hv, kv⟩ := d.k
  obtain ⟨us, hu, wu⟩ := d.c
  have kp := d.pot.kept b
  exact ⟨d.ak, d.ac, d.kc, p, ⟨vs, b.get d.ak.symm hv, knots_kept kv kp⟩, ⟨us, b.get d.ac.symm hu, wires_kept wu kp⟩, d.b.but b (by simp)⟩
theorem DSt.addk {H0 H H' : Hp} {a kl cl : Addr} {ks : List Knot} {ws : List Wire} {vs : List V} {v : V} {k : Knot} (d : DSt H0 a kl cl H ks ws) (h : H kl = some (.lst vs)) (u : Z.Up H kl (.lst (vs ++ [v])) H') (n : IsKnot H v k) : DSt H0 a kl cl H' (ks ++ [k]) ws := by
  obtain ⟨vs', hv, kv⟩ := d.k
  rw [h] at hv
  cases hv
  obtain ⟨us, hu, wu⟩ := d.c
  have kp : Kept H H' := .up u h
  exact ⟨d.ak, d.ac, d.kc, d.pot.up u d.ak, ⟨_, u.at, (knots_kept kv kp).snoc (n.kept kp)⟩, ⟨us, u.get d.kc.symm hu, wires_kept wu kp⟩, d.b.up u (by simp)⟩
theorem DSt.addc {H0 H H' : Hp} {a kl cl : Addr} {ks : List Knot} {ws : List Wire} {us : List V} {v : V} {w : Wire} (d : DSt H0 a kl cl H ks ws) (h : H cl = some (.lst us)) (u : Z.Up H cl (.lst (us ++ [v])) H') (n : IsWire H v w) : DSt H0 a kl cl H' ks (ws ++ [w]) := by
  obtain ⟨us', hu, wu⟩ := d.c
  rw [h] at hu
  cases hu
  obtain ⟨vs, hv, kv⟩ := d.k
  have kp : Kept H H' := .up u h
  exact ⟨d.ak, d.ac, d.kc, d.pot.up u d.ac, ⟨vs, u.get d.kc hv, knots_kept kv kp⟩, ⟨_, u.at, (wires_kept wu kp).snoc (n.kept kp)⟩, d.b.up u (by simp)⟩
theorem all2_set {α β : Type} {R : α → β → Prop} {xs : List α} {ys : List β} {x : α} {y : β} {i : Nat} (h : Z.All2 R xs ys) (r : R x y) : Z.All2 R (xs.set i x) (ys.set i y) := by
  refine ⟨by rw [List.length_set, List.length_set, h.1], fun j p q a b => ?_⟩
  rw [List.getElem?_set] at a b
  by_cases e : i = j
  · rw [if_pos e] at a b
    split at a
    · split at b
      · cases a; cases b; exact r
      · cases b
    · cases a
  · rw [if_neg e] at a b
    exact h.2 j p q a b
theorem DSt.setc {H0 H H' : Hp} {a kl cl : Addr} {ks : List Knot} {ws : List Wire} {us : List V} {v : V} {w : Wire} {i : Nat} (d : DSt H0 a kl cl H ks ws) (h : H cl = some (.lst us)) (u : Z.Up H cl (.lst (us.set i v)) H') (n : IsWire H v w) : DSt H0 a kl cl H' ks (ws.set i w) := by
  obtain ⟨us', hu, wu⟩ := d.c
  rw [h] at hu
  cases hu
  obtain ⟨vs, hv, kv⟩ := d.k
  have kp : Kept H H' := .up u h
  exact ⟨d.ak, d.ac, d.kc, d.pot.up u d.ac, ⟨vs, u.get d.kc hv, knots_kept kv kp⟩, ⟨_, u.at, all2_set (wires_kept wu kp) (n.kept kp)⟩, d.b.up u (by simp)⟩
theorem DSt.free {H0 H : Hp} {a kl cl p : Addr} {ks : List Knot} {ws : List Wire} (d : DSt H0 a kl cl H ks ws) (f : H p = none) : H0 p = none := by
  cases e : H0 p with
  | none => rfl
  | some u =>
    have n : p ∉ [a, kl, cl] := fun m => by
      rcases List.mem_cons.mp m with rfl | m
      · obtain ⟨x, y, z, h, _⟩ := d.pot; rw [f] at h; cases h
      rcases List.mem_cons.mp m with rfl | m
      · obtain ⟨x, h, _⟩ := d.k; rw [f] at h; cases h
      · rw [List.mem_singleton.mp m] at f
        obtain ⟨x, h, _⟩ := d.c; rw [f] at h; cases h
    rw [d.b p u n e] at f
    cases f
theorem DSt.outer {H H0 H' : Hp} {a kl cl : Addr} {ks : List Knot} {ws : List Wire} (d : DSt H0 a kl cl H' ks ws) (s : Same H H0) (fk : H kl = none) (fc : H cl = none) : Z.But a H H' :=
  ⟨fun b u ne h => d.b b u (fun m => by
    rcases List.mem_cons.mp m with rfl | m
    · exact ne rfl
    rcases List.mem_cons.mp m with rfl | m
    · rw [fk] at h; cases h
    · rw [List.mem_singleton.mp m, fc] at h; cases h) (s _ _ h)⟩
theorem cut_strs (xs : List Str) : ∃ ys : List Str, cutV (xs.map V.str) (some (-1)) none = ys.map V.str ∧ (∀ y ∈ ys, y ∈ xs) ∧ (xs ≠ [] → ys ≠ []) := by
  by_cases h : xs = []
  · subst h
    exact ⟨[], by unfold cutV; simp, nofun, fun z => absurd rfl z⟩
  · obtain ⟨v, hv, e⟩ := cut_end (xs := xs.map V.str) (by simpa using h)
    obtain ⟨y, hy, rfl⟩ := List.mem_map.mp hv
    exact ⟨[y], e, fun z hz => by rw [List.mem_singleton.mp hz]; exact hy, fun _ => by simp⟩
theorem Bld.nil : Bld [] [] (fun _ => 0) :=
  ⟨nofun, List.nodup_nil, nofun, nofun, nofun, nofun, List.nodup_nil, nofun, nofun, fun h => absurd rfl h⟩
theorem len_pick {r4 r5 r7 : Int} {b : Bool} (h4 : 0 ≤ r4 ∧ r4 < 7) (h5 : 0 ≤ r5 ∧ r5 < 24) (h7 : 0 ≤ r7 ∧ r7 < 6) : ∃ n : Nat, atI [V.int (1 + r4), V.int (1 + r5)] (max (if b = true then 1 else 0) (r7 / 5)) = some (.int (n : Nat)) ∧ n ≤ 24 ∧ 1 ≤ n := by
  have c : max (if b = true then (1 : Int) else 0) (r7 / 5) = 0 ∨ max (if b = true then (1 : Int) else 0) (r7 / 5) = 1 := by
    cases b
    · simp only [Bool.false_eq_true, if_false]; omega
    · simp only [if_true]; omega
  rcases c with e | e
  · exact ⟨(1 + r4).toNat, by rw [e, show (((1 + r4).toNat : Nat) : Int) = 1 + r4 by omega]; exact atI_nat (j := 0) rfl, by omega, by omega⟩
  · exact ⟨(1 + r5).toNat, by rw [e, show (((1 + r5).toNat : Nat) : Int) = 1 + r5 by omega]; exact atI_nat (j := 1) rfl, by omega, by omega⟩
theorem DSt.same {H0 H H' : Hp} {a kl cl : Addr} {ks : List Knot} {ws : List Wire} (d : DSt H0 a kl cl H ks ws) (s : Same H H') : DSt H0 a kl cl H' ks ws := d.but (.ofSame s) (d.pot.mono s)

def sp_l_drawn (K : PySem.W.Frag) : Sp := fun vz H Q Ex => ∃ (a : Addr), vz = [.ref a] ∧ (Pot H a) ∧ (∀ r p q vs us ks ws H', H' r = some (.tup [.ref p, .ref q]) → H' p = some (.lst vs) → H' q = some (.lst us) → Knots H' vs ks → Wires H' us ws → Valid ks ws → (∀ k ∈ ks, k.nd.small) → ks ≠ [] → H p = none → H q = none → p ≠ q → Pot H' a → Z.But a H H' → Q (.ref r) H')
theorem c_l_drawn {K : PySem.W.Frag} {H : Hp} {Q : VK} {Ex : XK} {a : Addr} (h1 : Pot H a) (k : ∀ r p q vs us ks ws H', H' r = some (.tup [.ref p, .ref q]) → H' p = some (.lst vs) → H' q = some (.lst us) → Knots H' vs ks → Wires H' us ws → Valid ks ws → (∀ k ∈ ks, k.nd.small) → ks ≠ [] → H p = none → H q = none → p ≠ q → Pot H' a → Z.But a H H' → Q (.ref r) H') : sp_l_drawn K [.ref a] H Q Ex := ⟨a, rfl, h1, k⟩
theorem ok_l_drawn {g : Prop} {P : Program} {w : World} {K : PySem.W.Frag} {mg : Str → Option Value} {base : Heap} (E : Ev K mg) : Z.Pr g P w K mg base 3 (He.ga K "_law_drawn") d_l_drawn p_l_drawn (sp_l_drawn K) := by
  obtain ⟨fd, FD⟩ := E.fn 72 (d := d_l_drawn)
  refine ⟨fd, FD, Z.FunD.okG FD sc_l_drawn (fun vz H Q Ex h => ?_) (fun cdv A outer s H vz Q Ex hr hgd h => ?_)⟩
  · obtain ⟨_, rfl, _⟩ := h
    rfl
  · have hu := hr.units
    obtain ⟨a, rfl, h1, k⟩ := h
    have F_l_name := ok_l_name (g := g) (P := P) (w := w) (base := base) E
    have F_l_pick := ok_l_pick (g := g) (P := P) (w := w) (base := base) E
    have F_l_sources := ok_l_sources (g := g) (P := P) (w := w) (base := base) E
    have F_l_spec := ok_l_spec (g := g) (P := P) (w := w) (base := base) E
    have F_l_take := ok_l_take (g := g) (P := P) (w := w) (base := base) E
    have F_l_takes := ok_l_takes (g := g) (P := P) (w := w) (base := base) E
    have F_l_turned := ok_l_turned (g := g) (P := P) (w := w) (base := base) E
    refine ⟨_, (Z.zs_cons (Z.z_par (i := 1) (j := 2) rfl sc_l_drawn.nd rfl rfl (by decide) rfl rfl (pa_cons (pe_lst pa_nil) (pa_cons (pe_lst pa_nil) pa_nil)) (by rfl))
   (Z.zs_cons (Z.z_set (i := 3) sc_l_drawn.nd rfl (Or.inl rfl) (pe_cmpR (Z.opEqK K rfl hu) (Z.pe_f F_l_take (hr.mono (by decide)) hgd (by rfl) (E.glo 34) bd_l_take (passL) (pa_cons (pv 0) (pa_cons pe_int pa_nil))) pe_int (nomark _)))
   (Z.zs_cons (Z.z_for (passes_of rfl) rfl (pi_range1 (by rfl) (E.free 41) (pa_cons (pe_ix (Z.ixUK K rfl) (pe_lst (pa_cons (pe_op (Z.opAddK K rfl) pe_int (Z.pe_f F_l_take (hr.mono (by decide)) hgd (by rfl) (E.glo 34) bd_l_take (passL) (pa_cons (pv 0) (pa_cons pe_int pa_nil)))) (pa_cons (pe_op (Z.opAddK K rfl) pe_int (Z.pe_f F_l_take (hr.mono (by decide)) hgd (by rfl) (E.glo 34) bd_l_take (passL) (pa_cons (pv 0) (pa_cons pe_int pa_nil)))) pa_nil))) (pe_callB (Z.cmax2 rfl) (by rfl) (E.free 31) (by decide +kernel) (pa_cons (pe_callTy Z.cint (by rfl) (E.free 43) (by decide +kernel) (pa_cons (pv 3) pa_nil)) (pa_cons (pe_op op_fdivW (Z.pe_f F_l_take (hr.mono (by decide)) hgd (by rfl) (E.glo 34) bd_l_take (passL) (pa_cons (pv 0) (pa_cons pe_int pa_nil))) pe_int) pa_nil))) (fun _ _ => rfl)) pa_nil)) (pg_name (i := 4) sc_l_drawn.nd rfl (Or.inl rfl))
   (Z.zs_cons (Z.z_par (i := 5) (j := 6) rfl sc_l_drawn.nd rfl rfl (by decide) rfl rfl (pa_cons (Z.pe_f F_l_name (hr.mono (by decide)) hgd (by rfl) (E.glo 97) bd_l_name (passL) (pa_cons (pv 0) (pa_cons (pe_lc (own := [("_law_other_here", 12), ("_law_one", 11)]) (g := gTup K 2 (gCons (gName 12) (gCons (gName 11) gNil))) rfl sc_l_drawn.nd (Z.pi_seqK K rfl (pv 1)) (blkOk_by (own := [("_law_other_here", 12), ("_law_one", 11)]) (N := n_l_drawn) (sc := (defScope s_l_drawn)) (by decide +kernel)) (fun _ _ _ _ _ => (pg_tup (n := 2) (by rfl) (pgs_cons (pg_name (i := 12) sc_l_drawn.nd rfl (Or.inl rfl)) (pgs_cons (pg_name (i := 11) sc_l_drawn.nd rfl (Or.inl rfl)) pgs_nil)))) (fun _ _ _ _ _ => pts_nil) (fun _ _ _ _ _ => (pv 12))) pa_nil))) (pa_cons (Z.pe_f F_l_spec (hr.mono (by decide)) hgd (by rfl) (E.glo 96) bd_l_spec (passL) (pa_cons (pv 0) pa_nil)) pa_nil)) (by rfl))
   (Z.zs_cons (Z.z_if (PW.pt (pw_or (pt_cmpR (Z.opEqK K rfl hu) (pv 4) pe_int (nomark _)) (pw_or (pt_cmpR (Z.opEqK K rfl hu) (Z.pe_f F_l_take (hr.mono (by decide)) hgd (by rfl) (E.glo 34) bd_l_take (passL) (pa_cons (pv 0) (pa_cons (pe_op (Z.opAddK K rfl) pe_int (pe_op (Z.opMulK K rfl) pe_int (pe_callTy Z.cint (by rfl) (E.free 43) (by decide +kernel) (pa_cons (pv 3) pa_nil)))) pa_nil))) pe_int (nomark _)) (pw_or1 (pt_cmpR op_gt (pe_op (Z.opAddK K rfl) (pe_callB (Z.clenK K rfl) (by rfl) (E.free 32) (by decide +kernel) (pa_cons (pv 2) pa_nil)) (pe_callB (Z.clenK K rfl) (by rfl) (E.free 32) (by decide +kernel) (pa_cons (Z.pe_f F_l_takes (hr.mono (by decide)) hgd (by rfl) (E.glo 95) bd_l_takes (passL) (pa_cons (pv 6) pa_nil)) pa_nil))) pe_int (nomark _)))))) (Z.zs_one (Z.z_set (i := 6) sc_l_drawn.nd rfl (Or.inl rfl) (pe_tup (pa_cons pe_str pa_nil)))) Z.zs_nil)
   (Z.zs_cons (Z.z_set (i := 7) sc_l_drawn.nd rfl (Or.inl rfl) (Z.pe_f F_l_sources (hr.mono (by decide)) hgd (by rfl) (E.glo 94) bd_l_sources (passL) (pa_cons (pv 1) pa_nil)))
   (Z.zs_cons (Z.z_if (pt_val (pv 3)) (Z.zs_one (Z.z_set (i := 7) sc_l_drawn.nd rfl (Or.inl rfl) (pe_slice (Z.slUK K rfl) (pv 7) (po_some (pe_un un_neg pe_int)) po_none))) Z.zs_nil)
   (Z.zs_cons (Z.z_expr (pe_bm PySem.F.plainAttrs_list PySem.F.slot_list_append PySem.F.type_list_append mt_append (pv 1) (pa_cons (pe_tup (pa_cons (pv 5) (pa_cons (pv 6) pa_nil))) pa_nil)))
   (Z.zs_one (Z.z_for (passes_of rfl) rfl (pi_range1 (by rfl) (E.free 41) (pa_cons (pe_callB (Z.clenK K rfl) (by rfl) (E.free 32) (by decide +kernel) (pa_cons (Z.pe_f F_l_takes (hr.mono (by decide)) hgd (by rfl) (E.glo 95) bd_l_takes (passL) (pa_cons (pv 6) pa_nil)) pa_nil)) pa_nil)) (pg_name (i := 8) sc_l_drawn.nd rfl (Or.inl rfl))
   (Z.zs_cons (Z.z_set (i := 9) sc_l_drawn.nd rfl (Or.inl rfl) (pe_ix (Z.ixUK K rfl) (pe_lst (pa_cons pe_int (pa_cons pe_int (pa_cons (Z.pe_f F_l_take (hr.mono (by decide)) hgd (by rfl) (E.glo 34) bd_l_take (passL) (pa_cons (pv 0) (pa_cons pe_int pa_nil))) (pa_cons pe_int pa_nil))))) (Z.pe_f F_l_take (hr.mono (by decide)) hgd (by rfl) (E.glo 34) bd_l_take (passL) (pa_cons (pv 0) (pa_cons pe_int pa_nil))) (fun _ _ => rfl)))
   (Z.zs_one (Z.z_expr (pe_bm PySem.F.plainAttrs_list PySem.F.slot_list_append PySem.F.type_list_append mt_append (pv 2) (pa_cons (pe_tup (pa_cons (Z.pe_f F_l_pick (hr.mono (by decide)) hgd (by rfl) (E.glo 93) bd_l_pick (passL) (pa_cons (pv 0) (pa_cons (pe_ifExp (pt_cmpR (Z.opEqK K rfl hu) (pv 8) pe_int (nomark _)) (pv 7) (Z.pe_f F_l_sources (hr.mono (by decide)) hgd (by rfl) (E.glo 94) bd_l_sources (passL) (pa_cons (pv 1) pa_nil))) pa_nil))) (pa_cons (pv 5) (pa_cons (pv 8) (pa_cons (pv 9) pa_nil))))) pa_nil)))))))))))))
   (Z.zs_cons (Z.z_for (passes_of rfl) rfl (pi_range1 (by rfl) (E.free 41) (pa_cons (pe_callB (Z.clenK K rfl) (by rfl) (E.free 32) (by decide +kernel) (pa_cons (pv 2) pa_nil)) pa_nil)) (pg_name (i := 10) sc_l_drawn.nd rfl (Or.inl rfl))
   (Z.zs_one (Z.z_if (PW.pt (pw_and (pt_cmpR op_gt (pe_ix (Z.ixUK K rfl) (pe_ix (Z.ixUK K rfl) (pv 2) (pv 10) (fun _ _ => rfl)) pe_int (fun _ _ => rfl)) pe_int (nomark _)) (pw_and1 (pt_cmpR (Z.opEqK K rfl hu) (Z.pe_f F_l_take (hr.mono (by decide)) hgd (by rfl) (E.glo 34) bd_l_take (passL) (pa_cons (pv 0) (pa_cons pe_int pa_nil))) pe_int (nomark _))))) (Z.zs_one (Z.z_asg (pe_op (Z.opAddK K rfl) (pe_tup (pa_cons (Z.pe_f F_l_pick (hr.mono (by decide)) hgd (by rfl) (E.glo 93) bd_l_pick (passL) (pa_cons (pv 0) (pa_cons (Z.pe_f F_l_sources (hr.mono (by decide)) hgd (by rfl) (E.glo 94) bd_l_sources (passL) (pa_cons (pv 1) pa_nil)) pa_nil))) pa_nil)) (pe_slice (Z.slUK K rfl) (pe_ix (Z.ixUK K rfl) (pv 2) (pv 10) (fun _ _ => rfl)) (po_some pe_int) po_none)) (pg_sub (pv 2) (pv 10) set_list))) Z.zs_nil)))
   (Z.zs_one (Z.z_ret (pe_tup (pa_cons (Z.pe_f F_l_turned (hr.mono (by decide)) hgd (by rfl) (E.glo 92) bd_l_turned (passL) (pa_cons (pv 0) (pa_cons (pv 1) pa_nil))) (pa_cons (Z.pe_f F_l_turned (hr.mono (by decide)) hgd (by rfl) (E.glo 92) bd_l_turned (passL) (pa_cons (pv 0) (pa_cons (pv 2) pa_nil))) pa_nil))))))))), ?_⟩
    refine Z.i_start (σ := [some (.ref a), none, none, none, none, none, none, none, none, none, none, none, none]) rfl ?_
    try dsimp only [Z.cxK]
    k_call_by "za" 0
    rename_i kl H1 n1 cl H2 n2
    have p2 : Pot H2 a := (h1.mono n1.same).mono n2.same
    have ak : a ≠ kl := (h1.ne n1.fr).symm
    have ac : a ≠ cl := ((h1.mono n1.same).ne n2.fr).symm
    have kc : kl ≠ cl := n2.ne n1.at
    have fk : H kl = none := n1.fr
    have fc : H cl = none := fresh_of n1.same n2.fr
    have s02 : Same H H2 := n1.same.trans n2.same
    have d2 : DSt H2 a kl cl H2 [] [] := ⟨ak, ac, kc, p2, ⟨[], n2.get n1.at, .nil⟩, ⟨[], n2.at, .nil⟩, .refl⟩
    refine c_l_take p2 (by decide) (by decide) fun r3 H3 r30 r31 p3 b3 => ?_
    have d3 := d2.but b3 p3
    k_call_by "za" 0
    generalize decide (r3 = 0) = isl
    refine c_l_take p3 (by decide) (by decide) fun r4 H4 r40 r41 p4 b4 => ?_
    have d4 := d3.but b4 p4
    k_call_by "za" 0
    refine c_l_take p4 (by decide) (by decide) fun r5 H5 r50 r51 p5 b5 => ?_
    have d5 := d4.but b5 p5
    k_call_by "za" 0
    rename_i tl H6 n6
    have d6 := d5.same n6.same
    refine c_l_take d6.pot (by decide) (by decide) fun r7 H7 r70 r71 p7 b7 => ?_
    have d7 := d6.but b7 p7
    obtain ⟨n, hn, ln, n1'⟩ := len_pick (b := isl) ⟨r40, r41⟩ ⟨r50, r51⟩ ⟨r70, r71⟩
    have e7 := b7.get (p5.ne n6.fr) n6.at
    k_call_by "za" 0
    refine Z.i_ixL e7 hn ?_
    k_call_by "za" 0
    clear hn e7 b7 n6 b5 b4 b3 p3 p4 p5 d3 d4 d5 d6 r40 r41 r50 r51 r70 r71
    refine Z.loop_range0 (fun i σ H' => (∃ x4 x5 x6 x7 x8 x9, σ = [some (.ref a), some (.ref kl), some (.ref cl), some (.bl isl), x4, x5, x6, x7, x8, x9, none, none, none]) ∧ ∃ ks ws lim, ks.length = i ∧ ws.length ≤ 48 ∧ Bld ks ws lim ∧ Full ks lim ∧ DSt H2 a kl cl H' ks ws) ?_ ?_ ?_
    · exact ⟨⟨_, _, _, _, _, _, rfl⟩, [], [], _, rfl, by simp, Bld.nil, (fun k hk => by cases hk), d7⟩
    · clear d7 p7
      rintro i σ H8 hi ⟨⟨x4, x5, x6, x7, x8, x9, rfl⟩, ks, ws, lim, hl, hw, bl, fu, d8⟩
      obtain ⟨vs, hv, kv⟩ := d8.k
      k_call_by "za" 0
      refine Z.comp_list (xs := vs) (fun j acc H' => acc = ((ks.take j).map (·.nm)).map V.str ∧ Same H8 H') ?_ ?_ ?_ ?_
      · intro D H' n'
        exact ⟨rfl, n'.same⟩
      · rintro j acc H' hj ⟨_, s'⟩
        exact SqL.of (s' _ _ hv)
      · rintro D j acc x H' fD hx hD ⟨rfl, s'⟩
        obtain ⟨kn, hk, r, y, rfl, hr, _⟩ := kv.get hx
        have lj := (List.getElem?_eq_some_iff.mp hk).1
        refine Z.i_tupT (s' _ _ hr) rfl ?_
        k_call_by "za" 0
        refine Z.i_end hD (by simp only [List.length_map, List.length_take, sizeLine_eq]; omega) fun H3 u3 => ⟨?_, by k_call_by "fr" 0⟩
        rw [take_snoc hk, List.map_append, List.map_append]; rfl
      rintro D acc H9 fD hD ⟨rfl, s9⟩
      rw [kv.len, List.take_length] at hD
      have d9 := d8.same s9
      have aD : a ≠ D := (d8.pot.ne fD).symm
      k_call_by "za" 0
      refine c_l_name d9.pot hD (by rw [List.length_map]; omega) (fun y hy => by
        obtain ⟨k', hk', rfl⟩ := List.mem_map.mp hy
        exact bl.nm k' hk') aD fun tag H10 nt nin p10 b10 => ?_
      have d10 := d9.but b10 p10
      k_call_by "za" 0
      refine c_l_spec p10 fun v0 nd0 H11 wf0 ni0 sp0 p11 b11 => ?_
      have d11 := d10.but b11 p11
      clear hD s9 b10 b11 d9 d10 p10 hv kv fD
      k_call_by "ya" 0
      refine Z.i_ifG (fun σ' H' => ∃ v nd, σ' = [some (.ref a), some (.ref kl), some (.ref cl), some (.bl isl), some (.int (i : Nat)), some (.str tag), some v, x7, x8, x9, none, none, none] ∧ (nd.wf ∧ nd.small) ∧ IsSpec H' v nd ∧ (nd.isIn = false → i ≠ 0 ∧ ws.length + nd.takes.length ≤ 48) ∧ DSt H2 a kl cl H' ks ws) ?_ ?_
      · rintro σ' H12 ⟨v, nd, rfl, wf, sp, hin, d12⟩
        clear d11 sp0
        obtain ⟨vs, hv, kv⟩ := d12.k
        k_call_by "za" 0
        refine c_l_sources hv kv (by omega) fun q H13 fq s13 e13 => ?_
        have d13 := d12.same s13
        have qa : q ≠ a := d12.pot.ne fq
        have qk : q ≠ kl := (ne_of_none hv fq).symm
        have qc : q ≠ cl := by
          obtain ⟨us, hu, _⟩ := d12.c
          exact (ne_of_none hu fq).symm
        k_call_by "ya" 0
        refine Z.i_ifG (fun σ' H' => ∃ q' ys, σ' = [some (.ref a), some (.ref kl), some (.ref cl), some (.bl isl), some (.int (i : Nat)), some (.str tag), some v, some (.ref q'), x8, x9, none, none, none] ∧ H' q' = some (.lst (ys.map V.str)) ∧ (∀ y ∈ ys, ∃ k' ∈ ks, k'.nm = y ∧ k'.nd.isOut = false) ∧ (ks ≠ [] → ys ≠ []) ∧ ys.length ≤ 1000 ∧ q' ≠ a ∧ q' ≠ kl ∧ q' ≠ cl ∧ IsSpec H' v nd ∧ DSt H2 a kl cl H' ks ws) ?_ ?_
        · clear e13 s13 d13 qa qk qc fq hv kv d12 sp
          rintro σ' H14 ⟨q', ys, rfl, eq', hys, nys, lys, qa, qk, qc, sp, d14⟩
          obtain ⟨vs, hv, kv⟩ := d14.k
          obtain ⟨rr, ss, rfl, er, es⟩ := sp
          have lv := kv.len
          k_call_by "za" 0
          rename_i t15 H15 n15 H16 u16
          have er15 := n15.get er
          have es15 : ∀ ns, SpecExt nd = some ns → H15 ss = some (.tup (ns.map V.int)) := fun ns e => n15.get (es ns e)
          have d16 : DSt H2 a kl cl H16 (ks ++ [(Knot.mk tag nd)]) ws := (d14.same n15.same).addk (n15.get hv) u16 ⟨t15, .ref rr, rfl, n15.at, rr, ss, rfl, er15, es15⟩
          have kp16 : Kept H15 H16 := .up u16 (n15.get hv)
          refine c_l_takes (kp16.t _ _ er15) (fun ns e => kp16.t _ _ (es15 ns e)) wf.1 fun t17 H17 s17 e17 => ?_
          have lt := takes_le wf.1
          k_call_by "za" 0
          rw [tk_len]
          refine Z.i_rng1N (by omega) ?_
          have bk := bl.knot (Knot.mk tag nd) nt nin wf (fun e => by
            cases hi' : nd.isIn with
            | true => cases nd <;> first | rfl | cases hi'
            | false =>
              have := (hin hi').1
              rw [e] at hl
              exact absurd hl.symm this)
          have e17' : H17 q' = some (.lst (ys.map V.str)) := s17 _ _ (u16.get qk (n15.get eq'))
          have d17 := d16.same s17
          clear d16 kp16 er15 es15 s17 e17 u16 n15 d14 hv kv er es
          refine Z.loop_range0 (fun j σ H' => (∃ y8 y9, σ = [some (.ref a), some (.ref kl), some (.ref cl), some (.bl isl), some (.int (i : Nat)), some (.str tag), some (.ref rr), some (.ref q'), y8, y9, none, none, none]) ∧ ∃ ws' lim', ws'.length = ws.length + j ∧ Bld (ks ++ [(Knot.mk tag nd)]) ws' lim' ∧ (∀ k' ∈ ks, lim' k'.nm = k'.nd.takes.length) ∧ lim' tag = j ∧ DSt H2 a kl cl H' (ks ++ [(Knot.mk tag nd)]) ws' ∧ H' q' = some (.lst (ys.map V.str))) ?_ ?_ ?_
          · refine ⟨⟨_, _, rfl⟩, ws, _, rfl, bk, fun k' hk' => ?_, if_pos rfl, d17, e17'⟩
            show (if k'.nm = tag then 0 else lim k'.nm) = _
            rw [if_neg (fun e => nin (by rw [← e]; exact List.mem_map_of_mem hk'))]
            exact fu k' hk'
          · clear d17 e17'
            rintro j σ H18 hj ⟨⟨y8, y9, rfl⟩, ws', lim', lw, b', f', l', d18, e18⟩
            have nin' : nd.isIn = false := by
              cases hi' : nd.isIn with
              | false => rfl
              | true => rw [takes_in hi'] at hj; simp at hj
            obtain ⟨i0, wlim⟩ := hin nin'
            have kne : ks ≠ [] := fun e => by rw [e] at hl; exact i0 hl.symm
            k_call_by "za" 0
            refine c_l_take d18.pot (by decide) (by decide) fun r19 H19 r190 r191 p19 b19 => ?_
            have d19 := d18.but b19 p19
            have e19 := b19.get qa e18
            k_call_by "za" 0
            rename_i tl H20 n20
            have d20 := d19.same n20.same
            refine c_l_take d20.pot (by decide) (by decide) fun r21 H21 r210 r211 p21 b21 => ?_
            have d21 := d20.but b21 p21
            have e7 := b21.get qa (n20.get e19)
            obtain ⟨dl, hdl, bdl⟩ : ∃ dl : Int, atI [V.int 0, V.int 1, V.int r19, V.int 9999] r21 = some (.int dl) ∧ 0 ≤ dl ∧ dl ≤ 9999 := by
              obtain rfl | rfl | rfl | rfl : r21 = 0 ∨ r21 = 1 ∨ r21 = 2 ∨ r21 = 3 := by omega
              · exact ⟨0, rfl, by decide, by decide⟩
              · exact ⟨1, rfl, by decide, by decide⟩
              · exact ⟨r19, rfl, r190, by omega⟩
              · exact ⟨9999, rfl, by decide, by decide⟩
            have etl := b21.get (p19.ne n20.fr) n20.at
            k_call_by "za" 0
            refine Z.i_ixL etl hdl ?_
            clear etl n20 b21 b19 p19 d18 d19 d20 e18 e19 r190 r191 r210 r211
            obtain ⟨usl, hul, _⟩ := d21.c
            k_call_by "za" 0
            refine Z.ite2' (fun hz0 => ?_) (fun hz0 => ?_)
            · k_call_by "za" 0
              have dz := d21
              have ez := e7
              have nz : ys.map V.str ≠ [] := by simpa using nys kne
              have lz : (ys.map V.str).length ≤ 1000 := by rw [List.length_map]; exact lys
              have azq : a ≠ q' := qa.symm
              have hzs : ∀ z ∈ ys, (∃ k' ∈ ks ++ [(Knot.mk tag nd)], k'.nm = z ∧ k'.nd.isOut = false) ∧ (j = 0 → z ∈ ks.map (·.nm)) := fun z hz => by
                obtain ⟨k', hk', e, o⟩ := hys z hz
                exact ⟨⟨k', List.mem_append.mpr (.inl hk'), e, o⟩, fun _ => by rw [← e]; exact List.mem_map_of_mem hk'⟩
              refine c_l_pick dz.pot ez nz lz azq fun v2 H24 m2 p24 b24 => ?_
              obtain ⟨z, hz, rfl⟩ := List.mem_map.mp m2
              have d24 := dz.but b24 p24
              obtain ⟨us, hu, wu⟩ := d24.c
              have lu := wu.len
              k_call_by "za" 0
              rename_i t25 H25 n25 H26 u26
              have d26 := (d24.same n25.same).addc (n25.get hu) u26 (w := ⟨z, tag, j, dl⟩) ⟨t25, rfl, n25.at⟩
              obtain ⟨src, old⟩ := hzs z hz
              have b'' := b'.wire ⟨z, tag, j, dl⟩ (Knot.mk tag nd) (by simp) rfl l' hj bdl src (fun (e : j = 0) => by
                show rk (ks ++ [(Knot.mk tag nd)]) z < rk (ks ++ [(Knot.mk tag nd)]) tag
                rw [rk_old (old e), rk_new (k := (Knot.mk tag nd)) nin]
                exact rk_lt (old e))
              refine ⟨⟨_, _, rfl⟩, _, _, ?_, b'', ?_, ?_, d26, ?_⟩
              · rw [List.length_append, lw]; simp only [List.length_cons, List.length_nil]; omega
              · intro k' hk'
                show (if k'.nm = tag then j + 1 else lim' k'.nm) = _
                rw [if_neg (fun e => nin (by rw [← e]; exact List.mem_map_of_mem hk'))]
                exact f' k' hk'
              · show (if tag = tag then j + 1 else lim' tag) = j + 1
                rw [if_pos rfl]
              · exact u26.get qc (n25.get (b24.get qa e7))
            · obtain ⟨vs2, hv2, kv2⟩ := d21.k
              k_call_by "za" 0
              refine c_l_sources hv2 kv2 (by rw [List.length_append]; simp only [List.length_cons, List.length_nil]; omega) fun qq H22 fq s22 ez => ?_
              k_call_by "za" 0
              have dz := d21.same s22
              have e7 := s22 _ _ e7
              have azq : a ≠ qq := (d21.pot.ne fq).symm
              have lz : ((((ks ++ [(Knot.mk tag nd)]).filter fun k => !k.nd.isOut).map (·.nm)).map V.str).length ≤ 1000 := by
                rw [List.length_map, List.length_map]
                refine Nat.le_trans (List.length_filter_le _ _) ?_
                rw [List.length_append]; simp only [List.length_cons, List.length_nil]; omega
              have nz : (((ks ++ [(Knot.mk tag nd)]).filter fun k => !k.nd.isOut).map (·.nm)).map V.str ≠ [] := by
                obtain ⟨k', hk', o⟩ := bl.one kne
                intro z
                have : V.str k'.nm ∈ (((ks ++ [(Knot.mk tag nd)]).filter fun k => !k.nd.isOut).map (·.nm)).map V.str := List.mem_map_of_mem (List.mem_map_of_mem (List.mem_filter.mpr ⟨List.mem_append.mpr (.inl hk'), by simp [o]⟩))
                rw [z] at this
                cases this
              have hzs : ∀ z ∈ ((ks ++ [(Knot.mk tag nd)]).filter fun k => !k.nd.isOut).map (·.nm), (∃ k' ∈ ks ++ [(Knot.mk tag nd)], k'.nm = z ∧ k'.nd.isOut = false) ∧ (j = 0 → z ∈ ks.map (·.nm)) := fun z hz => by
                obtain ⟨k', hk', rfl⟩ := List.mem_map.mp hz
                obtain ⟨m1, m2⟩ := List.mem_filter.mp hk'
                exact ⟨⟨k', m1, rfl, by simpa using m2⟩, fun e => absurd (by omega) hz0⟩
              refine c_l_pick dz.pot ez nz lz azq fun v2 H24 m2 p24 b24 => ?_
              obtain ⟨z, hz, rfl⟩ := List.mem_map.mp m2
              have d24 := dz.but b24 p24
              obtain ⟨us, hu, wu⟩ := d24.c
              have lu := wu.len
              k_call_by "za" 0
              rename_i t25 H25 n25 H26 u26
              have d26 := (d24.same n25.same).addc (n25.get hu) u26 (w := ⟨z, tag, j, dl⟩) ⟨t25, rfl, n25.at⟩
              obtain ⟨src, old⟩ := hzs z hz
              have b'' := b'.wire ⟨z, tag, j, dl⟩ (Knot.mk tag nd) (by simp) rfl l' hj bdl src (fun (e : j = 0) => by
                show rk (ks ++ [(Knot.mk tag nd)]) z < rk (ks ++ [(Knot.mk tag nd)]) tag
                rw [rk_old (old e), rk_new (k := (Knot.mk tag nd)) nin]
                exact rk_lt (old e))
              refine ⟨⟨_, _, rfl⟩, _, _, ?_, b'', ?_, ?_, d26, ?_⟩
              · rw [List.length_append, lw]; simp only [List.length_cons, List.length_nil]; omega
              · intro k' hk'
                show (if k'.nm = tag then j + 1 else lim' k'.nm) = _
                rw [if_neg (fun e => nin (by rw [← e]; exact List.mem_map_of_mem hk'))]
                exact f' k' hk'
              · show (if tag = tag then j + 1 else lim' tag) = j + 1
                rw [if_pos rfl]
              · exact u26.get qc (n25.get (b24.get qa e7))
          · rintro σ H27 ⟨⟨y8, y9, rfl⟩, ws', lim', lw, b', f', l', d27, e27⟩
            refine ⟨⟨_, _, _, _, _, _, rfl⟩, _, ws', lim', by rw [List.length_append, hl]; rfl, ?_, b', ?_, d27⟩
            · cases hi' : nd.isIn with
              | true => rw [takes_in hi'] at lw; simp at lw; omega
              | false => have := (hin hi').2; omega
            · intro k' hk'
              rcases List.mem_append.mp hk' with m | m
              · exact f' k' m
              · rw [List.mem_singleton.mp m]; exact l'
        · intro nx' k'
          have hsrc : ∀ y ∈ (ks.filter fun k => !k.nd.isOut).map (·.nm), ∃ k' ∈ ks, k'.nm = y ∧ k'.nd.isOut = false := fun y hy => by
            obtain ⟨k', hk', rfl⟩ := List.mem_map.mp hy
            obtain ⟨m1, m2⟩ := List.mem_filter.mp hk'
            exact ⟨k', m1, rfl, by simpa using m2⟩
          have hne : ks ≠ [] → (ks.filter fun k => !k.nd.isOut).map (·.nm) ≠ [] := fun h z => by
            obtain ⟨k', hk', o⟩ := bl.one h
            have : k'.nm ∈ (ks.filter fun k => !k.nd.isOut).map (·.nm) := List.mem_map_of_mem (List.mem_filter.mpr ⟨hk', by simp [o]⟩)
            rw [z] at this
            cases this
          have hlen : ((ks.filter fun k => !k.nd.isOut).map (·.nm)).length ≤ 1000 := by
            rw [List.length_map]
            exact Nat.le_trans (List.length_filter_le _ _) (by omega)
          k_call_by "za" 0
          cases isl
          · refine Z.ifF rfl ?_
            k_call_by "za" 0
            exact k' _ _ ⟨q, _, rfl, e13, hsrc, hne, hlen, qa, qk, qc, sp.kept (.of s13), d13⟩
          · refine Z.ifT rfl ?_
            k_call_by "za" 0
            rename_i q2 H14 n14
            obtain ⟨ys, ey, y1, y2⟩ := cut_strs ((ks.filter fun k => !k.nd.isOut).map (·.nm))
            have e14 : H14 q2 = some (.lst (ys.map V.str)) := by rw [n14.at, ey]
            have d14 := d13.same n14.same
            have ln14 : ys.length ≤ 1000 := by
              have h := congrArg List.length ey
              rw [show (ys.map V.str).length = ys.length from List.length_map _] at h
              rw [← h]
              unfold cutV
              refine Nat.le_trans (List.length_take_le' _ _) ?_
              rw [List.length_drop, List.length_map]
              omega
            refine k' _ _ ⟨q2, ys, rfl, e14, fun y hy => hsrc y (y1 y hy), fun h => y2 (hne h), ln14, d13.pot.ne n14.fr, ?_, ?_, sp.kept (.of (s13.trans n14.same)), d14⟩
            · obtain ⟨vs', hv', _⟩ := d13.k
              exact (ne_of_none hv' n14.fr).symm
            · obtain ⟨us', hu', _⟩ := d13.c
              exact (ne_of_none hu' n14.fr).symm
      · intro nx' k'
        have sIn : ∀ {H' : Hp} {r : Addr}, H' r = some (.tup [.str "inlet"]) → IsSpec H' (.ref r) .inlet := fun {_ r} e => ⟨r, r, rfl, e, fun _ z => nomatch z⟩
        k_call_by "za" 0
        refine Z.ite2' (fun hz => ?_) (fun hz => ?_)
        · k_call_by "za" 0
          rename_i r12 H12 n12
          exact k' _ _ ⟨_, .inlet, rfl, ⟨trivial, trivial⟩, sIn n12.at, (fun z => nomatch z), d11.same n12.same⟩
        k_call_by "za" 0
        refine c_l_take p11 (by cases isl <;> decide) (by cases isl <;> decide) fun r12 H12 r120 r121 p12 b12 => ?_
        have d12 := d11.but b12 p12
        k_call_by "za" 0
        refine Z.ite2' (fun hz2 => ?_) (fun hz2 => ?_)
        · k_call_by "za" 0
          rename_i r13 H13 n13
          exact k' _ _ ⟨_, .inlet, rfl, ⟨trivial, trivial⟩, sIn n13.at, (fun z => nomatch z), d12.same n13.same⟩
        obtain ⟨us, hu, wu⟩ := d12.c
        have lu := wu.len
        obtain ⟨rr, ss, rfl, er, es⟩ := sp0.kept (p11.kept b12)
        k_call_by "za" 0
        refine c_l_takes er es wf0.1 fun t13 H13 s13 e13 => ?_
        k_call_by "za" 0
        rw [tk_len]
        refine Z.ite2' (fun hz3 => ?_) (fun hz3 => ?_)
        · k_call_by "za" 0
          rename_i r14 H14 n14
          exact k' _ _ ⟨_, .inlet, rfl, ⟨trivial, trivial⟩, sIn n14.at, (fun z => nomatch z), (d12.same s13).same n14.same⟩
        · k_call_by "za" 0
          exact k' _ _ ⟨_, nd0, rfl, wf0, ⟨rr, ss, rfl, s13 _ _ er, fun ns e => s13 _ _ (es ns e)⟩, fun _ => ⟨by omega, by omega⟩, d12.same s13⟩
    · rintro σ H8 ⟨⟨x4, x5, x6, x7, x8, x9, rfl⟩, ks, ws, lim, hl, hw, bl, fu, d8⟩
      obtain ⟨us, hu, wu⟩ := d8.c
      have lu := wu.len
      k_call_by "za" 0
      clear hu wu d7 p7
      refine Z.loop_range0 (fun j σ H' => (∃ y4 y5 y6 y7 y8 y9 y10, σ = [some (.ref a), some (.ref kl), some (.ref cl), some (.bl isl), y4, y5, y6, y7, y8, y9, y10, none, none]) ∧ ∃ ws', ws'.length = ws.length ∧ Bld ks ws' lim ∧ DSt H2 a kl cl H' ks ws') ?_ ?_ ?_
      · exact ⟨⟨_, _, _, _, _, _, _, rfl⟩, ws, rfl, bl, d8⟩
      · clear d8
        rintro j σ H9 hj ⟨⟨y4, y5, y6, y7, y8, y9, y10, rfl⟩, ws', lw, b', d9⟩
        obtain ⟨us', hu', wu'⟩ := d9.c
        have lu' := wu'.len
        obtain ⟨w, hw'⟩ : ∃ w, ws'[j]? = some w := ⟨_, List.getElem?_eq_getElem (by omega)⟩
        obtain ⟨v, hv, t, rfl, ht⟩ := wu'.get' hw'
        have lj := (List.getElem?_eq_some_iff.mp hv).1
        k_call_by "za" 0
        refine Z.i_ixL hu' (atI_nat hv) ?_
        k_call_by "za" 0
        refine Z.ite2' (fun hz => ?_) (fun hz => ?_)
        · k_call_by "za" 0
          refine c_l_take d9.pot (by decide) (by decide) fun r10 H10 r100 r101 p10 b10 => ?_
          have kp10 := d9.pot.kept b10
          have d10 := d9.but b10 p10
          have hu10 := b10.get d9.ac.symm hu'
          k_call_by "za" 0
          refine Z.ite2' (fun hz2 => ?_) (fun hz2 => ?_)
          · obtain ⟨vs, hvs, kvs⟩ := d10.k
            k_call_by "za" 0
            refine c_l_sources hvs kvs (by omega) fun q H11 fq s11 e11 => ?_
            have d11 := d10.same s11
            k_call_by "za" 0
            refine c_l_pick d11.pot e11 ?_ ?_ (d10.pot.ne fq).symm fun v2 H12 m2 p12 b12 => ?_
            · obtain ⟨k0, hk0, e0, o0⟩ := b'.src w (List.mem_of_getElem? hw')
              intro z
              have : V.str k0.nm ∈ ((ks.filter fun k => !k.nd.isOut).map (·.nm)).map V.str := List.mem_map_of_mem (List.mem_map_of_mem (List.mem_filter.mpr ⟨hk0, by simp [o0]⟩))
              rw [z] at this
              cases this
            · rw [List.length_map, List.length_map]
              exact Nat.le_trans (List.length_filter_le _ _) (by omega)
            obtain ⟨z, hzm, rfl⟩ := List.mem_map.mp m2
            have d12 := d11.but b12 p12
            have kp12 := kp10.trans ((Kept.of s11).trans (d11.pot.kept b12))
            have hu12 := b12.get d9.ac.symm (s11 _ _ hu10)
            k_call_by "za" 0
            rename_i t13 H13 n13
            refine Z.i_ixL (n13.get hu12) (atI_nat hv) ?_
            k_call_by "za" 0
            have ht13 := n13.get (kp12.t _ _ ht)
            refine Z.i_slT1 ht13 fun t14 H14 s14 e14 => ?_
            have e14 : H14 t14 = some (.tup [.str w.g, .int (w.p : Nat), .int w.d]) := e14
            refine Z.i_addT1 (s14 _ _ n13.at) e14 (Nat.le_of_ble_eq_true rfl) fun t15 H15 s15 e15 => ?_
            have d15 := (d12.same n13.same).same (s14.trans s15)
            have hu15 := s15 _ _ (s14 _ _ (n13.get hu12))
            k_call_by "za" 0
            refine Z.i_setL (j := j) hu15 (Z.ixN_nat lj) fun H16 u16 => ?_
            obtain ⟨k', hk', rfl⟩ := List.mem_map.mp hzm
            obtain ⟨m1, m2⟩ := List.mem_filter.mp hk'
            exact ⟨⟨_, _, _, _, _, _, _, rfl⟩, _, by rw [List.length_set]; exact lw, b'.change hw' (by omega) k'.nm ⟨k', m1, rfl, by simpa using m2⟩, d15.setc hu15 u16 ⟨t15, rfl, e15⟩⟩
          · k_call_by "za" 0
            exact ⟨⟨_, _, _, _, _, _, _, rfl⟩, ws', lw, b', d10⟩
        · k_call_by "za" 0
          exact ⟨⟨_, _, _, _, _, _, _, rfl⟩, ws', lw, b', d9⟩
      · rintro σ H9 ⟨⟨y4, y5, y6, y7, y8, y9, y10, rfl⟩, ws', lw, b', d9⟩
        obtain ⟨vs, hv, kv⟩ := d9.k
        obtain ⟨us', hu', wu'⟩ := d9.c
        have lv := kv.len
        have lu' := wu'.len
        k_call_by "za" 0
        refine c_l_turned d9.pot hv (by omega) fun p ys H10 pm fp ep p10 b10 => ?_
        have d10 := d9.but b10 p10
        k_call_by "za" 0
        refine c_l_turned p10 (b10.get d9.ac.symm hu') (by omega) fun p' ys' H11 pm' fp' ep' p11 b11 => ?_
        have d11 := d10.but b11 p11
        k_call_by "za" 0
        rename_i r H12 n12
        have kp := ((d9.pot.kept b10).trans (p10.kept b11)).trans (.of n12.same)
        obtain ⟨ks', pk, ak'⟩ := all2_perm pm (knots_kept kv kp)
        obtain ⟨ws'', pw, aw'⟩ := all2_perm pm' (wires_kept wu' kp)
        have pa : p ≠ a := d9.pot.ne fp
        have ep11 := b11.get pa ep
        have f1 : H p = none := fresh_of s02 (d9.free fp)
        have f2 : H p' = none := fresh_of s02 (d10.free fp')
        refine k r p p' ys ys' ks' ws'' H12 n12.at (n12.get ep11) (n12.get ep') ak' aw' ((b'.valid fu (by omega) (by omega)).perm pk pw) (fun k hk => (b'.wf k (pk.mem_iff.mp hk)).2) (fun z => by have := pk.length_eq; rw [z] at this; simp at this; omega) f1 f2 ?_ (p11.mono n12.same) (((d11.outer s02 fk fc)).new n12)
        exact fun z => by subst z; rw [ep] at fp'; cases fp'

/-! ### the specs' reprs are unlike -/
def keep (p : Nat → Bool) (x : Str) : List Nat := x.cps.toList.filter p
/-- p leaves the signs of a tuple's text out -/
structure Plain (p : Nat → Bool) : Prop where
  a : p 40 = false
  b : p 41 = false
  c : p 44 = false
  d : p 32 = false
theorem keep_app (p : Nat → Bool) (a b : Str) : keep p (a ++ b) = keep p a ++ keep p b := by
  unfold keep
  rw [app_cps, List.filter_append]
theorem keep_join {p : Nat → Bool} (h : Plain p) : ∀ ts : List Str, keep p (Str.join ", " ts) = (ts.map (keep p)).flatten
  | [] => rfl
  | [t] => by
    show keep p t = _
    simp
  | t :: u :: r => by
    have ih := keep_join h (u :: r)
    show keep p ((t ++ ", ") ++ Str.join ", " (u :: r)) = _
    rw [keep_app, keep_app, ih]
    have e : keep p ((", " : String) : Str) = [] := by
      unfold keep
      rw [show (((", " : String) : Str)).cps.toList = [44, 32] by decide +kernel]
      simp [h.c, h.d]
    rw [e, List.append_nil]; simp
theorem keep_tuple {p : Nat → Bool} (h : Plain p) (ts : List Str) : keep p (tupleText ts) = (ts.map (keep p)).flatten := by
  unfold tupleText
  rw [keep_app, keep_app, keep_join h]
  have e1 : keep p ("(" : Str) = [] := by
    unfold keep
    rw [show (("(" : Str)).cps.toList = [40] by decide +kernel]
    simp [h.a]
  have e2 : keep p ((if ts.length == 1 then ",)" else ")" : String) : Str) = [] := by
    unfold keep
    split
    · rw [show ((",)" : Str)).cps.toList = [44, 41] by decide +kernel]
      simp [h.b, h.c]
    · rw [show ((")" : Str)).cps.toList = [41] by decide +kernel]
      simp [h.b]
  rw [e1, e2]; simp
theorem keep_shown {p : Nat → Bool} (h : Plain p) (ds : List PyData) : keep p (PyData.shown (.tuple ds)) = (ds.map fun d => keep p d.shown).flatten := by
  rw [show PyData.shown (.tuple ds) = tupleText (PyData.shownAll ds) by simp only [PyData.shown], keep_tuple h]
  congr 1
  have : ∀ ds : List PyData, PyData.shownAll ds = ds.map PyData.shown := by
    intro ds
    induction ds with
    | nil => simp only [PyData.shownAll, List.map_nil]
    | cons d ds ih => simp only [PyData.shownAll, List.map_cons, ih]
  rw [this, List.map_map]; rfl
def isLet (c : Nat) : Bool := decide (97 ≤ c ∧ c ≤ 122)
def isNum (c : Nat) : Bool := decide (c = 45 ∨ (48 ≤ c ∧ c ≤ 57))
theorem plain_let : Plain isLet := ⟨rfl, rfl, rfl, rfl⟩
theorem plain_num : Plain isNum := ⟨rfl, rfl, rfl, rfl⟩
def sgn (i : Int) : List Nat := (if i < 0 then [45] else []) ++ [48 + i.natAbs]
theorem small_cases {i : Int} (h : -9 ≤ i ∧ i ≤ 9) : i ∈ ([-9, -8, -7, -6, -5, -4, -3, -2, -1, 0, 1, 2, 3, 4, 5, 6, 7, 8, 9] : List Int) := by
  simp only [List.mem_cons, List.not_mem_nil, or_false]
  omega
theorem num_int {i : Int} (h : -9 ≤ i ∧ i ≤ 9) : keep isNum (PyData.shown (.int i)) = sgn i := by
  have key : ∀ i ∈ ([-9, -8, -7, -6, -5, -4, -3, -2, -1, 0, 1, 2, 3, 4, 5, 6, 7, 8, 9] : List Int), keep isNum (Str.ofString (toString i)) = sgn i := by decide +kernel
  rw [show PyData.shown (.int i) = Str.ofString (toString i) by simp only [PyData.shown]]
  exact key i (small_cases h)
theorem let_int {i : Int} (h : -9 ≤ i ∧ i ≤ 9) : keep isLet (PyData.shown (.int i)) = [] := by
  have key : ∀ i ∈ ([-9, -8, -7, -6, -5, -4, -3, -2, -1, 0, 1, 2, 3, 4, 5, 6, 7, 8, 9] : List Int), keep isLet (Str.ofString (toString i)) = [] := by decide +kernel
  rw [show PyData.shown (.int i) = Str.ofString (toString i) by simp only [PyData.shown]]
  exact key i (small_cases h)
theorem sgn_nat (n : Nat) : sgn (n : Int) = [48 + n] := by
  unfold sgn
  rw [if_neg (by omega)]; simp
theorem sgn_inj {i j : Int} (h : sgn i = sgn j) : i = j := by
  unfold sgn at h
  by_cases a : i < 0 <;> by_cases b : j < 0 <;> simp [a, b] at h <;> omega

/-- the signs of a number of one or two figures -/
def sgn2 (i : Int) : List Nat := (if i < 0 then [45] else []) ++ (if i.natAbs < 10 then [48 + i.natAbs] else [48 + i.natAbs / 10, 48 + i.natAbs % 10])
theorem wide_cases {i : Int} (h : -9 ≤ i ∧ i ≤ 89) : i ∈ (List.range 99).map fun n => ((n : Nat) : Int) - 9 := List.mem_map.mpr ⟨(i + 9).toNat, List.mem_range.mpr (by omega), by omega⟩
theorem num_wide {i : Int} (h : -9 ≤ i ∧ i ≤ 89) : keep isNum (PyData.shown (.int i)) = sgn2 i := by
  have key : ∀ i ∈ (List.range 99).map (fun n => ((n : Nat) : Int) - 9), keep isNum (Str.ofString (toString i)) = sgn2 i := by decide +kernel
  rw [show PyData.shown (.int i) = Str.ofString (toString i) by simp only [PyData.shown]]
  exact key i (wide_cases h)
theorem let_wide {i : Int} (h : -9 ≤ i ∧ i ≤ 89) : keep isLet (PyData.shown (.int i)) = [] := by
  have key : ∀ i ∈ (List.range 99).map (fun n => ((n : Nat) : Int) - 9), keep isLet (Str.ofString (toString i)) = [] := by decide +kernel
  rw [show PyData.shown (.int i) = Str.ofString (toString i) by simp only [PyData.shown]]
  exact key i (wide_cases h)
theorem sgn2_inj {i j : Int} (h : sgn2 i = sgn2 j) : i = j := by
  unfold sgn2 at h
  by_cases a : i < 0 <;> by_cases b : j < 0 <;> by_cases c : i.natAbs < 10 <;> by_cases d : j.natAbs < 10 <;> simp [a, b, c, d] at h <;> omega
def Nd.data : Nd → PyData
  | .inlet => .tuple [.str "inlet"]
  | .outlet => .tuple [.str "outlet"]
  | .gain gn l b => .tuple [.str "gain", .int gn, .int (l : Nat), .int (b : Nat)]
  | .mix n => .tuple [.str "mix", .int (n : Nat)]
  | .times => .tuple [.str "times"]
  | .choose => .tuple [.str "choose"]
  | .own ts n => .tuple [.str "own", .tuple ((nats ts).map PyData.int), .int (n : Nat)]
  | .up n => .tuple [.str "up", .int (n : Nat)]
  | .down n => .tuple [.str "down", .int (n : Nat)]
  | .resample a b => .tuple [.str "resample", .int (a : Nat), .int (b : Nat)]
def Nd.nums : Nd → List Nat
  | .gain gn l b => sgn2 gn ++ [48 + l, 48 + b]
  | .mix n => [48 + n]
  | .own ts n => ts.map (48 + ·) ++ [48 + n]
  | .up n => [48 + n]
  | .down n => [48 + n]
  | .resample a b => [48 + a, 48 + b]
  | _ => []
theorem num_nats {ts : List Nat} (h : ∀ t ∈ ts, 1 ≤ t ∧ t ≤ 8) : keep isNum (PyData.shown (.tuple ((nats ts).map PyData.int))) = ts.map (48 + ·) := by
  rw [keep_shown plain_num]
  induction ts with
  | nil => rfl
  | cons t ts ih =>
    have ht := h t List.mem_cons_self
    have := ih fun x hx => h x (List.mem_cons_of_mem _ hx)
    unfold nats at this ⊢
    rw [List.map_cons, List.map_cons, List.map_cons, List.flatten_cons, this, num_int (by omega), sgn_nat]; rfl
theorem let_nats {ts : List Nat} (h : ∀ t ∈ ts, 1 ≤ t ∧ t ≤ 8) : keep isLet (PyData.shown (.tuple ((nats ts).map PyData.int))) = [] := by
  rw [keep_shown plain_let]
  induction ts with
  | nil => rfl
  | cons t ts ih =>
    have ht := h t List.mem_cons_self
    have := ih fun x hx => h x (List.mem_cons_of_mem _ hx)
    unfold nats at this ⊢
    rw [List.map_cons, List.map_cons, List.map_cons, List.flatten_cons, this, let_int (by omega)]; rfl
theorem shown_str (x : Str) : PyData.shown (.str x) = reprText x := by simp only [PyData.shown]
theorem kn_inlet : keep isNum (PyData.shown (.str "inlet")) = [] := by rw [shown_str]; decide +kernel
theorem kl_inlet : keep isLet (PyData.shown (.str "inlet")) = ("inlet" : Str).cps.toList := by rw [shown_str]; decide +kernel
theorem kn_outlet : keep isNum (PyData.shown (.str "outlet")) = [] := by rw [shown_str]; decide +kernel
theorem kl_outlet : keep isLet (PyData.shown (.str "outlet")) = ("outlet" : Str).cps.toList := by rw [shown_str]; decide +kernel
theorem kn_gain : keep isNum (PyData.shown (.str "gain")) = [] := by rw [shown_str]; decide +kernel
theorem kl_gain : keep isLet (PyData.shown (.str "gain")) = ("gain" : Str).cps.toList := by rw [shown_str]; decide +kernel
theorem kn_mix : keep isNum (PyData.shown (.str "mix")) = [] := by rw [shown_str]; decide +kernel
theorem kl_mix : keep isLet (PyData.shown (.str "mix")) = ("mix" : Str).cps.toList := by rw [shown_str]; decide +kernel
theorem kn_times : keep isNum (PyData.shown (.str "times")) = [] := by rw [shown_str]; decide +kernel
theorem kl_times : keep isLet (PyData.shown (.str "times")) = ("times" : Str).cps.toList := by rw [shown_str]; decide +kernel
theorem kn_choose : keep isNum (PyData.shown (.str "choose")) = [] := by rw [shown_str]; decide +kernel
theorem kl_choose : keep isLet (PyData.shown (.str "choose")) = ("choose" : Str).cps.toList := by rw [shown_str]; decide +kernel
theorem kn_own : keep isNum (PyData.shown (.str "own")) = [] := by rw [shown_str]; decide +kernel
theorem kl_own : keep isLet (PyData.shown (.str "own")) = ("own" : Str).cps.toList := by rw [shown_str]; decide +kernel
theorem kn_up : keep isNum (PyData.shown (.str "up")) = [] := by rw [shown_str]; decide +kernel
theorem kl_up : keep isLet (PyData.shown (.str "up")) = ("up" : Str).cps.toList := by rw [shown_str]; decide +kernel
theorem kn_down : keep isNum (PyData.shown (.str "down")) = [] := by rw [shown_str]; decide +kernel
theorem kl_down : keep isLet (PyData.shown (.str "down")) = ("down" : Str).cps.toList := by rw [shown_str]; decide +kernel
theorem kn_resample : keep isNum (PyData.shown (.str "resample")) = [] := by rw [shown_str]; decide +kernel
theorem kl_resample : keep isLet (PyData.shown (.str "resample")) = ("resample" : Str).cps.toList := by rw [shown_str]; decide +kernel
theorem nums_at {nd : Nd} (w : nd.wf) : keep isNum nd.data.shown = nd.nums := by
  cases nd <;> (unfold Nd.data; rw [keep_shown plain_num]; simp only [List.map_cons, List.map_nil, List.flatten_cons, List.flatten_nil, List.append_nil])
  case inlet  =>
    rw [kn_inlet]
    rfl
  case outlet  =>
    rw [kn_outlet]
    rfl
  case gain gn l b =>
    rw [kn_gain, num_wide w.1, num_int (i := (l : Nat)) (by have := w.2; omega), num_int (i := (b : Nat)) (by have := w.2; omega)]
    rw [sgn_nat, sgn_nat]
    simp [Nd.nums]
  case mix n =>
    rw [kn_mix, num_int (i := (n : Nat)) (by have := w.2; omega)]
    rw [sgn_nat]
    rfl
  case times  =>
    rw [kn_times]
    rfl
  case choose  =>
    rw [kn_choose]
    rfl
  case own ts n =>
    rw [kn_own, num_nats w.2.1, num_int (i := (n : Nat)) (by have := w.2.2; omega)]
    rw [sgn_nat]
    simp [Nd.nums]
  case up n =>
    rw [kn_up, num_int (i := (n : Nat)) (by have := w.2; omega)]
    rw [sgn_nat]
    rfl
  case down n =>
    rw [kn_down, num_int (i := (n : Nat)) (by have := w.2; omega)]
    rw [sgn_nat]
    rfl
  case resample ru rd =>
    rw [kn_resample, num_int (i := (ru : Nat)) (by have := w.1; omega), num_int (i := (rd : Nat)) (by have := w.2; omega)]
    rw [sgn_nat, sgn_nat]
    rfl

theorem head_at {nd : Nd} (w : nd.wf) : keep isLet nd.data.shown = nd.head.cps.toList := by
  cases nd <;> (unfold Nd.data; rw [keep_shown plain_let]; simp only [List.map_cons, List.map_nil, List.flatten_cons, List.flatten_nil, List.append_nil])
  case inlet  =>
    rw [kl_inlet]
    rfl
  case outlet  =>
    rw [kl_outlet]
    rfl
  case gain gn l b =>
    rw [kl_gain, let_wide w.1, let_int (i := (l : Nat)) (by have := w.2; omega), let_int (i := (b : Nat)) (by have := w.2; omega)]
    simp [Nd.head]
  case mix n =>
    rw [kl_mix, let_int (i := (n : Nat)) (by have := w.2; omega)]
    simp [Nd.head]
  case times  =>
    rw [kl_times]
    rfl
  case choose  =>
    rw [kl_choose]
    rfl
  case own ts n =>
    rw [kl_own, let_nats w.2.1, let_int (i := (n : Nat)) (by have := w.2.2; omega)]
    simp [Nd.head]
  case up n =>
    rw [kl_up, let_int (i := (n : Nat)) (by have := w.2; omega)]
    simp [Nd.head]
  case down n =>
    rw [kl_down, let_int (i := (n : Nat)) (by have := w.2; omega)]
    simp [Nd.head]
  case resample ru rd =>
    rw [kl_resample, let_int (i := (ru : Nat)) (by have := w.1; omega), let_int (i := (rd : Nat)) (by have := w.2; omega)]
    simp [Nd.head]

theorem data_inj {nd nd' : Nd} (w : nd.wf) (w' : nd'.wf) (h : nd.data.shown = nd'.data.shown) : nd = nd' := by
  have h1 : nd.head = nd'.head := str_ext (by rw [← head_at w, ← head_at w', h])
  have h2 : nd.nums = nd'.nums := by rw [← nums_at w, ← nums_at w', h]
  cases nd <;> cases nd' <;> first
    | exact absurd h1 (by simp only [Nd.head]; decide +kernel)
    | rfl
    | (simp only [Nd.nums, List.cons.injEq, and_true] at h2; congr 1 <;> omega)
    | skip
  · rename_i g l b g' l' b'
    simp only [Nd.nums] at h2
    obtain ⟨e1, e2⟩ := List.append_inj' h2 rfl
    have := sgn2_inj e1
    simp only [List.cons.injEq, and_true] at e2
    obtain ⟨e2, e3⟩ := e2
    congr 1 <;> omega
  · rename_i ts n ts' n'
    simp only [Nd.nums] at h2
    obtain ⟨e1, e2⟩ := List.append_inj' h2 rfl
    have e3 : ts = ts' := by
      have := congrArg (List.map fun x => x - 48) e1
      simpa [List.map_map, Function.comp_def] using this
    simp only [List.cons.injEq, and_true] at e2
    congr 1
    omega


theorem spec_dp {K : PySem.W.Frag} {H : Hp} {v : V} : ∀ {nd : Nd}, IsSpec H v nd → Dp K H v nd.data
  | .inlet , ⟨r, s, e, h, g⟩ => by
    subst e
    exact Z.dp_tup h (.cons (.str _) .nil)
  | .outlet , ⟨r, s, e, h, g⟩ => by
    subst e
    exact Z.dp_tup h (.cons (.str _) .nil)
  | .gain _ _ _, ⟨r, s, e, h, g⟩ => by
    subst e
    exact Z.dp_tup h (.cons (.str _) (.cons (.int _) (.cons (.int _) (.cons (.int _) .nil))))
  | .mix _, ⟨r, s, e, h, g⟩ => by
    subst e
    exact Z.dp_tup h (.cons (.str _) (.cons (.int _) .nil))
  | .times , ⟨r, s, e, h, g⟩ => by
    subst e
    exact Z.dp_tup h (.cons (.str _) .nil)
  | .choose , ⟨r, s, e, h, g⟩ => by
    subst e
    exact Z.dp_tup h (.cons (.str _) .nil)
  | .own _ _, ⟨r, s, e, h, g⟩ => by
    subst e
    exact Z.dp_tup h (.cons (.str _) (.cons (Z.dp_tints (g _ rfl)) (.cons (.int _) .nil)))
  | .up _, ⟨r, s, e, h, g⟩ => by
    subst e
    exact Z.dp_tup h (.cons (.str _) (.cons (.int _) .nil))
  | .down _, ⟨r, s, e, h, g⟩ => by
    subst e
    exact Z.dp_tup h (.cons (.str _) (.cons (.int _) .nil))
  | .resample _ _, ⟨r, s, e, h, g⟩ => by
    subst e
    exact Z.dp_tup h (.cons (.str _) (.cons (.int _) (.cons (.int _) .nil)))
theorem int_fine {i : Int} (h : -9 ≤ i ∧ i ≤ 9) : decide (i.natAbs < Z.big) = true := decide_eq_true (Nat.lt_of_lt_of_le (m := 10) (by omega) (by unfold Z.big; exact Nat.le_trans (by decide : 10 ≤ 2 ^ 4) (Nat.pow_le_pow_right (by decide) (by decide))))
theorem wd_fine {x : Str} (h : Z.fine (.str x) = true) : Z.fine (.str x) = true := h
theorem fi_inlet : Z.fine (.str "inlet") = true := by simp only [Z.fine, PyData.canLay0]; decide +kernel
theorem fi_outlet : Z.fine (.str "outlet") = true := by simp only [Z.fine, PyData.canLay0]; decide +kernel
theorem fi_gain : Z.fine (.str "gain") = true := by simp only [Z.fine, PyData.canLay0]; decide +kernel
theorem fi_mix : Z.fine (.str "mix") = true := by simp only [Z.fine, PyData.canLay0]; decide +kernel
theorem fi_times : Z.fine (.str "times") = true := by simp only [Z.fine, PyData.canLay0]; decide +kernel
theorem fi_choose : Z.fine (.str "choose") = true := by simp only [Z.fine, PyData.canLay0]; decide +kernel
theorem fi_own : Z.fine (.str "own") = true := by simp only [Z.fine, PyData.canLay0]; decide +kernel
theorem fi_up : Z.fine (.str "up") = true := by simp only [Z.fine, PyData.canLay0]; decide +kernel
theorem fi_down : Z.fine (.str "down") = true := by simp only [Z.fine, PyData.canLay0]; decide +kernel
theorem fi_resample : Z.fine (.str "resample") = true := by simp only [Z.fine, PyData.canLay0]; decide +kernel
theorem fine_int {i : Int} (h : -9 ≤ i ∧ i ≤ 9) : Z.fine (.int i) = true := by simp only [Z.fine]; exact int_fine h
theorem fine_wide {i : Int} (h : -9 ≤ i ∧ i ≤ 89) : Z.fine (.int i) = true := by
  simp only [Z.fine]
  exact decide_eq_true (Nat.lt_of_lt_of_le (m := 90) (by omega) (by unfold Z.big; exact Nat.le_trans (by decide : 90 ≤ 2 ^ 7) (Nat.pow_le_pow_right (by decide) (by decide))))
theorem fine_tup {ds : List PyData} (h : Z.fines ds = true) : Z.fine (.tuple ds) = true := by simp only [Z.fine]; exact h
theorem fin0 : Z.fines [] = true := by simp only [Z.fines]
theorem finc {d : PyData} {ds : List PyData} (h : Z.fine d = true) (g : Z.fines ds = true) : Z.fines (d :: ds) = true := by simp only [Z.fines, h, g, Bool.and_self]
theorem fine_nats {ts : List Nat} (h : ∀ t ∈ ts, 1 ≤ t ∧ t ≤ 8) : Z.fine (.tuple ((nats ts).map PyData.int)) = true := fine_tup (Z.fines_ints fun n hn => by
  unfold nats at hn
  obtain ⟨t, ht, rfl⟩ := List.mem_map.mp hn
  have := h t ht
  exact of_decide_eq_true (int_fine (i := (t : Nat)) (by omega)))
theorem neat_data : ∀ {nd : Nd}, nd.wf → Z.Neat nd.data
  | .inlet , w => ⟨fine_tup (finc fi_inlet fin0), by simp only [Nd.data, PyData.depth, PyData.depthAll, Z.depth_ints]; omega, by simp only [Nd.data, PyData.bulk, PyData.bulkAll, Z.bulk_ints]; have e : (Str.ofString "inlet").cps.size ≤ 10 := (by decide +kernel); omega⟩
  | .outlet , w => ⟨fine_tup (finc fi_outlet fin0), by simp only [Nd.data, PyData.depth, PyData.depthAll, Z.depth_ints]; omega, by simp only [Nd.data, PyData.bulk, PyData.bulkAll, Z.bulk_ints]; have e : (Str.ofString "outlet").cps.size ≤ 10 := (by decide +kernel); omega⟩
  | .gain gn l b, w => ⟨fine_tup (finc fi_gain (finc (fine_wide w.1) (finc (fine_int (i := (l : Nat)) (by have := w.2; omega)) (finc (fine_int (i := (b : Nat)) (by have := w.2; omega)) fin0)))), by simp only [Nd.data, PyData.depth, PyData.depthAll, Z.depth_ints]; omega, by simp only [Nd.data, PyData.bulk, PyData.bulkAll, Z.bulk_ints]; have e : (Str.ofString "gain").cps.size ≤ 10 := (by decide +kernel); omega⟩
  | .mix n, w => ⟨fine_tup (finc fi_mix (finc (fine_int (i := (n : Nat)) (by have := w.2; omega)) fin0)), by simp only [Nd.data, PyData.depth, PyData.depthAll, Z.depth_ints]; omega, by simp only [Nd.data, PyData.bulk, PyData.bulkAll, Z.bulk_ints]; have e : (Str.ofString "mix").cps.size ≤ 10 := (by decide +kernel); omega⟩
  | .times , w => ⟨fine_tup (finc fi_times fin0), by simp only [Nd.data, PyData.depth, PyData.depthAll, Z.depth_ints]; omega, by simp only [Nd.data, PyData.bulk, PyData.bulkAll, Z.bulk_ints]; have e : (Str.ofString "times").cps.size ≤ 10 := (by decide +kernel); omega⟩
  | .choose , w => ⟨fine_tup (finc fi_choose fin0), by simp only [Nd.data, PyData.depth, PyData.depthAll, Z.depth_ints]; omega, by simp only [Nd.data, PyData.bulk, PyData.bulkAll, Z.bulk_ints]; have e : (Str.ofString "choose").cps.size ≤ 10 := (by decide +kernel); omega⟩
  | .own ts n, w => ⟨fine_tup (finc fi_own (finc (fine_nats w.2.1) (finc (fine_int (i := (n : Nat)) (by have := w.2.2; omega)) fin0))), by simp only [Nd.data, PyData.depth, PyData.depthAll, Z.depth_ints]; omega, by simp only [Nd.data, PyData.bulk, PyData.bulkAll, Z.bulk_ints]; have e : (Str.ofString "own").cps.size ≤ 10 := (by decide +kernel); unfold nats; rw [List.length_map]; have := w.1; omega⟩
  | .up n, w => ⟨fine_tup (finc fi_up (finc (fine_int (i := (n : Nat)) (by have := w.2; omega)) fin0)), by simp only [Nd.data, PyData.depth, PyData.depthAll, Z.depth_ints]; omega, by simp only [Nd.data, PyData.bulk, PyData.bulkAll, Z.bulk_ints]; have e : (Str.ofString "up").cps.size ≤ 10 := (by decide +kernel); omega⟩
  | .down n, w => ⟨fine_tup (finc fi_down (finc (fine_int (i := (n : Nat)) (by have := w.2; omega)) fin0)), by simp only [Nd.data, PyData.depth, PyData.depthAll, Z.depth_ints]; omega, by simp only [Nd.data, PyData.bulk, PyData.bulkAll, Z.bulk_ints]; have e : (Str.ofString "down").cps.size ≤ 10 := (by decide +kernel); omega⟩
  | .resample ru rd, w => ⟨fine_tup (finc fi_resample (finc (fine_int (i := (ru : Nat)) (by have := w.1; omega)) (finc (fine_int (i := (rd : Nat)) (by have := w.2; omega)) fin0))), by simp only [Nd.data, PyData.depth, PyData.depthAll, Z.depth_ints]; omega, by simp only [Nd.data, PyData.bulk, PyData.bulkAll, Z.bulk_ints]; have e : (Str.ofString "resample").cps.size ≤ 10 := (by decide +kernel); omega⟩

def sp_l_pairs (K : PySem.W.Frag) : Sp := fun vz H Q Ex => ∃ (p : Addr) (vs : List V) (ks : List Knot), vz = [.ref p] ∧ (H p = some (.lst vs)) ∧ (Knots H vs ks) ∧ (∀ k ∈ ks, k.nd.wf) ∧ (ks.length ≤ 1000) ∧ (∀ q us H', H q = none → Same H H' → H' q = some (.lst us) → Pairs K H' us ks → Q (.ref q) H')
theorem c_l_pairs {K : PySem.W.Frag} {H : Hp} {Q : VK} {Ex : XK} {p : Addr} {vs : List V} {ks : List Knot} (h1 : H p = some (.lst vs)) (h2 : Knots H vs ks) (h3 : ∀ k ∈ ks, k.nd.wf) (h4 : ks.length ≤ 1000) (k : ∀ q us H', H q = none → Same H H' → H' q = some (.lst us) → Pairs K H' us ks → Q (.ref q) H') : sp_l_pairs K [.ref p] H Q Ex := ⟨p, vs, ks, rfl, h1, h2, h3, h4, k⟩
theorem ok_l_pairs  {P : Program} {w : World} {K : PySem.W.Frag} {mg : Str → Option Value} {base : Heap} (E : Ev K mg) : Z.Pr True P w K mg base 7 (He.ga K "_law_pairs") d_l_pairs p_l_pairs (sp_l_pairs K) := by
  obtain ⟨fd, FD⟩ := E.fn 73 (d := d_l_pairs)
  refine ⟨fd, FD, Z.FunD.okG FD sc_l_pairs (fun vz H Q Ex h => ?_) (fun cdv A outer s H vz Q Ex hr hgd h => ?_)⟩
  · obtain ⟨_, _, _, rfl, _⟩ := h
    rfl
  · have hu := hr.units
    obtain ⟨p, vs, ks, rfl, h1, h2, h3, h4, k⟩ := h
    have F_l_made := ok_l_made (g := True) (P := P) (w := w) (base := base) E
    refine ⟨_, (Z.zs_cons (Z.z_set (i := 1) sc_l_pairs.nd rfl (Or.inr rfl) pe_dnewK)
   (Z.zs_cons (Z.z_for (passes_of rfl) rfl (Z.pi_seqK K rfl (pv 0)) (pg_tup (n := 2) (by rfl) (pgs_cons (pg_name (i := 2) sc_l_pairs.nd rfl (Or.inl rfl)) (pgs_cons (pg_name (i := 3) sc_l_pairs.nd rfl (Or.inl rfl)) pgs_nil)))
   (Z.zs_one (Z.z_if (pt_cmp (pc_dnotin (Z.hu1 hu) (pe_callB (Z.creprK K rfl hr hgd trivial) (by rfl) (E.free 98) (by decide +kernel) (pa_cons (pv 3) pa_nil)) (pv 1))) (Z.zs_one (Z.z_asg (Z.pe_f F_l_made (hr.mono (by decide)) hgd (by rfl) (E.glo 99) bd_l_made (passL) (pa_cons (pv 3) pa_nil)) (pg_sub (pv 1) (pe_callB (Z.creprK K rfl hr hgd trivial) (by rfl) (E.free 98) (by decide +kernel) (pa_cons (pv 3) pa_nil)) (set_dict (Z.hu1 hu))))) Z.zs_nil)))
   (Z.zs_one (Z.z_ret (pe_lc (own := [("_law_tag", 2), ("_law_spec_here", 3)]) (g := gTup K 2 (gCons (gName 2) (gCons (gName 3) gNil))) rfl sc_l_pairs.nd (Z.pi_seqK K rfl (pv 0)) (blkOk_by (own := [("_law_tag", 2), ("_law_spec_here", 3)]) (N := n_l_pairs) (sc := (defScope s_l_pairs)) (by decide +kernel)) (fun _ _ _ _ _ => (pg_tup (n := 2) (by rfl) (pgs_cons (pg_name (i := 2) sc_l_pairs.nd rfl (Or.inl rfl)) (pgs_cons (pg_name (i := 3) sc_l_pairs.nd rfl (Or.inl rfl)) pgs_nil)))) (fun _ _ _ _ _ => pts_nil) (fun _ _ _ _ _ => (pe_tup (pa_cons (pv 2) (pa_cons (pe_dget (Z.hu1 hu) (pv 1) (pe_callB (Z.creprK K rfl hr hgd trivial) (by rfl) (E.free 98) (by decide +kernel) (pa_cons (pv 3) pa_nil)) (fun _ _ => rfl)) pa_nil))))))))), ?_⟩
    refine Z.i_start (σ := [some (.ref p), none, none, none]) rfl ?_
    try dsimp only [Z.cxK]
    k_call_by "za" 0
    rename_i d H1 n1
    refine Z.loop_list (xs := vs) (fun i σ H' => (∃ x2 x3, σ = [some (.ref p), some (.ref d), x2, x3]) ∧ ∃ kv, H' d = some (.dK kv) ∧ kv.length ≤ i ∧ (∀ x v, valV kv (.inr x) = some v → ∃ (nd : Nd) (b : Addr), nd.wf ∧ x = nd.data.shown ∧ v = .ref b ∧ IsNode K H' b nd) ∧ (∀ j, j < i → ∀ kn, ks[j]? = some kn → (valV kv (.inr kn.nd.data.shown)).isSome = true) ∧ Z.But d H1 H') ?_ ?_ ?_ ?_
    · exact ⟨⟨_, _, rfl⟩, [], n1.at, Nat.le_refl _, (fun x v h => by cases h), (fun j h => absurd h (by omega)), .refl⟩
    · rintro i σ H' hi ⟨_, kv, _, _, _, _, b⟩
      exact SqL.of (b.get (n1.ne h1) (n1.get h1))
    · rintro i x σ H2 hx ⟨⟨x2, x3, rfl⟩, kv, hd, lk, q1, q2, b2⟩
      obtain ⟨kn, hk, r, y, rfl, hr, sp⟩ := h2.get hx
      have li := (List.getElem?_eq_some_iff.mp hk).1
      have wf := h3 kn (List.mem_of_getElem? hk)
      have s2 : Same H H2 := Z.Same.thenBut n1.same b2 n1.fr
      have sp2 := sp.kept (.of s2)
      refine Z.i_tupT (s2 _ _ hr) rfl ?_
      k_call_by "za" 0
      refine Z.i_repr (spec_dp sp2) (neat_data wf) ?_
      k_call_by "za" 0
      cases e : valV kv (.inr kn.nd.data.shown) with
      | some v =>
        refine Z.ifF rfl ?_
        k_call_by "za" 0
        refine ⟨⟨_, _, rfl⟩, kv, hd, by omega, q1, fun j hj k' hk' => ?_, b2⟩
        by_cases z : j = i
        · subst z
          rw [hk] at hk'
          cases hk'
          rw [e]; rfl
        · exact q2 j (by omega) k' hk'
      | none =>
        refine Z.ifT rfl ?_
        obtain ⟨rr, ss, rfl, er, es⟩ := sp2
        k_call_by "za" 0
        refine c_l_made er es wf fun b H3 fb s3 nb => ?_
        have hd3 := s3 _ _ hd
        k_call_by "za" 0
        refine Z.i_repr (spec_dp (sp.kept (.of (s2.trans s3)))) (neat_data wf) ?_
        k_call_by "za" 0
        rename_i H4 u4
        rw [putK_new _ e] at u4
        have kp4 : Kept H2 H4 := (Kept.of s3).trans (.upD u4 hd3)
        refine ⟨⟨_, _, rfl⟩, _, u4.at, by rw [List.length_append]; simp only [List.length_cons, List.length_nil]; omega, ?_, ?_, (b2.same s3).up u4⟩
        · intro x v hv
          rw [valV_snoc _ _ _ _ e] at hv
          by_cases z : (Sum.inr x : Key) = .inr kn.nd.data.shown
          · rw [if_pos z] at hv
            cases hv
            exact ⟨kn.nd, b, wf, Sum.inr.inj z, rfl, nb.kept (.upD u4 hd3)⟩
          · rw [if_neg z] at hv
            obtain ⟨nd, c, w, ex, ev, hn⟩ := q1 x v hv
            exact ⟨nd, c, w, ex, ev, hn.kept kp4⟩
        · intro j hj k' hk'
          rw [valV_snoc _ _ _ _ e]
          by_cases z : (Sum.inr k'.nd.data.shown : Key) = .inr kn.nd.data.shown
          · rw [if_pos z]; rfl
          · rw [if_neg z]
            by_cases y : j = i
            · subst y
              rw [hk] at hk'
              cases hk'
              exact absurd rfl z
            · exact q2 j (by omega) k' hk'
    · rintro σ H2 ⟨⟨x2, x3, rfl⟩, kv, hd, lk, q1, q2, b2⟩
      have s2 : Same H H2 := Z.Same.thenBut n1.same b2 n1.fr
      k_call_by "za" 0
      refine Z.comp_list (xs := vs) (fun i acc H' => Pairs K H' acc (ks.take i) ∧ Same H2 H') ?_ ?_ ?_ ?_
      · intro D H' n'
        exact ⟨.nil, n'.same⟩
      · rintro i acc H' hi ⟨_, s'⟩
        exact SqL.of (s' _ _ (s2 _ _ h1))
      · rintro D i acc x H3 fD hx hD ⟨pr, s3⟩
        obtain ⟨kn, hk, r, y, rfl, hr, sp⟩ := h2.get hx
        have li := (List.getElem?_eq_some_iff.mp hx).1
        have wf := h3 kn (List.mem_of_getElem? hk)
        have s23 := s2.trans s3
        have sp3 := sp.kept (.of s23)
        refine Z.i_tupT (s23 _ _ hr) rfl ?_
        have hs := q2 i li kn hk
        cases e : valV kv (.inr kn.nd.data.shown) with
        | none => rw [e] at hs; cases hs
        | some v =>
          obtain ⟨nd, c, w, ex, rfl, hn⟩ := q1 _ _ e
          have en := data_inj wf w ex
          k_call_by "za" 0
          refine Z.i_repr (spec_dp sp3) (neat_data wf) ?_
          k_call_by "za" 0
          refine Z.i_dgK (s3 _ _ hd) e ?_
          k_call_by "za" 0
          rename_i t4 H4 n4
          refine Z.i_end (n4.get hD) (by rw [pr.len, List.length_take, sizeLine_eq]; omega) fun H5 u5 => ⟨?_, by k_call_by "fr" 0⟩
          have kp : Kept H3 H5 := (Kept.of n4.same).trans (.up u5 (n4.get hD))
          rw [take_snoc hk]
          refine (pairs_kept pr kp).snoc ⟨t4, c, rfl, u5.get (Z.ne_tl n4.at (n4.get hD)) n4.at, ?_⟩
          rw [en]
          exact hn.kept ((Kept.of s3).trans kp)
      · rintro D acc H3 fD hD ⟨pr, s3⟩
        rw [h2.len, List.take_length] at pr
        exact k D acc H3 (fresh_of s2 fD) (s2.trans s3) hD pr

/-- the names, the inlets, the outlets of knots -/
def inl (ks : List Knot) : List Str := (ks.filter fun k => k.nd.isIn).map (·.nm)
def outl (ks : List Knot) : List Str := (ks.filter fun k => k.nd.isOut).map (·.nm)
def wdata (w : Wire) : PyData := .tuple [.str w.s, .str w.g, .int (w.p : Nat), .int w.d]
/-- what is told of a weave -/
def told (ks : List Knot) (ws : List Wire) : PyData := .list [.list ((ks.map (·.nm)).map PyData.str), .list (ws.map wdata), .list ((inl ks).map PyData.str), .list ((outl ks).map PyData.str)]
theorem strs_dp {K : PySem.W.Frag} {H : Hp} : ∀ ns : List Str, DpAll K H (ns.map V.str) (ns.map PyData.str)
  | [] => .nil
  | n :: ns => .cons (.str n) (strs_dp ns)
theorem wires_dp {K : PySem.W.Frag} {H : Hp} : ∀ {us : List V} {ws : List Wire}, Wires H us ws → DpAll K H us (ws.map wdata)
  | _, [], h => by rw [h.nil_of]; exact .nil
  | _, w :: ws, h => by
    obtain ⟨x, xs, rfl, ⟨r, rfl, hr⟩, h'⟩ := h.cons_of
    exact .cons (Z.dp_tup hr (.cons (.str _) (.cons (.str _) (.cons (.int _) (.cons (.int _) .nil))))) (wires_dp h')
/-- the four lists stand -/
structure Lists (H : Hp) (r : Addr) (ks : List Knot) (ws : List Wire) : Prop where
  ex : ∃ a b c d us, H r = some (.lst [.ref a, .ref b, .ref c, .ref d]) ∧ H a = some (.lst ((ks.map (·.nm)).map V.str)) ∧ H b = some (.lst us) ∧ Wires H us ws ∧ H c = some (.lst ((inl ks).map V.str)) ∧ H d = some (.lst ((outl ks).map V.str))
theorem Lists.dp {K : PySem.W.Frag} {H : Hp} {r : Addr} {ks : List Knot} {ws : List Wire} (l : Lists H r ks ws) : Dp K H (.ref r) (told ks ws) := by
  obtain ⟨a, b, c, d, us, h, ha, hb, hw, hc, hd⟩ := l.ex
  exact Z.dp_lst h (.cons (Z.dp_lst ha (strs_dp _)) (.cons (Z.dp_lst hb (wires_dp hw)) (.cons (Z.dp_lst hc (strs_dp _)) (.cons (Z.dp_lst hd (strs_dp _)) .nil))))
theorem Lists.same {H H' : Hp} {r : Addr} {ks : List Knot} {ws : List Wire} (l : Lists H r ks ws) (s : Same H H') : Lists H' r ks ws := by
  obtain ⟨a, b, c, d, us, h, ha, hb, hw, hc, hd⟩ := l.ex
  exact ⟨a, b, c, d, us, s _ _ h, s _ _ ha, s _ _ hb, wires_kept hw (.of s), s _ _ hc, s _ _ hd⟩
/-- the four lists stand, all of them new -/
def ListsF (H0 H : Hp) (r : Addr) (ks : List Knot) (ws : List Wire) : Prop := ∃ a b c d us, H r = some (.lst [.ref a, .ref b, .ref c, .ref d]) ∧ H a = some (.lst ((ks.map (·.nm)).map V.str)) ∧ H b = some (.lst us) ∧ Wires H us ws ∧ H c = some (.lst ((inl ks).map V.str)) ∧ H d = some (.lst ((outl ks).map V.str)) ∧ ∀ x ∈ [a, b, c, d], H0 x = none ∧ x ≠ r
theorem ListsF.of {H0 H : Hp} {r : Addr} {ks : List Knot} {ws : List Wire} (l : ListsF H0 H r ks ws) : Lists H r ks ws := by
  obtain ⟨a, b, c, d, us, h, ha, hb, hw, hc, hd, _⟩ := l
  exact ⟨a, b, c, d, us, h, ha, hb, hw, hc, hd⟩
theorem fine_nm {a : Str} (h : isNm a) : Z.fine (.str a) = true := by
  simp only [Z.fine, PyData.canLay0, nm_ok h, Bool.true_and, List.all_eq_true]
  intro c hc
  have := h.2 c hc
  exact decide_eq_true (Nat.lt_of_le_of_lt this.2 (by decide))
theorem fine_lst {ds : List PyData} (h : Z.fines ds = true) : Z.fine (.list ds) = true := by simp only [Z.fine]; exact h
theorem fine_int' {i : Int} (h : 0 ≤ i ∧ i ≤ 9999) : Z.fine (.int i) = true := by
  simp only [Z.fine]
  exact decide_eq_true (Nat.lt_of_lt_of_le (m := 16384) (by omega) (by unfold Z.big; exact Nat.le_trans (by decide : 16384 ≤ 2 ^ 14) (Nat.pow_le_pow_right (by decide) (by decide))))
theorem fine_strs {ns : List Str} (h : ∀ n ∈ ns, isNm n) : Z.fines (ns.map PyData.str) = true := by
  rw [Z.fines_iff]
  intro d hd
  obtain ⟨n, hn, rfl⟩ := List.mem_map.mp hd
  exact fine_nm (h n hn)
theorem depth_strs (ns : List Str) : PyData.depthAll (ns.map PyData.str) = 0 := by
  induction ns with
  | nil => simp [PyData.depthAll]
  | cons n r ih => simp [PyData.depthAll, PyData.depth, ih]
theorem nm_size {a : Str} (h : isNm a) : a.cps.size ≤ 8 := by have := h.1.2; simpa using this
theorem bulk_strs {ns : List Str} (h : ∀ n ∈ ns, isNm n) : PyData.bulkAll (ns.map PyData.str) ≤ 9 * ns.length := by
  induction ns with
  | nil => simp [PyData.bulkAll]
  | cons n r ih =>
    have := ih fun x hx => h x (List.mem_cons_of_mem _ hx)
    have := nm_size (h n List.mem_cons_self)
    simp only [List.map_cons, PyData.bulkAll, PyData.bulk, List.length_cons]
    omega
theorem wdata_neat {ks : List Knot} {ws : List Wire} (v : Valid ks ws) : Z.fines (ws.map wdata) = true ∧ PyData.depthAll (ws.map wdata) ≤ 1 ∧ PyData.bulkAll (ws.map wdata) ≤ 30 * ws.length := by
  have key : ∀ xs : List Wire, (∀ w ∈ xs, w ∈ ws) → Z.fines (xs.map wdata) = true ∧ PyData.depthAll (xs.map wdata) ≤ 1 ∧ PyData.bulkAll (xs.map wdata) ≤ 30 * xs.length := by
    intro xs
    induction xs with
    | nil => intro _; exact ⟨fin0, by simp [PyData.depthAll], by simp [PyData.bulkAll]⟩
    | cons w xs ih =>
      intro h
      have hw := h w List.mem_cons_self
      obtain ⟨a, b, c⟩ := ih fun x hx => h x (List.mem_cons_of_mem _ hx)
      have n1 := nm_size (v.snm hw)
      have n2 := nm_size (v.gnm hw)
      have hp : w.p < 8 := by
        obtain ⟨k, hk, _, e⟩ := v.gol w hw
        have := takes_le (v.wf k hk)
        omega
      refine ⟨finc (fine_tup (finc (fine_nm (v.snm hw)) (finc (fine_nm (v.gnm hw)) (finc (fine_int' (i := (w.p : Nat)) (by omega)) (finc (fine_int' (v.dly w hw)) fin0))))) a, ?_, ?_⟩
      · simp only [List.map_cons, PyData.depthAll, wdata, PyData.depth]; omega
      · simp only [List.map_cons, PyData.bulkAll, wdata, PyData.bulk, List.length_cons]; omega
  exact key ws fun _ h => h
theorem neat_told {ks : List Knot} {ws : List Wire} (v : Valid ks ws) : Z.Neat (told ks ws) := by
  have n0 : ∀ n ∈ ks.map (·.nm), isNm n := fun n hn => by
    obtain ⟨k, hk, rfl⟩ := List.mem_map.mp hn
    exact v.nm k hk
  have n1 : ∀ n ∈ inl ks, isNm n := fun n hn => by
    obtain ⟨k, hk, rfl⟩ := List.mem_map.mp hn
    exact v.nm k (List.mem_filter.mp hk).1
  have n2 : ∀ n ∈ outl ks, isNm n := fun n hn => by
    obtain ⟨k, hk, rfl⟩ := List.mem_map.mp hn
    exact v.nm k (List.mem_filter.mp hk).1
  have l1 : (inl ks).length ≤ 24 := by unfold inl; rw [List.length_map]; exact Nat.le_trans (List.length_filter_le _ _) v.kl
  have l2 : (outl ks).length ≤ 24 := by unfold outl; rw [List.length_map]; exact Nat.le_trans (List.length_filter_le _ _) v.kl
  obtain ⟨a, b, c⟩ := wdata_neat v
  have b0 := bulk_strs n0
  have b1 := bulk_strs n1
  have b2 := bulk_strs n2
  have kl := v.kl
  have wl := v.wl
  rw [List.length_map] at b0
  refine ⟨fine_lst (finc (fine_lst (fine_strs n0)) (finc (fine_lst a) (finc (fine_lst (fine_strs n1)) (finc (fine_lst (fine_strs n2)) fin0)))), ?_, ?_⟩
  · simp only [told, PyData.depth, PyData.depthAll, depth_strs]; omega
  · simp only [told, PyData.bulk, PyData.bulkAll]; omega
theorem neat_names {ks : List Knot} {ws : List Wire} (v : Valid ks ws) : Z.Neat (.list ((ks.map (·.nm)).map PyData.str)) := by
  have n0 : ∀ n ∈ ks.map (·.nm), isNm n := fun n hn => by
    obtain ⟨k, hk, rfl⟩ := List.mem_map.mp hn
    exact v.nm k hk
  have b0 := bulk_strs n0
  have kl := v.kl
  rw [List.length_map] at b0
  refine ⟨fine_lst (fine_strs n0), ?_, ?_⟩
  · simp only [PyData.depth, depth_strs]; omega
  · simp only [PyData.bulk]; omega
theorem neat_wires {ks : List Knot} {ws : List Wire} (v : Valid ks ws) : Z.Neat (.list (ws.map wdata)) := by
  obtain ⟨a, b, c⟩ := wdata_neat v
  have wl := v.wl
  refine ⟨fine_lst a, ?_, ?_⟩
  · simp only [PyData.depth]; omega
  · simp only [PyData.bulk]; omega


/-- two items exchanged -/
def swap {α : Type} (xs : List α) (i j : Nat) : List α := match xs[i]?, xs[j]? with
  | some x, some y => (xs.set i y).set j x
  | _, _ => xs
theorem swap_at {α : Type} {xs : List α} {i j : Nat} {x y : α} (h : xs[i]? = some x) (h' : xs[j]? = some y) : swap xs i j = (xs.set i y).set j x := by
  unfold swap
  rw [h, h']
theorem swap_perm {α : Type} (xs : List α) (i j : Nat) : (swap xs i j).Perm xs := by
  unfold swap
  cases h : xs[i]? with
  | none => exact .refl _
  | some x =>
    cases h' : xs[j]? with
    | none => exact .refl _
    | some y =>
      obtain ⟨l, e⟩ := List.getElem?_eq_some_iff.mp h
      obtain ⟨l', e'⟩ := List.getElem?_eq_some_iff.mp h'
      subst e
      subst e'
      exact List.set_set_perm l l'
theorem swap_len {α : Type} (xs : List α) (i j : Nat) : (swap xs i j).length = xs.length := (swap_perm xs i j).length_eq
theorem swap_all {α β : Type} {R : α → β → Prop} {xs : List α} {ys : List β} (h : Z.All2 R xs ys) (i j : Nat) : Z.All2 R (swap xs i j) (swap ys i j) := by
  have hl := h.len
  unfold swap
  by_cases li : i < xs.length
  · by_cases lj : j < xs.length
    · have e1 := List.getElem?_eq_getElem li
      have e2 := List.getElem?_eq_getElem lj
      have e3 := List.getElem?_eq_getElem (l := ys) (i := i) (by omega)
      have e4 := List.getElem?_eq_getElem (l := ys) (i := j) (by omega)
      rw [e1, e2, e3, e4]
      have r1 := h.2 i _ _ e1 e3
      have r2 := h.2 j _ _ e2 e4
      refine ⟨by simp [hl], fun k x y hx hy => ?_⟩
      dsimp only at hx hy
      by_cases kj : k = j
      · subst kj
        rw [List.getElem?_set_self (by simp; omega)] at hx hy
        cases hx
        cases hy
        exact r1
      · rw [List.getElem?_set_ne (fun z => kj z.symm)] at hx hy
        by_cases ki : k = i
        · subst ki
          rw [List.getElem?_set_self (by omega)] at hx hy
          cases hx
          cases hy
          exact r2
        · rw [List.getElem?_set_ne (fun z => ki z.symm)] at hx hy
          exact h.2 k x y hx hy
    · rw [List.getElem?_eq_none (l := xs) (i := j) (by omega), List.getElem?_eq_none (l := ys) (i := j) (by omega)]
      cases xs[i]? <;> cases ys[i]? <;> exact h
  · rw [List.getElem?_eq_none (l := xs) (i := i) (by omega), List.getElem?_eq_none (l := ys) (i := i) (by omega)]
    exact h

theorem bt_in {H : Hp} {x : V} {T : String} (h : Z.BT H x T) : T ∈ (["NoneType", "int", "bool", "str", "list", "tuple", "dict"] : List String) := by cases h <;> simp
theorem oth_rt {K : PySem.W.Frag} {mg : Str → Option Value} (E : Ev K mg) {H : Hp} {y : V} {o : Option (List Knot × List Wire)} (h : Oth K H y o) : ∃ t, Z.RT K H y t ∧ PySem.W.notFirst K (He.ga K "Weave") t = true := by
  cases o with
  | none =>
    obtain ⟨T, bt⟩ := h
    exact ⟨_, .inr bt.ty, (Z.fxNFt_ok ((E.own 51)) (bt_in bt)).1⟩
  | some p =>
    obtain ⟨b, rfl, h⟩ := h
    obtain ⟨dx, _, _, _, _, _, _, _, _, i1, _⟩ := h
    exact ⟨_, .inl ⟨b, _, _, _, rfl, i1, rfl⟩, Z.notFirst_same⟩
theorem ne_def {K : PySem.W.Frag} {mg : Str → Option Value} (E : Ev K mg) : Z.NeDef K (He.ga K "Weave") := by
  have h := (E.own 52)
  unfold Z.fxNeDef at h
  rw [Bool.and_eq_true] at h
  exact ⟨He.eqO_ok h.1, of_decide_eq_true h.2⟩
theorem w_eqL {K : PySem.W.Frag} {mg : Str → Option Value} (E : Ev K mg) {H : Hp} {Q : VK} {a : Addr} {y : V} {ks : List Knot} {ws : List Wire} {o : Option (List Knot × List Wire)} (h1 : IsWeave K H a ks ws) (h2 : Oth K H y o) (k : ∀ H', Same H H' → Q (.bl (eqO ks ws o)) H') : Z.rEqXY K E0 [{ C := He.ga K "Weave", n := 2, gV := fun _ vs _ => vs, sp := sp_Weave_u__eq K }] (.ref a) y H Q := by
  obtain ⟨t, rt, nf⟩ := oth_rt E h2
  obtain ⟨dx, _, _, _, _, _, _, _, _, i1, _⟩ := id h1
  exact .inl ⟨_, a, dx, _, t, List.mem_cons_self, rfl, i1, rt, nf, rfl, rfl, by dsimp only; exact c_Weave_u__eq h1 h2 fun H' s => ⟨_, rfl, k H' s⟩⟩
theorem w_eqR {K : PySem.W.Frag} {mg : Str → Option Value} (E : Ev K mg) {H : Hp} {Q : VK} {a : Addr} {y : V} {ks : List Knot} {ws : List Wire} {o : Option (List Knot × List Wire)} (h1 : IsWeave K H a ks ws) (h2 : Oth K H y o) (k : ∀ H', Same H H' → Q (.bl (eqO ks ws o)) H') : Z.rEqXY K E0 [{ C := He.ga K "Weave", n := 2, gV := fun _ vs _ => vs, sp := sp_Weave_u__eq K }] y (.ref a) H Q := by
  cases o with
  | none =>
    obtain ⟨T, bt⟩ := id h2
    obtain ⟨dx, _, _, _, _, _, _, _, _, i1, _⟩ := id h1
    exact .inr ⟨_, a, dx, _, T, List.mem_cons_self, rfl, i1, bt, (Z.fxNFt_ok ((E.own 51)) (bt_in bt)).2, rfl, rfl, by dsimp only; exact c_Weave_u__eq h1 (o := none) ⟨T, bt⟩ fun H' s => ⟨_, rfl, k H' s⟩⟩
  | some p =>
    obtain ⟨b, rfl, h⟩ := h2
    refine w_eqL E h (o := some (ks, ws)) ⟨a, rfl, h1⟩ fun H' s => ?_
    have e : eqO p.1 p.2 (some (ks, ws)) = eqO ks ws (some p) := by
      unfold eqO
      dsimp only
      congr 1 <;> exact decide_eq_decide.mpr ⟨Eq.symm, Eq.symm⟩
    rw [e]
    exact k H' s
theorem w_neL {K : PySem.W.Frag} {mg : Str → Option Value} (E : Ev K mg) {H : Hp} {Q : VK} {a : Addr} {y : V} {ks : List Knot} {ws : List Wire} {o : Option (List Knot × List Wire)} (h1 : IsWeave K H a ks ws) (h2 : Oth K H y o) (k : ∀ H', Same H H' → Q (.bl (!eqO ks ws o)) H') : Z.zNeX K E0 [{ C := He.ga K "Weave", n := 2, gV := fun _ vs _ => vs, sp := sp_Weave_u__eq K }] (.ref a) y H Q := by
  obtain ⟨t, rt, nf⟩ := oth_rt E h2
  obtain ⟨dx, _, _, _, _, _, _, _, _, i1, _⟩ := id h1
  exact ⟨_, a, dx, _, t, List.mem_cons_self, rfl, i1, rt, nf, ne_def E, rfl, rfl, by dsimp only; exact c_Weave_u__eq h1 h2 fun H' s => ⟨_, rfl, k H' s⟩⟩
theorem neat_bools {a b c : Bool} : Z.Neat (.list [.bool a, .bool b, .bool c]) := by
  have f : ∀ b : Bool, Z.fine (.bool b) = true := fun b => by simp only [Z.fine]
  have f0 : Z.fines [] = true := by simp only [Z.fines]
  have fc : ∀ {d : PyData} {ds : List PyData}, Z.fine d = true → Z.fines ds = true → Z.fines (d :: ds) = true := fun h g => by simp only [Z.fines, h, g, Bool.and_self]
  have fl : ∀ {ds : List PyData}, Z.fines ds = true → Z.fine (.list ds) = true := fun h => by simp only [Z.fine]; exact h
  refine ⟨fl (fc (f a) (fc (f b) (fc (f c) f0))), by simp [PyData.depth, PyData.depthAll], by simp [PyData.bulk, PyData.bulkAll]⟩
def sp_l_right (K : PySem.W.Frag) : Sp := fun vz H Q Ex => ∃ (a : Addr) (y : V) (ks : List Knot) (ws : List Wire) (o : Option (List Knot × List Wire)) (due : Bool), vz = [.ref a, y, .bl due] ∧ (IsWeave K H a ks ws) ∧ (Oth K H y o) ∧ (eqO ks ws o = due) ∧ (∀ H', Same H H' → Q (.bl true) H')
theorem c_l_right {K : PySem.W.Frag} {H : Hp} {Q : VK} {Ex : XK} {a : Addr} {y : V} {ks : List Knot} {ws : List Wire} {o : Option (List Knot × List Wire)} {due : Bool} (h1 : IsWeave K H a ks ws) (h2 : Oth K H y o) (h3 : eqO ks ws o = due) (k : ∀ H', Same H H' → Q (.bl true) H') : sp_l_right K [.ref a, y, .bl due] H Q Ex := ⟨a, y, ks, ws, o, due, rfl, h1, h2, h3, k⟩
theorem ok_l_right  {P : Program} {w : World} {K : PySem.W.Frag} {mg : Str → Option Value} {base : Heap} (E : Ev K mg) : Z.Pr True P w K mg base 11 (He.ga K "_law_right") d_l_right p_l_right (sp_l_right K) := by
  obtain ⟨fd, FD⟩ := E.fn 74 (d := d_l_right)
  refine ⟨fd, FD, Z.FunD.okG FD sc_l_right (fun vz H Q Ex h => ?_) (fun cdv A outer s H vz Q Ex hr hgd h => ?_)⟩
  · obtain ⟨_, _, _, _, _, _, rfl, _⟩ := h
    rfl
  · have hu := hr.units
    obtain ⟨a, y, ks, ws, o, due, rfl, h1, h2, h3, k⟩ := h
    have F_Weave_u__eq := ok_Weave_u__eq (P := P) (w := w) (base := base) E
    refine ⟨_, (Z.zs_cons (Z.z_set (i := 3) sc_l_right.nd rfl (Or.inl rfl) (pe_lst (pa_cons (pe_cmpR (Z.opEqXY K rfl hr (Z.ms_cons (Z.mt_of (E.cls 30) (Z.fxM_ok (E.own 96)) F_Weave_u__eq bd_Weave_u__eq (hr.mono (by decide)) hgd) Z.ms_nil) passL) (pv 0) (pv 1) (nomark _)) (pa_cons (pe_cmpR (Z.opEqXY K rfl hr (Z.ms_cons (Z.mt_of (E.cls 30) (Z.fxM_ok (E.own 96)) F_Weave_u__eq bd_Weave_u__eq (hr.mono (by decide)) hgd) Z.ms_nil) passL) (pv 1) (pv 0) (nomark _)) (pa_cons (pe_cmpR (Z.opNeX K rfl (hr.mono (by decide)) (Z.me_cons (Z.fxM_ok (E.own 96)) F_Weave_u__eq bd_Weave_u__eq Z.me_nil) hgd passL) (pv 0) (pv 1) (nomark _)) pa_nil)))))
   (Z.zs_one (Z.z_ret (pe_cmpR (Z.opEqK K rfl hu) (pe_callB (Z.creprK K rfl hr hgd trivial) (by rfl) (E.free 98) (by decide +kernel) (pa_cons (pv 3) pa_nil)) (pe_callB (Z.creprK K rfl hr hgd trivial) (by rfl) (E.free 98) (by decide +kernel) (pa_cons (pe_lst (pa_cons (pv 2) (pa_cons (pv 2) (pa_cons (pe_not (pv 2)) pa_nil)))) pa_nil)) (nomark _))))), ?_⟩
    refine Z.i_start (σ := [some (.ref a), some (y), some (.bl due), none]) rfl ?_
    try dsimp only [Z.cxK]
    subst h3
    k_call_by "za" 0
    refine w_eqL E h1 h2 fun H1 s1 => ?_
    k_call_by "za" 0
    refine w_eqR E (h1.kept (.of s1)) (h2.same s1) fun H2 s2 => ?_
    k_call_by "za" 0
    have s12 := s1.trans s2
    refine w_neL E (h1.kept (.of s12)) (h2.same s12) fun H3 s3 => ?_
    k_call_by "za" 0
    rename_i l4 H4 n4
    refine Z.i_repr (Z.dp_lst n4.at (.cons (.bl _) (.cons (.bl _) (.cons (.bl _) .nil)))) neat_bools ?_
    k_call_by "za" 0
    rename_i l5 H5 n5
    refine Z.i_repr (Z.dp_lst n5.at (.cons (.bl _) (.cons (.bl _) (.cons (.bl _) .nil)))) neat_bools ?_
    generalize PyData.shown _ = sh
    k_call_by "za" 0
    rw [decide_eq_true rfl]
    exact k H5 ((s12.trans s3).trans (n4.same.trans n5.same))

theorem swap_same {α : Type} (xs : List α) (i : Nat) : swap xs i i = xs := by
  unfold swap
  cases h : xs[i]? with
  | none => rfl
  | some x =>
    dsimp only
    obtain ⟨l, e⟩ := List.getElem?_eq_some_iff.mp h
    subst e
    rw [List.set_set, List.set_getElem_self]
def ren (e t x : Str) : Str := if x = e then t else x
def renK (e t : Str) (k : Knot) : Knot := ⟨ren e t k.nm, k.nd⟩
theorem neat_int {i : Int} (h : 0 ≤ i ∧ i ≤ 9999) : Z.Neat (.int i) := ⟨by simp only [Z.fine]; exact decide_eq_true (Nat.lt_of_lt_of_le (m := 16384) (by omega) (by unfold Z.big; exact Nat.le_trans (by decide : 16384 ≤ 2 ^ 14) (Nat.pow_le_pow_right (by decide) (by decide)))), by simp [PyData.depth], by simp [PyData.bulk]⟩
theorem neat_str {a : Str} (h : isNm a) : Z.Neat (.str a) := ⟨by
  simp only [Z.fine, PyData.canLay0, nm_ok h, Bool.true_and, List.all_eq_true]
  intro c hc
  have := h.2 c hc
  exact decide_eq_true (Nat.lt_of_le_of_lt this.2 (by decide)), by simp [PyData.depth], by have := h.1.2; simp at this; simp only [PyData.bulk]; omega⟩
theorem eqv_is (i : Int) (x : Str) : PyData.eqv (.int i) (.str x) = false := by simp only [PyData.eqv]
def renW (e t : Str) (w : Wire) : Wire := ⟨ren e t w.s, ren e t w.g, w.p, w.d⟩

def sp_l_exchanged (K : PySem.W.Frag) : Sp := fun vz H Q Ex => ∃ (a q : Addr) (xs : List V), vz = [.ref a, .ref q] ∧ (Pot H a) ∧ (H q = some (.lst xs)) ∧ (xs.length ≤ 1000) ∧ (∀ r i j H', r ≠ a → H' r = some (.lst (swap xs i j)) → Pot H' a → Z.But a H H' → Q (.ref r) H')
theorem c_l_exchanged {K : PySem.W.Frag} {H : Hp} {Q : VK} {Ex : XK} {a q : Addr} {xs : List V} (h1 : Pot H a) (h2 : H q = some (.lst xs)) (h3 : xs.length ≤ 1000) (k : ∀ r i j H', r ≠ a → H' r = some (.lst (swap xs i j)) → Pot H' a → Z.But a H H' → Q (.ref r) H') : sp_l_exchanged K [.ref a, .ref q] H Q Ex := ⟨a, q, xs, rfl, h1, h2, h3, k⟩
theorem ok_l_exchanged {g : Prop} {P : Program} {w : World} {K : PySem.W.Frag} {mg : Str → Option Value} {base : Heap} (E : Ev K mg) : Z.Pr g P w K mg base 2 (He.ga K "_law_exchanged") d_l_exchanged p_l_exchanged (sp_l_exchanged K) := by
  obtain ⟨fd, FD⟩ := E.fn 75 (d := d_l_exchanged)
  refine ⟨fd, FD, Z.FunD.okG FD sc_l_exchanged (fun vz H Q Ex h => ?_) (fun cdv A outer s H vz Q Ex hr hgd h => ?_)⟩
  · obtain ⟨_, _, _, rfl, _⟩ := h
    rfl
  · have hu := hr.units
    obtain ⟨a, q, xs, rfl, h1, h2, h3, k⟩ := h
    have F_l_take := ok_l_take (g := g) (P := P) (w := w) (base := base) E
    refine ⟨_, (Z.zs_cons (Z.z_set (i := 2) sc_l_exchanged.nd rfl (Or.inl rfl) (pe_callTy (Z.clistK K rfl) (by rfl) (E.free 35) (by decide +kernel) (pa_cons (pv 1) pa_nil)))
   (Z.zs_cons (Z.z_if (pt_cmpR op_gt (pe_callB (Z.clenK K rfl) (by rfl) (E.free 32) (by decide +kernel) (pa_cons (pv 2) pa_nil)) pe_int (nomark _)) (Z.zs_cons (Z.z_par (i := 3) (j := 4) rfl sc_l_exchanged.nd rfl rfl (by decide) rfl rfl (pa_cons (Z.pe_f F_l_take (hr.mono (by decide)) hgd (by rfl) (E.glo 34) bd_l_take (passL) (pa_cons (pv 0) (pa_cons (pe_callB (Z.clenK K rfl) (by rfl) (E.free 32) (by decide +kernel) (pa_cons (pv 2) pa_nil)) pa_nil))) (pa_cons (Z.pe_f F_l_take (hr.mono (by decide)) hgd (by rfl) (E.glo 34) bd_l_take (passL) (pa_cons (pv 0) (pa_cons (pe_callB (Z.clenK K rfl) (by rfl) (E.free 32) (by decide +kernel) (pa_cons (pv 2) pa_nil)) pa_nil))) pa_nil)) (by rfl))
   (Z.zs_one (Z.z_asg (pe_tup (pa_cons (pe_ix (Z.ixUK K rfl) (pv 2) (pv 4) (fun _ _ => rfl)) (pa_cons (pe_ix (Z.ixUK K rfl) (pv 2) (pv 3) (fun _ _ => rfl)) pa_nil))) (pg_tup (n := 2) (by rfl) (pgs_cons (pg_sub (pv 2) (pv 3) set_list) (pgs_cons (pg_sub (pv 2) (pv 4) set_list) pgs_nil)))))) Z.zs_nil)
   (Z.zs_one (Z.z_ret (pv 2))))), ?_⟩
    refine Z.i_start (σ := [some (.ref a), some (.ref q), none, none, none]) rfl ?_
    try dsimp only [Z.cxK]
    k_call_by "za" 0
    rename_i l H1 n1
    have la : l ≠ a := h1.ne n1.fr
    have p1 := h1.mono n1.same
    refine Z.ite2' (fun hl => ?_) (fun hl => ?_)
    · k_call_by "za" 0
      refine c_l_take p1 (by omega) (Nat.lt_of_le_of_lt (m := 1000) (by omega) (by decide)) fun i H2 i0 i1 p2 b2 => ?_
      have l2 := b2.get la n1.at
      k_call_by "za" 0
      refine c_l_take p2 (by omega) (Nat.lt_of_le_of_lt (m := 1000) (by omega) (by decide)) fun j H3 j0 j1 p3 b3 => ?_
      obtain ⟨i, rfl⟩ : ∃ n : Nat, i = n := ⟨i.toNat, by omega⟩
      obtain ⟨j, rfl⟩ : ∃ n : Nat, j = n := ⟨j.toNat, by omega⟩
      have l3 := b3.get la l2
      have ei := List.getElem?_eq_getElem (l := xs) (i := i) (by omega)
      have ej := List.getElem?_eq_getElem (l := xs) (i := j) (by omega)
      have b03 : Z.But a H H3 := ((Z.But.ofSame n1.same).trans b2).trans b3
      have fl := n1.fr
      clear n1 b2 b3 l2
      k_call_by "za" 0
      refine Z.i_ixL l3 (atI_nat ej) ?_
      k_call_by "za" 0
      refine Z.i_ixL l3 (atI_nat ei) ?_
      k_call_by "za" 0
      rename_i t H4 n4
      refine Z.i_setL (j := i) (n4.get l3) (Z.ixN_nat (by omega)) fun H5 u5 => ?_
      k_call_by "za" 0
      refine Z.i_setL (j := j) u5.at (Z.ixN_nat (by rw [List.length_set]; omega)) fun H6 u6 => ?_
      k_call_by "za" 0
      exact k l i j H6 la (by rw [swap_at ei ej]; exact u6.at) (((p3.mono n4.same).up u5 la.symm).up u6 la.symm) (Z.fb_upn u6 (Z.fb_upn u5 (b03.new n4) fl) fl)
    · k_call_by "za" 0
      exact k l 0 0 H1 la (by rw [swap_same]; exact n1.at) p1 (.ofSame n1.same)
def sp_l_named (K : PySem.W.Frag) : Sp := fun vz H Q Ex => ∃ (a p q : Addr) (vs us : List V) (ks : List Knot) (ws : List Wire), vz = [.ref a, .ref p, .ref q] ∧ (Pot H a) ∧ (H p = some (.lst vs)) ∧ (Knots H vs ks) ∧ (H q = some (.lst us)) ∧ (Wires H us ws) ∧ (ks ≠ []) ∧ (Valid ks ws) ∧ (a ≠ p) ∧ (a ≠ q) ∧ (∀ r p' q' vs' us' e t H', e ∈ ks.map (·.nm) → (t = e ∨ (isNm t ∧ t ∉ ks.map (·.nm))) → H' r = some (.tup [.ref p', .ref q']) → H' p' = some (.lst vs') → H' q' = some (.lst us') → Knots H' vs' (ks.map (renK e t)) → Wires H' us' (ws.map (renW e t)) → p' ≠ a → q' ≠ a → Pot H' a → Z.But a H H' → Q (.ref r) H')
theorem c_l_named {K : PySem.W.Frag} {H : Hp} {Q : VK} {Ex : XK} {a p q : Addr} {vs us : List V} {ks : List Knot} {ws : List Wire} (h1 : Pot H a) (h2 : H p = some (.lst vs)) (h3 : Knots H vs ks) (h4 : H q = some (.lst us)) (h5 : Wires H us ws) (h6 : ks ≠ []) (h7 : Valid ks ws) (h8 : a ≠ p) (h9 : a ≠ q) (k : ∀ r p' q' vs' us' e t H', e ∈ ks.map (·.nm) → (t = e ∨ (isNm t ∧ t ∉ ks.map (·.nm))) → H' r = some (.tup [.ref p', .ref q']) → H' p' = some (.lst vs') → H' q' = some (.lst us') → Knots H' vs' (ks.map (renK e t)) → Wires H' us' (ws.map (renW e t)) → p' ≠ a → q' ≠ a → Pot H' a → Z.But a H H' → Q (.ref r) H') : sp_l_named K [.ref a, .ref p, .ref q] H Q Ex := ⟨a, p, q, vs, us, ks, ws, rfl, h1, h2, h3, h4, h5, h6, h7, h8, h9, k⟩
theorem ok_l_named {g : Prop} {P : Program} {w : World} {K : PySem.W.Frag} {mg : Str → Option Value} {base : Heap} (E : Ev K mg) : Z.Pr g P w K mg base 3 (He.ga K "_law_named") d_l_named p_l_named (sp_l_named K) := by
  obtain ⟨fd, FD⟩ := E.fn 76 (d := d_l_named)
  refine ⟨fd, FD, Z.FunD.okG FD sc_l_named (fun vz H Q Ex h => ?_) (fun cdv A outer s H vz Q Ex hr hgd h => ?_)⟩
  · obtain ⟨_, _, _, _, _, _, _, rfl, _⟩ := h
    rfl
  · have hu := hr.units
    obtain ⟨a, p, q, vs, us, ks, ws, rfl, h1, h2, h3, h4, h5, h6, h7, h8, h9, k⟩ := h
    have F_l_name := ok_l_name (g := g) (P := P) (w := w) (base := base) E
    have F_l_pick := ok_l_pick (g := g) (P := P) (w := w) (base := base) E
    refine ⟨_, (Z.zs_cons (Z.z_set (i := 3) sc_l_named.nd rfl (Or.inr rfl) (pe_ix (Z.ixUK K rfl) (Z.pe_f F_l_pick (hr.mono (by decide)) hgd (by rfl) (E.glo 93) bd_l_pick (passL) (pa_cons (pv 0) (pa_cons (pv 1) pa_nil))) pe_int (fun _ _ => rfl)))
   (Z.zs_cons (Z.z_set (i := 4) sc_l_named.nd rfl (Or.inr rfl) (Z.pe_f F_l_name (hr.mono (by decide)) hgd (by rfl) (E.glo 97) bd_l_name (passL) (pa_cons (pv 0) (pa_cons (pe_lc (own := [("_law_other_here", 6), ("_law_spec_here", 7)]) (g := gTup K 2 (gCons (gName 6) (gCons (gName 7) gNil))) rfl sc_l_named.nd (Z.pi_seqK K rfl (pv 1)) (blkOk_by (own := [("_law_other_here", 6), ("_law_spec_here", 7)]) (N := n_l_named) (sc := (defScope s_l_named)) (by decide +kernel)) (fun _ _ _ _ _ => (pg_tup (n := 2) (by rfl) (pgs_cons (pg_name (i := 6) sc_l_named.nd rfl (Or.inl rfl)) (pgs_cons (pg_name (i := 7) sc_l_named.nd rfl (Or.inl rfl)) pgs_nil)))) (fun _ _ _ _ _ => pts_nil) (fun _ _ _ _ _ => (pv 6))) pa_nil))))
   (Z.zs_cons (Z.z_if (pt_cmpR op_gt (pe_callB (Z.clenK K rfl) (by rfl) (E.free 32) (by decide +kernel) (pa_cons (pv 1) pa_nil)) pe_int (nomark _)) (Z.zs_one (Z.z_set (i := 4) sc_l_named.nd rfl (Or.inr rfl) (pv 3))) Z.zs_nil)
   (Z.zs_cons (Z.z_setLc (i := 5) (own := [("_law_row", 8)]) (g := gName 8) rfl sc_l_named.nd rfl rfl (sw_true rfl rfl rfl (by decide +kernel)) (Z.pi_seqK K rfl (pv 2)) (blkOk_by (own := [("_law_row", 8)]) (N := n_l_named) (sc := (defScope s_l_named)) (by decide +kernel)) (fun _ _ _ _ _ => (pg_name (i := 8) sc_l_named.nd rfl (Or.inl rfl))) (fun _ _ _ _ _ => pts_nil) (fun _ _ _ _ _ => (pe_callTy (Z.ctupleK K rfl) (by rfl) (E.free 51) (by decide +kernel) (pa_cons (pe_lc (own := [("_law_part", 9)]) (g := gName 9) rfl sc_l_named.nd (Z.pi_seqK K rfl (pv 8)) (Z.blkOk_in (own := [("_law_part", 9)]) (N := n_l_named) (by decide +kernel)) (fun _ _ _ _ _ => (pg_name (i := 9) sc_l_named.nd rfl (Or.inl rfl))) (fun _ _ _ _ _ => pts_nil) (fun _ _ _ _ _ => (pe_ifExp (pt_cmpR (Z.opEqK K rfl hu) (pv 9) (pv 3) (nomark _)) (pv 4) (pv 9)))) pa_nil))))
   (Z.zs_one (Z.z_ret (pe_tup (pa_cons (pe_lc (own := [("_law_one", 10), ("_law_spec_here", 7)]) (g := gTup K 2 (gCons (gName 10) (gCons (gName 7) gNil))) rfl sc_l_named.nd (Z.pi_seqK K rfl (pv 1)) (blkOk_by (own := [("_law_one", 10), ("_law_spec_here", 7)]) (N := n_l_named) (sc := (defScope s_l_named)) (by decide +kernel)) (fun _ _ _ _ _ => (pg_tup (n := 2) (by rfl) (pgs_cons (pg_name (i := 10) sc_l_named.nd rfl (Or.inl rfl)) (pgs_cons (pg_name (i := 7) sc_l_named.nd rfl (Or.inl rfl)) pgs_nil)))) (fun _ _ _ _ _ => pts_nil) (fun _ _ _ _ _ => (pe_tup (pa_cons (pe_ifExp (pt_cmpR (Z.opEqK K rfl hu) (pv 10) (pv 3) (nomark _)) (pv 4) (pv 10)) (pa_cons (pv 7) pa_nil))))) (pa_cons (pv 5) pa_nil))))))))), ?_⟩
    refine Z.i_start (σ := [some (.ref a), some (.ref p), some (.ref q), none, none, none, none, none, none, none, none]) rfl ?_
    try dsimp only [Z.cxK]
    have v1 := h7.kl
    have v2 := h7.wl
    have vl := h3.len
    have ve : vs ≠ [] := fun z => by subst z; simp at vl; exact h6 (List.length_eq_zero_iff.mp vl.symm)
    have nms7 : ∀ y ∈ ks.map (·.nm), isNm y := fun y hy => by
      obtain ⟨k, hk, rfl⟩ := List.mem_map.mp hy
      exact h7.nm k hk
    have wp8 : ∀ x ∈ ws, x.p < 8 := fun x hx => by
      obtain ⟨k, hk, _, e⟩ := h7.gol x hx
      have := takes_le (h7.wf k hk)
      omega
    k_call_by "za" 0
    refine c_l_pick h1 h2 ve (by omega) h8 fun v H1 hv p1 b1 => ?_
    obtain ⟨i, ei⟩ := List.getElem?_of_mem hv
    obtain ⟨kn, hk, r, x, rfl, hr, sp⟩ := h3.get ei
    have km := List.mem_of_getElem? hk
    have kd1 := h1.keptD b1
    refine Z.i_ixT (kd1.t _ _ hr) (v := .str kn.nm) (atI_nat (j := 0) rfl) ?_
    have hp1 := b1.get h8.symm h2
    have hq1 := b1.get h9.symm h4
    have kv1 := knots_kept h3 kd1.toKept
    have wu1 := wires_kept h5 kd1.toKept
    clear h1 h2 h3 h4 h5 sp hr hv ei kd1
    k_call_by "za" 0
    refine Z.comp_list (xs := vs) (fun i acc H' => acc = ((ks.take i).map (·.nm)).map V.str ∧ Same H1 H') ?_ ?_ ?_ ?_
    · intro D H' n'
      exact ⟨rfl, n'.same⟩
    · rintro i acc H' hi ⟨_, s⟩
      exact SqL.of (s _ _ hp1)
    · rintro D i acc x H2 fD hx hD ⟨rfl, s2⟩
      obtain ⟨kn, hk, r, y, rfl, hr, _⟩ := kv1.get hx
      have lj := (List.getElem?_eq_some_iff.mp hk).1
      refine Z.i_tupT (s2 _ _ hr) rfl ?_
      k_call_by "za" 0
      refine Z.i_end hD (by simp only [List.length_map, List.length_take, sizeLine_eq]; omega) fun H3 u3 => ⟨?_, by k_call_by "fr" 0⟩
      rw [take_snoc hk, List.map_append, List.map_append]; rfl
    rintro T acc H2 f2 e2 ⟨rfl, s2⟩
    rw [kv1.len, List.take_length] at e2
    have p2 := p1.mono s2
    have aT : a ≠ T := fun z => p1.ne f2 z.symm
    k_call_by "za" 0
    refine c_l_name p2 e2 (by rw [List.length_map]; omega) (fun y hy => nms7 y hy) aT fun t0 H3 nt ht p3 b3 => ?_
    have pkd : KeptD H1 H3 := (KeptD.of s2).trans (p2.keptD b3)
    have hp3 := b3.get h8.symm (s2 _ _ hp1)
    have hq3 := b3.get h9.symm (s2 _ _ hq1)
    have kv3 := knots_kept kv1 pkd.toKept
    have wu3 := wires_kept wu1 pkd.toKept
    have b03 : Z.But a H H3 := (b1.same s2).trans b3
    have en : kn.nm ∈ ks.map (·.nm) := List.mem_map_of_mem km
    have nme := nms7 _ en
    clear p1 b1 hp1 hq1 kv1 wu1 f2 e2 s2 p2 b3 pkd aT
    k_call_by "ya" 0
    refine Z.i_seq ?_
    refine Z.i_ifG (fun σ' H' => ∃ t, (t = kn.nm ∨ (isNm t ∧ t ∉ ks.map (·.nm))) ∧ σ' = [some (.ref a), some (.ref p), some (.ref q), some (.str kn.nm), some (.str t), none, none, none, none, none, none] ∧ H' = H3) ?_ ?_
    rotate_left
    · intro nx' k'
      k_call_by "za" 0
      refine Z.ite2' (fun hl => ?_) (fun hl => ?_)
      · k_call_by "za" 0
        exact k' _ _ ⟨kn.nm, .inl rfl, rfl, rfl⟩
      · exact k' _ _ ⟨t0, .inr ⟨nt, ht⟩, rfl, rfl⟩
    rintro σ' H4 ⟨t, tc, rfl, rfl⟩
    clear nt ht
    k_call_by "za" 0
    refine Z.comp_list (xs := us) (fun i acc H' => Wires H' acc ((ws.take i).map (renW kn.nm t)) ∧ Same H4 H') ?_ ?_ ?_ ?_
    · intro D H' n'
      exact ⟨.nil, n'.same⟩
    · rintro i acc H' hi ⟨_, s⟩
      exact SqL.of (s _ _ hq3)
    · rintro D i acc x H5 fD hx hD ⟨pa, s5⟩
      obtain ⟨wi, hw, rr, rfl, hr⟩ := wu3.get hx
      have lj := (List.getElem?_eq_some_iff.mp hw).1
      have hr5 := s5 _ _ hr
      k_call_by "za" 0
      refine Z.comp_tup (xs := [.str wi.s, .str wi.g, .int (wi.p : Nat), .int wi.d]) (fun j acc H' => acc = ([V.str (ren kn.nm t wi.s), .str (ren kn.nm t wi.g), .int (wi.p : Nat), .int wi.d]).take j ∧ Same H5 H') ?_ ?_ ?_ ?_
      · intro D' H' n'
        exact ⟨rfl, n'.same⟩
      · rintro j acc H' hj ⟨_, s⟩
        exact SqT.of (s _ _ hr5)
      · rintro D' j acc x H6 fD' hx6 hD' ⟨rfl, s6⟩
        have fin : ∀ v, ([V.str (ren kn.nm t wi.s), .str (ren kn.nm t wi.g), .int (wi.p : Nat), .int wi.d])[j]? = some v → Z.zEnd D' (fun acc H' => acc = ([V.str (ren kn.nm t wi.s), .str (ren kn.nm t wi.g), .int (wi.p : Nat), .int wi.d]).take (j + 1) ∧ Same H5 H') v H6 := fun v hv =>
          Z.i_end hD' (by rw [List.length_take, sizeLine_eq]; simp; omega) fun H7 u7 => ⟨by rw [take_snoc hv], Z.Same.up s6 u7 fD'⟩
        match j, hx6 with
        | 0, hx6 =>
          cases hx6
          k_call_by "za" 0
          refine Z.ite2' (fun hz => ?_) (fun hz => ?_)
          · k_call_by "za" 0
            exact fin _ (by simp [ren, hz])
          · k_call_by "za" 0
            exact fin _ (by simp [ren, hz])
        | 1, hx6 =>
          cases hx6
          k_call_by "za" 0
          refine Z.ite2' (fun hz => ?_) (fun hz => ?_)
          · k_call_by "za" 0
            exact fin _ (by simp [ren, hz])
          · k_call_by "za" 0
            exact fin _ (by simp [ren, hz])
        | 2, hx6 =>
          cases hx6
          k_call_by "za" 0
          refine Z.i_eqD (.int _) (.str _) (neat_int (by have := wp8 wi (List.mem_of_getElem? hw); omega)).shaped (neat_str nme).shaped ?_
          rw [eqv_is]
          k_call_by "za" 0
          exact fin _ rfl
        | 3, hx6 =>
          cases hx6
          have dl := h7.dly wi (List.mem_of_getElem? hw)
          k_call_by "za" 0
          refine Z.i_eqD (.int _) (.str _) (neat_int dl).shaped (neat_str nme).shaped ?_
          rw [eqv_is]
          k_call_by "za" 0
          exact fin _ rfl
        | n + 4, hx6 => simp at hx6
      rintro D' acc' H6 fD' hD' ⟨rfl, s6⟩
      k_call_by "za" 0
      rename_i t7 H7 n7
      have hD7 := n7.get (s6 _ _ hD)
      refine Z.i_end hD7 (by rw [pa.len, List.length_map, List.length_take, sizeLine_eq]; omega) fun H8 u8 => ⟨?_, Z.Same.up (s5.trans (s6.trans n7.same)) u8 fD⟩
      have k8 : Kept H7 H8 := .but u8.but hD7
      rw [take_snoc hw, List.map_append]
      exact Z.All2.snoc (wires_kept pa ((Kept.of (s6.trans n7.same)).trans k8)) ⟨t7, rfl, u8.get (Z.ne_tl n7.at hD7) n7.at⟩
    rintro U acc H5 fU hU ⟨pa, s5⟩
    rw [wu3.len, List.take_length] at pa
    have hp5 := s5 _ _ hp3
    have kv5 := knots_kept kv3 (.of s5)
    have p5 := p3.mono s5
    have Ua : U ≠ a := p3.ne fU
    have b05 := b03.same s5
    clear hp3 hq3 kv3 wu3 p3 b03 s5
    k_call_by "za" 0
    refine Z.comp_list (xs := vs) (fun i acc H' => Knots H' acc ((ks.take i).map (renK kn.nm t)) ∧ Same H5 H') ?_ ?_ ?_ ?_
    · intro D H' n'
      exact ⟨.nil, n'.same⟩
    · rintro i acc H' hi ⟨_, s⟩
      exact SqL.of (s _ _ hp5)
    · rintro D i acc x H6 fD hx hD ⟨pk, s6⟩
      obtain ⟨kj, hj, rj, xj, rfl, hrj, spj⟩ := kv5.get hx
      have lj := (List.getElem?_eq_some_iff.mp hj).1
      refine Z.i_tupT (s6 _ _ hrj) rfl ?_
      have fin : ∀ H7 t7, Z.New H6 t7 (.tup [.str (ren kn.nm t kj.nm), xj]) H7 → Z.zEnd D (fun acc H' => Knots H' acc ((ks.take (i + 1)).map (renK kn.nm t)) ∧ Same H5 H') (.ref t7) H7 := fun H7 t7 n7 => by
        have hD7 := n7.get hD
        refine Z.i_end hD7 (by rw [pk.len, List.length_map, List.length_take, sizeLine_eq]; omega) fun H8 u8 => ⟨?_, Z.Same.up (s6.trans n7.same) u8 fD⟩
        have k8 : Kept H7 H8 := .but u8.but hD7
        rw [take_snoc hj, List.map_append]
        exact Z.All2.snoc (knots_kept pk ((Kept.of n7.same).trans k8)) ⟨t7, xj, rfl, u8.get (Z.ne_tl n7.at hD7) n7.at, spj.kept ((Kept.of (s6.trans n7.same)).trans k8)⟩
      k_call_by "za" 0
      refine Z.ite2' (fun hz => ?_) (fun hz => ?_)
      · k_call_by "za" 0
        rename_i t7 H7 n7
        exact fin H7 t7 (by rw [show ren kn.nm t kj.nm = t by simp [ren, hz]]; exact n7)
      · k_call_by "za" 0
        rename_i t7 H7 n7
        exact fin H7 t7 (by rw [show ren kn.nm t kj.nm = kj.nm by simp [ren, hz]]; exact n7)
    rintro G acc2 H6 fG hG ⟨pk, s6⟩
    rw [kv5.len, List.take_length] at pk
    k_call_by "za" 0
    rename_i r7 H7 n7
    exact k r7 G U acc2 acc kn.nm t H7 en tc n7.at (n7.get hG) (n7.get (s6 _ _ hU)) (knots_kept pk (.of n7.same)) (wires_kept pa (.of (s6.trans n7.same))) (p5.ne fG) Ua ((p5.mono s6).mono n7.same) ((b05.same s6).same n7.same)

def sig (k : Knot) : Str × List Nat × Bool × Bool := (k.nm, k.nd.takes, k.nd.isIn, k.nd.isOut)
def wsig (w : Wire) : Str × Str × Nat := (w.s, w.g, w.p)
theorem cut_take (xs : List V) (m : Nat) : cutV xs none (some (m : Int)) = xs.take m := by
  unfold cutV
  rw [HT.sIx_nat, HT.sIx_none, List.drop_zero, Nat.sub_zero]
  by_cases h : m ≤ xs.length
  · rw [Nat.min_eq_left h]
  · rw [Nat.min_eq_right (by omega), List.take_of_length_le (Nat.le_refl _), List.take_of_length_le (by omega)]
theorem cut_drop (xs : List V) (m : Nat) : cutV xs (some (m : Int)) none = xs.drop m := by
  unfold cutV
  rw [HT.sIx_nat, HT.sIx_none]
  by_cases h : m ≤ xs.length
  · rw [Nat.min_eq_left h, List.take_of_length_le (by rw [List.length_drop]; omega)]
  · rw [Nat.min_eq_right (by omega), List.drop_of_length_le (Nat.le_refl _), List.drop_of_length_le (by omega)]; simp
theorem head_gain {nd : Nd} (h : nd.head = "gain") : ∃ gn l b, nd = .gain gn l b := by
  cases nd with
  | gain gn l b => exact ⟨gn, l, b, rfl⟩
  | _ => exact absurd h (by simp only [Nd.head]; decide +kernel)
theorem mem_of_map {α β : Type} {f : α → β} {xs ys : List α} (h : ys.map f = xs.map f) {x : α} (m : x ∈ xs) : ∃ y ∈ ys, f y = f x := by
  have : f x ∈ ys.map f := by rw [h]; exact List.mem_map_of_mem m
  exact List.mem_map.mp this
/-- other knots and wires by the same names, rates and ends -/
theorem Valid.sim {ks ks' : List Knot} {ws ws' : List Wire} (v : Valid ks ws) (hk : ks'.map sig = ks.map sig) (hw : ws'.map wsig = ws.map wsig) (wf : ∀ k ∈ ks', k.nd.wf) (dl : ∀ w ∈ ws', 0 ≤ w.d ∧ w.d ≤ 9999) : Valid ks' ws' := by
  have e1 : ks'.map (·.nm) = ks.map (·.nm) := by
    have := congrArg (List.map (·.1)) hk
    simpa [List.map_map, Function.comp_def, sig] using this
  have e2 : ws'.map Wire.at = ws.map Wire.at := by
    have := congrArg (List.map (·.2)) hw
    rw [List.map_map, List.map_map] at this
    exact this
  have l1 := congrArg List.length hk
  have l2 := congrArg List.length hw
  rw [List.length_map, List.length_map] at l1 l2
  have kf : ∀ {j k : Knot}, sig j = sig k → j.nm = k.nm ∧ j.nd.takes = k.nd.takes ∧ j.nd.isIn = k.nd.isIn ∧ j.nd.isOut = k.nd.isOut := fun e => by
    unfold sig at e
    simpa using e
  have wff : ∀ {j k : Wire}, wsig j = wsig k → j.s = k.s ∧ j.g = k.g ∧ j.p = k.p := fun e => by
    unfold wsig at e
    simpa using e
  refine ⟨by rw [l1]; exact v.kl, by rw [l2]; exact v.wl, fun k h => ?_, by rw [e1]; exact v.nd, wf, fun w h => ?_, fun w h => ?_, dl, by rw [e2]; exact v.uni, fun k h p hp => ?_, ?_⟩
  · obtain ⟨j, hj, e⟩ := mem_of_map hk.symm h
    rw [← (kf e).1]; exact v.nm j hj
  · obtain ⟨x, hx, e⟩ := mem_of_map hw.symm h
    obtain ⟨k, hk', e3, e4⟩ := v.src x hx
    obtain ⟨k', m, e5⟩ := mem_of_map hk hk'
    exact ⟨k', m, by rw [(kf e5).1, e3, (wff e).1], by rw [(kf e5).2.2.2]; exact e4⟩
  · obtain ⟨x, hx, e⟩ := mem_of_map hw.symm h
    obtain ⟨k, hk', e3, e4⟩ := v.gol x hx
    obtain ⟨k', m, e5⟩ := mem_of_map hk hk'
    exact ⟨k', m, by rw [(kf e5).1, e3, (wff e).2.1], by rw [(kf e5).2.1, ← (wff e).2.2]; exact e4⟩
  · obtain ⟨j, hj, e⟩ := mem_of_map hk.symm h
    obtain ⟨x, hx, e3⟩ := v.all j hj p (by rw [(kf e).2.1]; exact hp)
    obtain ⟨y, hy, e4⟩ := mem_of_map hw hx
    refine ⟨y, hy, ?_⟩
    rw [← (kf e).1, ← e3]
    unfold Wire.at
    rw [(wff e4).2.1, (wff e4).2.2]
  · obtain ⟨f, hf⟩ := v.rank
    refine ⟨f, fun k h hi => ?_⟩
    obtain ⟨j, hj, e⟩ := mem_of_map hk.symm h
    obtain ⟨x, hx, e3, e4⟩ := hf j hj (by rw [(kf e).2.2.1]; exact hi)
    obtain ⟨y, hy, e5⟩ := mem_of_map hw hx
    exact ⟨y, hy, by rw [(wff e5).2.1, e3, (kf e).1], by rw [(wff e5).1, ← (kf e).1]; exact e4⟩
theorem Valid.snoc {ks : List Knot} {ws : List Wire} (v : Valid ks ws) {t : Str} (l : ks.length < 24) (n : isNm t) (h : t ∉ ks.map (·.nm)) : Valid (ks ++ [⟨t, .inlet⟩]) ws := by
  have up : ∀ {k}, k ∈ ks → k ∈ ks ++ [⟨t, .inlet⟩] := fun m => List.mem_append.mpr (.inl m)
  have cs : ∀ {k}, k ∈ ks ++ [(⟨t, .inlet⟩ : Knot)] → k ∈ ks ∨ k = ⟨t, .inlet⟩ := fun m => (List.mem_append.mp m).imp id List.mem_singleton.mp
  refine ⟨by simp; omega, v.wl, fun k m => ?_, ?_, fun k m => ?_, fun w m => ?_, fun w m => ?_, v.dly, v.uni, fun k m p hp => ?_, ?_⟩
  · rcases cs m with m | rfl
    · exact v.nm k m
    · exact n
  · rw [List.map_append, List.nodup_append]
    refine ⟨v.nd, by simp, fun x hx y hy e => h ?_⟩
    have : y = t := by simpa using hy
    rw [← this, ← e]; exact hx
  · rcases cs m with m | rfl
    · exact v.wf k m
    · trivial
  · obtain ⟨k, hk, e⟩ := v.src w m
    exact ⟨k, up hk, e⟩
  · obtain ⟨k, hk, e⟩ := v.gol w m
    exact ⟨k, up hk, e⟩
  · rcases cs m with m | rfl
    · exact v.all k m p hp
    · simp [Nd.takes] at hp
  · obtain ⟨f, hf⟩ := v.rank
    refine ⟨f, fun k m hi => ?_⟩
    rcases cs m with m | rfl
    · exact hf k m hi
    · cases hi
theorem ren_id (e x : Str) : ren e e x = x := by
  unfold ren
  by_cases h : x = e
  · rw [if_pos h, h]
  · rw [if_neg h]
theorem Valid.ren {ks : List Knot} {ws : List Wire} (v : Valid ks ws) {e t : Str} (he : e ∈ ks.map (·.nm)) (ht : t = e ∨ (isNm t ∧ t ∉ ks.map (·.nm))) : Valid (ks.map (renK e t)) (ws.map (renW e t)) := by
  rcases ht with rfl | ⟨nt, ht⟩
  · have a : ks.map (renK t t) = ks := (List.map_congr_left fun k _ => by unfold renK; rw [ren_id]; rfl).trans (List.map_id ks)
    have b : ws.map (renW t t) = ws := (List.map_congr_left fun k _ => by unfold renW; rw [ren_id, ren_id]; rfl).trans (List.map_id ws)
    rw [a, b]; exact v
  have sn : ∀ w ∈ ws, w.s ∈ ks.map (·.nm) := fun w hw => by
    obtain ⟨k, hk, q, _⟩ := v.src w hw
    rw [← q]; exact List.mem_map_of_mem hk
  have gn : ∀ w ∈ ws, w.g ∈ ks.map (·.nm) := fun w hw => by
    obtain ⟨k, hk, q, _⟩ := v.gol w hw
    rw [← q]; exact List.mem_map_of_mem hk
  have inj : ∀ x ∈ ks.map (·.nm), ∀ y ∈ ks.map (·.nm), L.ren e t x = L.ren e t y → x = y := fun x hx y hy q => by
    unfold L.ren at q
    by_cases a : x = e
    · by_cases b : y = e
      · rw [a, b]
      · rw [if_pos a, if_neg b] at q
        exact absurd (q ▸ hy) ht
    · by_cases b : y = e
      · rw [if_neg a, if_pos b] at q
        exact absurd (q ▸ hx) ht
      · rw [if_neg a, if_neg b] at q
        exact q
  have mk : ∀ {k}, k ∈ ks.map (renK e t) → ∃ j ∈ ks, k = renK e t j := fun m => by
    obtain ⟨j, hj, q⟩ := List.mem_map.mp m
    exact ⟨j, hj, q.symm⟩
  have mw : ∀ {w}, w ∈ ws.map (renW e t) → ∃ x ∈ ws, w = renW e t x := fun m => by
    obtain ⟨j, hj, q⟩ := List.mem_map.mp m
    exact ⟨j, hj, q.symm⟩
  have names : (ks.map (renK e t)).map (·.nm) = (ks.map (·.nm)).map (L.ren e t) := by rw [List.map_map, List.map_map]; rfl
  have nodup : ∀ {α β : Type} (f : α → β) (xs : List α), xs.Nodup → (∀ x ∈ xs, ∀ y ∈ xs, f x = f y → x = y) → (xs.map f).Nodup := by
    intro α β f xs nd h
    exact List.Pairwise.map f (fun _ _ q => q) (nd.imp_of_mem fun {x y} hx hy ne q => ne (h x hx y hy q))
  refine ⟨by rw [List.length_map]; exact v.kl, by rw [List.length_map]; exact v.wl, fun k m => ?_, ?_, fun k m => ?_, fun w m => ?_, fun w m => ?_, fun w m => ?_, ?_, fun k m p hp => ?_, ?_⟩
  · obtain ⟨j, hj, rfl⟩ := mk m
    show isNm (L.ren e t j.nm)
    unfold L.ren
    by_cases a : j.nm = e
    · rw [if_pos a]; exact nt
    · rw [if_neg a]; exact v.nm j hj
  · rw [names]
    exact nodup _ _ v.nd inj
  · obtain ⟨j, hj, rfl⟩ := mk m
    exact v.wf j hj
  · obtain ⟨x, hx, rfl⟩ := mw m
    obtain ⟨k, hk, q, o⟩ := v.src x hx
    exact ⟨_, List.mem_map_of_mem hk, congrArg (L.ren e t) q, o⟩
  · obtain ⟨x, hx, rfl⟩ := mw m
    obtain ⟨k, hk, q, o⟩ := v.gol x hx
    exact ⟨_, List.mem_map_of_mem hk, congrArg (L.ren e t) q, o⟩
  · obtain ⟨x, hx, rfl⟩ := mw m
    exact v.dly x hx
  · rw [show (ws.map (renW e t)).map Wire.at = (ws.map Wire.at).map (fun q => (L.ren e t q.1, q.2)) by rw [List.map_map, List.map_map]; rfl]
    refine nodup _ _ v.uni fun x hx y hy q => ?_
    obtain ⟨a, ha, rfl⟩ := List.mem_map.mp hx
    obtain ⟨b, hb, rfl⟩ := List.mem_map.mp hy
    have q := Prod.mk.inj q
    exact Prod.ext (inj _ (gn a ha) _ (gn b hb) q.1) q.2
  · obtain ⟨j, hj, rfl⟩ := mk m
    obtain ⟨w, hw, q⟩ := v.all j hj p hp
    refine ⟨_, List.mem_map_of_mem hw, ?_⟩
    have q := Prod.mk.inj q
    exact Prod.ext (congrArg (L.ren e t) q.1) q.2
  · obtain ⟨f, hf⟩ := v.rank
    have key : ∀ x ∈ ks.map (·.nm), (fun y => if y = t then f e else f y) (L.ren e t x) = f x := fun x hx => by
      dsimp only
      unfold L.ren
      by_cases a : x = e
      · rw [if_pos a, if_pos rfl, a]
      · rw [if_neg a, if_neg (fun z : x = t => ht (by rw [← z]; exact hx))]
    refine ⟨fun y => if y = t then f e else f y, fun k m hi => ?_⟩
    obtain ⟨j, hj, rfl⟩ := mk m
    obtain ⟨w, hw, q, lt⟩ := hf j hj hi
    refine ⟨_, List.mem_map_of_mem hw, congrArg (L.ren e t) q, ?_⟩
    show (fun y => if y = t then f e else f y) (L.ren e t w.s) < (fun y => if y = t then f e else f y) (L.ren e t j.nm)
    rw [key _ (sn w hw), key _ (List.mem_map_of_mem hj)]
    exact lt
theorem all2_take {α β : Type} {R : α → β → Prop} {xs : List α} {ys : List β} (h : Z.All2 R xs ys) (n : Nat) : Z.All2 R (xs.take n) (ys.take n) := ⟨by rw [List.length_take, List.length_take, h.len], fun i x y hx hy => by
  rw [List.getElem?_take] at hx hy
  by_cases l : i < n
  · rw [if_pos l] at hx hy
    exact h.2 i x y hx hy
  · rw [if_neg l] at hx
    cases hx⟩
theorem all2_drop {α β : Type} {R : α → β → Prop} {xs : List α} {ys : List β} (h : Z.All2 R xs ys) (n : Nat) : Z.All2 R (xs.drop n) (ys.drop n) := ⟨by rw [List.length_drop, List.length_drop, h.len], fun i x y hx hy => by
  rw [List.getElem?_drop] at hx hy
  exact h.2 _ x y hx hy⟩
theorem all2_app {α β : Type} {R : α → β → Prop} : ∀ {xs xs' : List α} {ys ys' : List β}, Z.All2 R xs ys → Z.All2 R xs' ys' → Z.All2 R (xs ++ xs') (ys ++ ys')
  | [], xs', ys, ys', h, h' => by
    have : ys = [] := List.length_eq_zero_iff.mp h.len.symm
    subst this; exact h'
  | x :: xs, xs', [], ys', h, h' => by have := h.len; simp at this
  | x :: xs, xs', y :: ys, ys', h, h' => by
    have r : Z.All2 R xs ys := ⟨by have := h.len; simpa using this, fun i a b p q => h.2 (i + 1) a b (by simpa using p) (by simpa using q)⟩
    have s := all2_app r h'
    refine ⟨by have := s.len; simpa using this, fun i a b p q => ?_⟩
    cases i with
    | zero =>
      simp at p q
      subst p
      subst q
      exact h.2 0 x y rfl rfl
    | succ i => exact s.2 i a b (by simpa using p) (by simpa using q)
theorem all2_one {α β : Type} {R : α → β → Prop} {x : α} {y : β} (h : R x y) : Z.All2 R [x] [y] := ⟨rfl, fun i a b p q => by
  cases i with
  | zero => simp at p q; subst p; subst q; exact h
  | succ i => simp at p⟩
theorem map_mid {α β : Type} (f : α → β) {xs : List α} {i : Nat} {x y : α} (h : xs[i]? = some x) (e : f y = f x) : (xs.take i ++ [y] ++ xs.drop (i + 1)).map f = xs.map f := by
  obtain ⟨l, q⟩ := List.getElem?_eq_some_iff.mp h
  have : xs = xs.take i ++ [x] ++ xs.drop (i + 1) := by
    subst q
    rw [List.append_assoc, List.singleton_append, List.getElem_cons_drop, List.take_append_drop]
  conv => rhs; rw [this]
  simp [List.map_append, e]
theorem mid_mem {α : Type} {xs : List α} {i : Nat} {y z : α} (h : z ∈ xs.take i ++ [y] ++ xs.drop (i + 1)) : z ∈ xs ∨ z = y := by
  rcases List.mem_append.mp h with h | h
  · rcases List.mem_append.mp h with h | h
    · exact .inl (List.mem_of_mem_take h)
    · exact .inr (List.mem_singleton.mp h)
  · exact .inl (List.mem_of_mem_drop h)

def sp_l_other (K : PySem.W.Frag) : Sp := fun vz H Q Ex => ∃ (a p q : Addr) (vs us : List V) (ks : List Knot) (ws : List Wire), vz = [.ref a, .ref p, .ref q] ∧ (Pot H a) ∧ (H p = some (.lst vs)) ∧ (Knots H vs ks) ∧ (H q = some (.lst us)) ∧ (Wires H us ws) ∧ (ks ≠ []) ∧ (Valid ks ws) ∧ (∀ k ∈ ks, k.nd.small) ∧ (a ≠ p) ∧ (a ≠ q) ∧ (∀ r p' q' vs' us' ks' ws' H', H' r = some (.tup [.ref p', .ref q']) → H' p' = some (.lst vs') → H' q' = some (.lst us') → Knots H' vs' ks' → Wires H' us' ws' → Valid ks' ws' → p' ≠ a → q' ≠ a → Pot H' a → Z.But a H H' → Q (.ref r) H')
theorem c_l_other {K : PySem.W.Frag} {H : Hp} {Q : VK} {Ex : XK} {a p q : Addr} {vs us : List V} {ks : List Knot} {ws : List Wire} (h1 : Pot H a) (h2 : H p = some (.lst vs)) (h3 : Knots H vs ks) (h4 : H q = some (.lst us)) (h5 : Wires H us ws) (h6 : ks ≠ []) (h7 : Valid ks ws) (h8 : ∀ k ∈ ks, k.nd.small) (h9 : a ≠ p) (h10 : a ≠ q) (k : ∀ r p' q' vs' us' ks' ws' H', H' r = some (.tup [.ref p', .ref q']) → H' p' = some (.lst vs') → H' q' = some (.lst us') → Knots H' vs' ks' → Wires H' us' ws' → Valid ks' ws' → p' ≠ a → q' ≠ a → Pot H' a → Z.But a H H' → Q (.ref r) H') : sp_l_other K [.ref a, .ref p, .ref q] H Q Ex := ⟨a, p, q, vs, us, ks, ws, rfl, h1, h2, h3, h4, h5, h6, h7, h8, h9, h10, k⟩
theorem ok_l_other {g : Prop} {P : Program} {w : World} {K : PySem.W.Frag} {mg : Str → Option Value} {base : Heap} (E : Ev K mg) : Z.Pr g P w K mg base 4 (He.ga K "_law_other") d_l_other p_l_other (sp_l_other K) := by
  obtain ⟨fd, FD⟩ := E.fn 77 (d := d_l_other)
  refine ⟨fd, FD, Z.FunD.okG FD sc_l_other (fun vz H Q Ex h => ?_) (fun cdv A outer s H vz Q Ex hr hgd h => ?_)⟩
  · obtain ⟨_, _, _, _, _, _, _, rfl, _⟩ := h
    rfl
  · have hu := hr.units
    obtain ⟨a, p, q, vs, us, ks, ws, rfl, h1, h2, h3, h4, h5, h6, h7, h8, h9, h10, k⟩ := h
    have F_l_exchanged := ok_l_exchanged (g := g) (P := P) (w := w) (base := base) E
    have F_l_name := ok_l_name (g := g) (P := P) (w := w) (base := base) E
    have F_l_named := ok_l_named (g := g) (P := P) (w := w) (base := base) E
    have F_l_take := ok_l_take (g := g) (P := P) (w := w) (base := base) E
    refine ⟨_, (Z.zs_cons (Z.z_set (i := 3) sc_l_other.nd rfl (Or.inl rfl) (Z.pe_f F_l_take (hr.mono (by decide)) hgd (by rfl) (E.glo 34) bd_l_take (passL) (pa_cons (pv 0) (pa_cons pe_int pa_nil))))
   (Z.zs_cons (Z.z_if (pt_cmpR (Z.opEqK K rfl hu) (pv 3) pe_int (nomark _)) (Z.zs_one (Z.z_ret (pe_tup (pa_cons (Z.pe_f F_l_exchanged (hr.mono (by decide)) hgd (by rfl) (E.glo 101) bd_l_exchanged (passL) (pa_cons (pv 0) (pa_cons (pv 1) pa_nil))) (pa_cons (pv 2) pa_nil))))) Z.zs_nil)
   (Z.zs_cons (Z.z_if (pt_cmpR (Z.opEqK K rfl hu) (pv 3) pe_int (nomark _)) (Z.zs_one (Z.z_ret (pe_tup (pa_cons (pv 1) (pa_cons (Z.pe_f F_l_exchanged (hr.mono (by decide)) hgd (by rfl) (E.glo 101) bd_l_exchanged (passL) (pa_cons (pv 0) (pa_cons (pv 2) pa_nil))) pa_nil))))) Z.zs_nil)
   (Z.zs_cons (Z.z_if (pt_cmpR (Z.opEqK K rfl hu) (pv 3) pe_int (nomark _)) (Z.zs_one (Z.z_ret (Z.pe_f F_l_named (hr.mono (by decide)) hgd (by rfl) (E.glo 100) bd_l_named (passL) (pa_cons (pv 0) (pa_cons (pv 1) (pa_cons (pv 2) pa_nil)))))) Z.zs_nil)
   (Z.zs_cons (Z.z_if (PW.pt (pw_and (pt_cmpR (Z.opEqK K rfl hu) (pv 3) pe_int (nomark _)) (pw_and1 (pt_cmpR (Z.opNe0 K rfl hu) (pv 2) (pe_lst pa_nil) (nomark _))))) (Z.zs_cons (Z.z_set (i := 4) sc_l_other.nd rfl (Or.inl rfl) (Z.pe_f F_l_take (hr.mono (by decide)) hgd (by rfl) (E.glo 34) bd_l_take (passL) (pa_cons (pv 0) (pa_cons (pe_callB (Z.clenK K rfl) (by rfl) (E.free 32) (by decide +kernel) (pa_cons (pv 2) pa_nil)) pa_nil))))
   (Z.zs_one (Z.z_ret (pe_tup (pa_cons (pv 1) (pa_cons (pe_op (Z.opAddK K rfl) (pe_op (Z.opAddK K rfl) (pe_slice (Z.slUK K rfl) (pv 2) po_none (po_some (pv 4))) (pe_lst (pa_cons (pe_op (Z.opAddK K rfl) (pe_slice (Z.slUK K rfl) (pe_ix (Z.ixUK K rfl) (pv 2) (pv 4) (fun _ _ => rfl)) po_none (po_some pe_int)) (pe_tup (pa_cons (Z.pe_f F_l_take (hr.mono (by decide)) hgd (by rfl) (E.glo 34) bd_l_take (passL) (pa_cons (pv 0) (pa_cons pe_int pa_nil))) pa_nil))) pa_nil))) (pe_slice (Z.slUK K rfl) (pv 2) (po_some (pe_op (Z.opAddK K rfl) (pv 4) pe_int)) po_none)) pa_nil)))))) Z.zs_nil)
   (Z.zs_cons (Z.z_if (pt_cmpR (Z.opEqK K rfl hu) (pv 3) pe_int (nomark _)) (Z.zs_cons (Z.z_set (i := 4) sc_l_other.nd rfl (Or.inl rfl) (Z.pe_f F_l_take (hr.mono (by decide)) hgd (by rfl) (E.glo 34) bd_l_take (passL) (pa_cons (pv 0) (pa_cons (pe_callB (Z.clenK K rfl) (by rfl) (E.free 32) (by decide +kernel) (pa_cons (pv 1) pa_nil)) pa_nil))))
   (Z.zs_cons (Z.z_asg (pe_ix (Z.ixUK K rfl) (pv 1) (pv 4) (fun _ _ => rfl)) (pg_tup (n := 2) (by rfl) (pgs_cons (pg_name (i := 5) sc_l_other.nd rfl (Or.inl rfl)) (pgs_cons (pg_name (i := 6) sc_l_other.nd rfl (Or.inl rfl)) pgs_nil))))
   (Z.zs_cons (Z.z_if (pt_cmpR (Z.opEqK K rfl hu) (pe_ix (Z.ixUK K rfl) (pv 6) pe_int (fun _ _ => rfl)) pe_str (nomark _)) (Z.zs_one (Z.z_set (i := 6) sc_l_other.nd rfl (Or.inl rfl) (pe_ix (Z.ixUK K rfl) (pe_lst (pa_cons (pe_tup (pa_cons pe_str (pa_cons (pe_ix (Z.ixUK K rfl) (pv 6) pe_int (fun _ _ => rfl)) (pa_cons pe_int (pa_cons pe_int pa_nil))))) (pa_cons (pe_tup (pa_cons pe_str (pa_cons (pe_op (Z.opAddK K rfl) (pe_ix (Z.ixUK K rfl) (pv 6) pe_int (fun _ _ => rfl)) pe_int) (pa_cons pe_int (pa_cons pe_int pa_nil))))) (pa_cons (pe_tup (pa_cons pe_str (pa_cons pe_int pa_nil))) (pa_cons (pe_tup (pa_cons pe_str (pa_cons pe_int pa_nil))) pa_nil))))) (Z.pe_f F_l_take (hr.mono (by decide)) hgd (by rfl) (E.glo 34) bd_l_take (passL) (pa_cons (pv 0) (pa_cons pe_int pa_nil))) (fun _ _ => rfl)))) Z.zs_nil)
   (Z.zs_one (Z.z_ret (pe_tup (pa_cons (pe_op (Z.opAddK K rfl) (pe_op (Z.opAddK K rfl) (pe_slice (Z.slUK K rfl) (pv 1) po_none (po_some (pv 4))) (pe_lst (pa_cons (pe_tup (pa_cons (pv 5) (pa_cons (pv 6) pa_nil))) pa_nil))) (pe_slice (Z.slUK K rfl) (pv 1) (po_some (pe_op (Z.opAddK K rfl) (pv 4) pe_int)) po_none)) (pa_cons (pv 2) pa_nil)))))))) Z.zs_nil)
   (Z.zs_cons (Z.z_if (pt_cmpR op_lt (pe_callB (Z.clenK K rfl) (by rfl) (E.free 32) (by decide +kernel) (pa_cons (pv 1) pa_nil)) pe_int (nomark _)) (Z.zs_one (Z.z_ret (pe_tup (pa_cons (pe_op (Z.opAddK K rfl) (pv 1) (pe_lst (pa_cons (pe_tup (pa_cons (Z.pe_f F_l_name (hr.mono (by decide)) hgd (by rfl) (E.glo 97) bd_l_name (passL) (pa_cons (pv 0) (pa_cons (pe_lc (own := [("_law_tag", 5), ("_law_spec_here", 6)]) (g := gTup K 2 (gCons (gName 5) (gCons (gName 6) gNil))) rfl sc_l_other.nd (Z.pi_seqK K rfl (pv 1)) (blkOk_by (own := [("_law_tag", 5), ("_law_spec_here", 6)]) (N := n_l_other) (sc := (defScope s_l_other)) (by decide +kernel)) (fun _ _ _ _ _ => (pg_tup (n := 2) (by rfl) (pgs_cons (pg_name (i := 5) sc_l_other.nd rfl (Or.inl rfl)) (pgs_cons (pg_name (i := 6) sc_l_other.nd rfl (Or.inl rfl)) pgs_nil)))) (fun _ _ _ _ _ => pts_nil) (fun _ _ _ _ _ => (pv 5))) pa_nil))) (pa_cons (pe_tup (pa_cons pe_str pa_nil)) pa_nil))) pa_nil))) (pa_cons (pv 2) pa_nil))))) Z.zs_nil)
   (Z.zs_one (Z.z_ret (pe_tup (pa_cons (pv 1) (pa_cons (pv 2) pa_nil)))))))))))), ?_⟩
    refine Z.i_start (σ := [some (.ref a), some (.ref p), some (.ref q), none, none, none, none]) rfl ?_
    try dsimp only [Z.cxK]
    have v1 := h7.kl
    have v2 := h7.wl
    have vl := h3.len
    have ul := h5.len
    have kp : 0 < ks.length := List.length_pos_iff.mpr h6
    k_call_by "za" 0
    refine c_l_take h1 (by decide) (by decide) fun way H1 w0 w1 p1 b1 => ?_
    have kd := h1.keptD b1
    have hp1 := b1.get h9.symm h2
    have hq1 := b1.get h10.symm h4
    have kv1 := knots_kept h3 kd.toKept
    have wu1 := wires_kept h5 kd.toKept
    clear h1 h2 h3 h4 h5 kd
    k_call_by "za" 0
    refine Z.ite2' (fun hw => ?_) (fun hw0 => ?_)
    · k_call_by "za" 0
      refine c_l_exchanged p1 hp1 (by omega) fun l i j H2 la el p2 b2 => ?_
      k_call_by "za" 0
      rename_i r H3 n3
      have kd2 := (p1.keptD b2).toKept.trans (.of n3.same)
      exact k r l q _ us _ ws H3 n3.at (n3.get el) (n3.get (b2.get h10.symm hq1)) (swap_all (knots_kept kv1 kd2) i j) (wires_kept wu1 kd2) (h7.perm (swap_perm ks i j) (.refl _)) la h10.symm (p2.mono n3.same) ((b1.trans b2).same n3.same)
    k_call_by "za" 0
    refine Z.ite2' (fun hw => ?_) (fun hw1 => ?_)
    · k_call_by "za" 0
      refine c_l_exchanged p1 hq1 (by omega) fun l i j H2 la el p2 b2 => ?_
      k_call_by "za" 0
      rename_i r H3 n3
      have kd2 := (p1.keptD b2).toKept.trans (.of n3.same)
      exact k r p l vs _ ks _ H3 n3.at (n3.get (b2.get h9.symm hp1)) (n3.get el) (knots_kept kv1 kd2) (swap_all (wires_kept wu1 kd2) i j) (h7.perm (.refl _) (swap_perm ws i j)) h9.symm la (p2.mono n3.same) ((b1.trans b2).same n3.same)
    k_call_by "za" 0
    refine Z.ite2' (fun hw => ?_) (fun hw2 => ?_)
    · k_call_by "za" 0
      refine c_l_named p1 hp1 kv1 hq1 wu1 h6 h7 h9 h10 fun r p' q' vs' us' e t H2 he ht er ep eq kv wu pa qa p2 b2 => ?_
      k_call_by "za" 0
      exact k r p' q' vs' us' _ _ H2 er ep eq kv wu (h7.ren he ht) pa qa p2 (b1.trans b2)
    refine Z.i_next ?_
    refine Z.i_seq ?_
    refine Z.i_ifG (fun σ' H' => σ' = [some (.ref a), some (.ref p), some (.ref q), some (.int way), none, none, none] ∧ Pot H' a ∧ Z.But a H1 H') ?_ ?_
    rotate_left
    · intro nx' k'
      k_call_by "za" 0
      refine Z.ite2' (fun hw => ?_) (fun hw => ?_)
      · k_call_by "za" 0
        rename_i e0 H2 n2
        have p2 := p1.mono n2.same
        have b12 : Z.But a H1 H2 := .ofSame n2.same
        have hq2 := n2.get hq1
        have hp2 := n2.get hp1
        have kv2 := knots_kept kv1 (.of n2.same)
        have wu2 := wires_kept wu1 (.of n2.same)
        clear n2 hq1 hp1 kv1 wu1 p1
        cases hue : us.isEmpty with
        | true =>
          refine Z.ifF (by decide) ?_
          exact k' _ _ ⟨rfl, p2, b12⟩
        | false =>
          have up : 0 < us.length := List.length_pos_iff.mpr (fun z => by rw [z] at hue; cases hue)
          refine Z.ifT rfl ?_
          clear k'
          k_call_by "za" 0
          refine c_l_take p2 (by omega) (Nat.lt_of_le_of_lt (m := 1000) (by omega) (by decide)) fun m H3 m0 m1 p3 b3 => ?_
          obtain ⟨m, rfl⟩ : ∃ n : Nat, m = n := ⟨m.toNat, by omega⟩
          have kd3 := p2.keptD b3
          have hq3 := b3.get h10.symm hq2
          have hp3 := b3.get h9.symm hp2
          have kv3 := knots_kept kv2 kd3.toKept
          have wu3 := wires_kept wu2 kd3.toKept
          have b03 : Z.But a H H3 := (b1.trans b12).trans b3
          clear kd3 hq2 hp2 kv2 wu2 p2 b3 b12 b1
          have eu := List.getElem?_eq_getElem (l := us) (i := m) (by omega)
          obtain ⟨wi, hwi, rr, er, hr⟩ := wu3.get eu
          rw [er] at eu
          k_call_by "za" 0
          rename_i s4 H4 n4
          refine Z.i_ixL (n4.get hq3) (atI_nat eu) ?_
          k_call_by "za" 0
          refine Z.i_slT03 (n4.get hr) fun t5 H5 n5 => ?_
          k_call_by "za" 0
          have p5 := (p3.mono n4.same).mono n5.same
          refine c_l_take p5 (by decide) (by decide) fun d H6 d0 d1 p6 b6 => ?_
          have t5a : t5 ≠ a := (p3.mono n4.same).ne n5.fr
          have s4a : s4 ≠ a := p3.ne n4.fr
          have e6 := b6.get t5a n5.at
          have f6 := b6.get s4a (n5.get n4.at)
          have kd6 : Kept H3 H6 := (Kept.of (n4.same.trans n5.same)).trans (p5.kept b6)
          have hq6 := b6.get h10.symm (n5.get (n4.get hq3))
          have hp6 := b6.get h9.symm (n5.get (n4.get hp3))
          have b06 : Z.But a H H6 := (b03.same (n4.same.trans n5.same)).trans b6
          have kv6 := knots_kept kv3 kd6
          have wu6 := wires_kept wu3 kd6
          rw [cut_take] at f6
          clear n4 n5 b6 p5 p3 b03 hq3 hp3 kv3 wu3 kd6 hr
          k_call_by "za" 0
          rename_i t7 H7 n7
          refine Z.i_addTT (n7.get e6) n7.at (by simp) fun t8 H8 n8 => ?_
          k_call_by "za" 0
          rename_i l9 H9 n9
          have s69 : Same H6 H9 := (n7.same.trans n8.same).trans n9.same
          refine Z.i_addL (s69 _ _ f6) n9.at (by rw [List.length_take, sizeLine_eq, List.length_singleton]; omega) fun l10 H10 n10 => ?_
          have hq10 := n10.get (s69 _ _ hq6)
          have t10 := n10.get (n9.get n8.at)
          have s610 := s69.trans n10.same
          have e10 := n10.at
          clear n7 n8 n9 n10 s69 e6 f6 hq6
          k_call_by "za" 0
          rename_i s11 H11 n11
          have e11 := n11.at
          rw [show (m : Int) + 1 = ((m + 1 : Nat) : Int) by omega, cut_drop] at e11
          refine Z.i_addL (n11.get e10) e11 (by rw [List.length_append, List.length_take, List.length_drop, sizeLine_eq, List.length_singleton]; omega) fun l12 H12 n12 => ?_
          have s612 := s610.trans (n11.same.trans n12.same)
          have la : l12 ≠ a := ((p6.mono s610).mono n11.same).ne n12.fr
          have e12 := n12.at
          have t12 := n12.get (n11.get t10)
          clear n11 e11 e10 t10 n12 s610 hq10
          k_call_by "za" 0
          rename_i r13 H13 n13
          have s613 := s612.trans n13.same
          have wz : Wires H13 (us.take m ++ [.ref t8] ++ us.drop (m + 1)) (ws.take m ++ [⟨wi.s, wi.g, wi.p, d⟩] ++ ws.drop (m + 1)) := all2_app (all2_app (all2_take (wires_kept wu6 (.of s613)) m) (all2_one ⟨t8, rfl, n13.get t12⟩)) (all2_drop (wires_kept wu6 (.of s613)) (m + 1))
          refine k r13 p l12 vs _ ks _ H13 n13.at (s613 _ _ hp6) (n13.get e12) (knots_kept kv6 (.of s613)) wz (h7.sim rfl (map_mid wsig hwi rfl) h7.wf fun w hw => ?_) h9.symm la (p6.mono s613) (b06.same s613)
          rcases mid_mem hw with hw | rfl
          · exact h7.dly w hw
          · exact ⟨d0, by show d ≤ 9999; omega⟩
      · exact k' _ _ ⟨rfl, p1, .refl⟩
    rintro σ' H2 ⟨rfl, p2, b2⟩
    have kd2 := p1.keptD b2
    have hq2 := b2.get h10.symm hq1
    have hp2 := b2.get h9.symm hp1
    have kv2 := knots_kept kv1 kd2.toKept
    have wu2 := wires_kept wu1 kd2.toKept
    have b02 := b1.trans b2
    clear kd2 hq1 hp1 kv1 wu1 p1 b2 b1
    k_call_by "za" 0
    refine Z.ite2' (fun hw => ?_) (fun hw => ?_)
    · k_call_by "za" 0
      refine c_l_take p2 (by omega) (Nat.lt_of_le_of_lt (m := 1000) (by omega) (by decide)) fun m H3 m0 m1 p3 b3 => ?_
      obtain ⟨m, rfl⟩ : ∃ n : Nat, m = n := ⟨m.toNat, by omega⟩
      have kd3 := p2.keptD b3
      have hq3 := b3.get h10.symm hq2
      have hp3 := b3.get h9.symm hp2
      have kv3 := knots_kept kv2 kd3.toKept
      have wu3 := wires_kept wu2 kd3.toKept
      have b03 : Z.But a H H3 := b02.trans b3
      clear kd3 hq2 hp2 kv2 wu2 p2 b3 b02
      have eu := List.getElem?_eq_getElem (l := vs) (i := m) (by omega)
      obtain ⟨kn, hkn, rr, x, er, hr, sp⟩ := kv3.get eu
      rw [er] at eu
      have km := List.mem_of_getElem? hkn
      have wk := h7.wf kn km
      k_call_by "za" 0
      refine Z.i_ixL hp3 (atI_nat eu) ?_
      refine Z.i_tupT hr rfl ?_
      obtain ⟨rs, ss, rfl, ers, ess⟩ := sp
      k_call_by "ya" 0
      refine Z.i_seq ?_
      refine Z.i_ifG (fun σ' H' => ∃ v nd', Nd.wf nd' ∧ nd'.takes = kn.nd.takes ∧ nd'.isIn = kn.nd.isIn ∧ nd'.isOut = kn.nd.isOut ∧ IsSpec H' v nd' ∧ Pot H' a ∧ Z.But a H3 H' ∧ σ' = [some (.ref a), some (.ref p), some (.ref q), some (.int way), some (.int (m : Nat)), some (.str kn.nm), some v]) ?_ ?_
      rotate_left
      · intro nx' k'
        obtain ⟨rt, et⟩ := spec_head kn.nd ss
        k_call_by "za" 0
        refine Z.i_ixT ers (v := .str kn.nd.head) (by rw [et]; exact atI_nat (j := 0) rfl) ?_
        k_call_by "za" 0
        refine Z.ite2' (fun hg => ?_) (fun hg => ?_)
        · obtain ⟨gn, l, b, eg⟩ := head_gain hg
          have sm : gn ≤ 9 := by
            have := h8 kn km
            rw [eg] at this
            exact this
          have wg : (-9 ≤ gn ∧ gn ≤ 89) ∧ l ≤ 2 ∧ b ≤ 2 := by
            have := wk
            rw [eg] at this
            exact this
          have ers' : H3 rs = some (.tup [.str "gain", .int gn, .int (l : Nat), .int (b : Nat)]) := by rw [ers, eg]; rfl
          have t1 : ∀ {x : Nd}, x.takes = [1] → x.takes = kn.nd.takes := fun e => by rw [e, eg]; rfl
          have i1 : kn.nd.isIn = false := by rw [eg]; rfl
          have o1 : kn.nd.isOut = false := by rw [eg]; rfl
          clear ers ess hr kv3 wu3 hp3 hq3 b03 hkn
          k_call_by "za" 0
          rename_i q1 H4 n4 q2 H5 n5 q3 H6 n6 q4 H7 n7 q5 H8 n8
          have s38 : Same H3 H8 := (((n4.same.trans n5.same).trans n6.same).trans n7.same).trans n8.same
          refine c_l_take (p3.mono s38) (by decide) (by decide) fun z H9 z0 z1 p9 b9 => ?_
          have qa1 : q1 ≠ a := p3.ne n4.fr
          have qa2 : q2 ≠ a := (p3.mono n4.same).ne n5.fr
          have qa3 : q3 ≠ a := ((p3.mono n4.same).mono n5.same).ne n6.fr
          have qa4 : q4 ≠ a := (((p3.mono n4.same).mono n5.same).mono n6.same).ne n7.fr
          have qa5 : q5 ≠ a := ((((p3.mono n4.same).mono n5.same).mono n6.same).mono n7.same).ne n8.fr
          have v1 := b9.get qa1 (n8.get (n7.get (n6.get (n5.get n4.at))))
          have v2 := b9.get qa2 (n8.get (n7.get (n6.get n5.at)))
          have v3 := b9.get qa3 (n8.get (n7.get n6.at))
          have v4 := b9.get qa4 (n8.get n7.at)
          have v5 := b9.get qa5 n8.at
          have b39 : Z.But a H3 H9 := (Z.But.ofSame s38).trans b9
          clear n4 n5 n6 n7 n8 s38 b9
          obtain rfl | rfl | rfl | rfl : z = 0 ∨ z = 1 ∨ z = 2 ∨ z = 3 := by omega
          · refine Z.i_ixL v5 (v := .ref q1) (atI_nat (j := 0) rfl) ?_
            exact k' _ _ ⟨_, .gain gn 0 0, ⟨by omega, by omega, by omega⟩, t1 rfl, i1.symm, o1.symm, ⟨q1, q1, rfl, v1, fun _ e => nomatch e⟩, p9, b39, rfl⟩
          · refine Z.i_ixL v5 (v := .ref q2) (atI_nat (j := 1) rfl) ?_
            exact k' _ _ ⟨_, .gain (gn + 1) 1 1, ⟨by omega, by omega, by omega⟩, t1 rfl, i1.symm, o1.symm, ⟨q2, q2, rfl, v2, fun _ e => nomatch e⟩, p9, b39, rfl⟩
          · refine Z.i_ixL v5 (v := .ref q3) (atI_nat (j := 2) rfl) ?_
            exact k' _ _ ⟨_, .up 1, ⟨by omega, by omega⟩, t1 rfl, i1.symm, o1.symm, ⟨q3, q3, rfl, v3, fun _ e => nomatch e⟩, p9, b39, rfl⟩
          · refine Z.i_ixL v5 (v := .ref q4) (atI_nat (j := 3) rfl) ?_
            exact k' _ _ ⟨_, .mix 1, ⟨by omega, by omega⟩, t1 rfl, i1.symm, o1.symm, ⟨q4, q4, rfl, v4, fun _ e => nomatch e⟩, p9, b39, rfl⟩
        · exact k' _ _ ⟨_, kn.nd, wk, rfl, rfl, rfl, ⟨rs, ss, rfl, ers, ess⟩, p3, .refl, rfl⟩
      rintro σ' H4 ⟨v, nd', wf', tk', in', out', sp', p4, b4, rfl⟩
      have kd4 := p3.keptD b4
      have hq4 := b4.get h10.symm hq3
      have hp4 := b4.get h9.symm hp3
      have kv4 := knots_kept kv3 kd4.toKept
      have wu4 := wires_kept wu3 kd4.toKept
      have b04 := b03.trans b4
      clear kd4 hq3 hp3 kv3 wu3 p3 b4 b03 hr ers ess
      k_call_by "za" 0
      rename_i s5 H5 n5 t6 H6 n6 l7 H7 n7
      have s47 : Same H4 H7 := (n5.same.trans n6.same).trans n7.same
      have e5 := n7.get (n6.get n5.at)
      have t7 := n7.get n6.at
      have e7 := n7.at
      have hp7 := s47 _ _ hp4
      rw [cut_take] at e5
      clear n5 n6 n7
      refine Z.i_addL e5 e7 (by rw [List.length_take, sizeLine_eq, List.length_singleton]; omega) fun l8 H8 n8 => ?_
      have hp8 := n8.get hp7
      have e8 := n8.at
      have t8 := n8.get t7
      have s48 := s47.trans n8.same
      clear n8 s47 e5 e7 t7 hp7
      k_call_by "za" 0
      rename_i s9 H9 n9
      have e9 := n9.at
      rw [show (m : Int) + 1 = ((m + 1 : Nat) : Int) by omega, cut_drop] at e9
      refine Z.i_addL (n9.get e8) e9 (by rw [List.length_append, List.length_take, List.length_drop, sizeLine_eq, List.length_singleton]; omega) fun l10 H10 n10 => ?_
      have la : l10 ≠ a := ((p4.mono s48).mono n9.same).ne n10.fr
      have s410 := s48.trans (n9.same.trans n10.same)
      have e10 := n10.at
      have t10 := n10.get (n9.get t8)
      clear n9 e9 e8 t8 n10 s48 hp8
      k_call_by "za" 0
      rename_i r11 H11 n11
      have s411 := s410.trans n11.same
      have kz : Knots H11 (vs.take m ++ [.ref t6] ++ vs.drop (m + 1)) (ks.take m ++ [⟨kn.nm, nd'⟩] ++ ks.drop (m + 1)) := all2_app (all2_app (all2_take (knots_kept kv4 (.of s411)) m) (all2_one ⟨t6, v, rfl, n11.get t10, sp'.kept (.of s411)⟩)) (all2_drop (knots_kept kv4 (.of s411)) (m + 1))
      refine k r11 l10 q _ us _ ws H11 n11.at (n11.get e10) (s411 _ _ hq4) kz (wires_kept wu4 (.of s411)) (h7.sim (map_mid sig hkn (by unfold sig; rw [tk', in', out'])) rfl (fun j hj => ?_) h7.dly) la h10.symm (p4.mono s411) (b04.same s411)
      rcases mid_mem hj with hj | rfl
      · exact h7.wf j hj
      · exact wf'
    k_call_by "za" 0
    refine Z.ite2' (fun hl => ?_) (fun hl => ?_)
    · have nms7 : ∀ y ∈ ks.map (·.nm), isNm y := fun y hy => by
        obtain ⟨k, hk, rfl⟩ := List.mem_map.mp hy
        exact h7.nm k hk
      k_call_by "za" 0
      refine Z.comp_list (xs := vs) (fun i acc H' => acc = ((ks.take i).map (·.nm)).map V.str ∧ Same H2 H') ?_ ?_ ?_ ?_
      · intro D H' n'
        exact ⟨rfl, n'.same⟩
      · rintro i acc H' hi ⟨_, s⟩
        exact SqL.of (s _ _ hp2)
      · rintro D i acc x H3 fD hx hD ⟨rfl, s3⟩
        obtain ⟨kn, hk, r, y, rfl, hr, _⟩ := kv2.get hx
        have lj := (List.getElem?_eq_some_iff.mp hk).1
        refine Z.i_tupT (s3 _ _ hr) rfl ?_
        k_call_by "za" 0
        refine Z.i_end hD (by simp only [List.length_map, List.length_take, sizeLine_eq]; omega) fun H4 u4 => ⟨?_, by k_call_by "fr" 0⟩
        rw [take_snoc hk, List.map_append, List.map_append]; rfl
      rintro T acc H3 f3 e3 ⟨rfl, s3⟩
      rw [kv2.len, List.take_length] at e3
      have p3 := p2.mono s3
      have aT : a ≠ T := fun z => p2.ne f3 z.symm
      k_call_by "za" 0
      refine c_l_name p3 e3 (by rw [List.length_map]; omega) (fun y hy => nms7 y hy) aT fun t0 H4 nt ht p4 b4 => ?_
      have kd4 : Kept H2 H4 := (Kept.of s3).trans (p3.kept b4)
      have hp4 := b4.get h9.symm (s3 _ _ hp2)
      have hq4 := b4.get h10.symm (s3 _ _ hq2)
      have kv4 := knots_kept kv2 kd4
      have wu4 := wires_kept wu2 kd4
      have b04 := (b02.same s3).trans b4
      clear e3 f3 s3 p3 b4 kd4 hp2 hq2 kv2 wu2 p2 b02
      k_call_by "za" 0
      rename_i q5 H5 n5 t6 H6 n6 l7 H7 n7
      have s47 : Same H4 H7 := (n5.same.trans n6.same).trans n7.same
      refine Z.i_addL (s47 _ _ hp4) n7.at (by rw [sizeLine_eq, List.length_singleton]; omega) fun l8 H8 n8 => ?_
      have la : l8 ≠ a := (p4.mono s47).ne n8.fr
      have e8 := n8.at
      have t8 := n8.get (n7.get n6.at)
      have q8 := n8.get (n7.get (n6.get n5.at))
      have s48 := s47.trans n8.same
      clear n5 n6 n7 n8 s47
      k_call_by "za" 0
      rename_i r9 H9 n9
      have s49 := s48.trans n9.same
      have kz : Knots H9 (vs ++ [.ref t6]) (ks ++ [⟨t0, .inlet⟩]) := all2_app (knots_kept kv4 (.of s49)) (all2_one ⟨t6, .ref q5, rfl, n9.get t8, q5, q5, rfl, n9.get q8, fun _ e => nomatch e⟩)
      exact k r9 l8 q _ us _ ws H9 n9.at (n9.get e8) (s49 _ _ hq4) kz (wires_kept wu4 (.of s49)) (h7.snoc (by omega) nt ht) la h10.symm (p4.mono s49) (b04.same s49)
    · k_call_by "za" 0
      rename_i r H3 n3
      exact k r p q vs us ks ws H3 n3.at (n3.get hp2) (n3.get hq2) (knots_kept kv2 (.of n3.same)) (wires_kept wu2 (.of n3.same)) h7 h9.symm h10.symm (p2.mono n3.same) (b02.same n3.same)

theorem valid_nil : Valid [] [] := ⟨by decide, by decide, (fun _ h => by cases h), .nil, (fun _ h => by cases h), (fun _ h => by cases h), (fun _ h => by cases h), (fun _ h => by cases h), .nil, (fun _ h => by cases h), ⟨fun _ => 0, fun _ h => by cases h⟩⟩

mutual
def pureD : PyData → Bool
  | .int _ => true
  | .str _ => true
  | .list l => pureL l
  | .tuple l => pureL l
  | _ => false
def pureL : List PyData → Bool
  | [] => true
  | d :: l => pureD d && pureL l
end
mutual
theorem eqv_d : ∀ d e : PyData, pureD d = true → pureD e = true → (PyData.eqv d e = true ↔ d = e)
  | .none, .none, h, g => by simp [pureD] at h
  | .none, .bool y, h, g => by simp [pureD] at h
  | .none, .int y, h, g => by simp [pureD] at h
  | .none, .str y, h, g => by simp [pureD] at h
  | .none, .list y, h, g => by simp [pureD] at h
  | .none, .tuple y, h, g => by simp [pureD] at h
  | .none, .dict y, h, g => by simp [pureD] at h
  | .bool x, .none, h, g => by simp [pureD] at h
  | .bool x, .bool y, h, g => by simp [pureD] at h
  | .bool x, .int y, h, g => by simp [pureD] at h
  | .bool x, .str y, h, g => by simp [pureD] at h
  | .bool x, .list y, h, g => by simp [pureD] at h
  | .bool x, .tuple y, h, g => by simp [pureD] at h
  | .bool x, .dict y, h, g => by simp [pureD] at h
  | .int x, .none, h, g => by simp [pureD] at g
  | .int x, .bool y, h, g => by simp [pureD] at g
  | .int x, .int y, h, g => by simp [PyData.eqv]
  | .int x, .str y, h, g => by simp [PyData.eqv]
  | .int x, .list y, h, g => by simp [PyData.eqv]
  | .int x, .tuple y, h, g => by simp [PyData.eqv]
  | .int x, .dict y, h, g => by simp [pureD] at g
  | .str x, .none, h, g => by simp [pureD] at g
  | .str x, .bool y, h, g => by simp [pureD] at g
  | .str x, .int y, h, g => by simp [PyData.eqv]
  | .str x, .str y, h, g => by simp [PyData.eqv]
  | .str x, .list y, h, g => by simp [PyData.eqv]
  | .str x, .tuple y, h, g => by simp [PyData.eqv]
  | .str x, .dict y, h, g => by simp [pureD] at g
  | .list x, .none, h, g => by simp [pureD] at g
  | .list x, .bool y, h, g => by simp [pureD] at g
  | .list x, .int y, h, g => by simp [PyData.eqv]
  | .list x, .str y, h, g => by simp [PyData.eqv]
  | .list x, .list y, h, g => by
    simp only [PyData.eqv, PyData.list.injEq]
    exact eqv_l x y (by simpa only [pureD] using h) (by simpa only [pureD] using g)
  | .list x, .tuple y, h, g => by simp [PyData.eqv]
  | .list x, .dict y, h, g => by simp [pureD] at g
  | .tuple x, .none, h, g => by simp [pureD] at g
  | .tuple x, .bool y, h, g => by simp [pureD] at g
  | .tuple x, .int y, h, g => by simp [PyData.eqv]
  | .tuple x, .str y, h, g => by simp [PyData.eqv]
  | .tuple x, .list y, h, g => by simp [PyData.eqv]
  | .tuple x, .tuple y, h, g => by
    simp only [PyData.eqv, PyData.tuple.injEq]
    exact eqv_l x y (by simpa only [pureD] using h) (by simpa only [pureD] using g)
  | .tuple x, .dict y, h, g => by simp [pureD] at g
  | .dict x, .none, h, g => by simp [pureD] at h
  | .dict x, .bool y, h, g => by simp [pureD] at h
  | .dict x, .int y, h, g => by simp [pureD] at h
  | .dict x, .str y, h, g => by simp [pureD] at h
  | .dict x, .list y, h, g => by simp [pureD] at h
  | .dict x, .tuple y, h, g => by simp [pureD] at h
  | .dict x, .dict y, h, g => by simp [pureD] at h
theorem eqv_l : ∀ d e : List PyData, pureL d = true → pureL e = true → (PyData.eqvAll d e = true ↔ d = e)
  | [], [], _, _ => by simp [PyData.eqvAll]
  | [], y :: ys, _, _ => by simp [PyData.eqvAll]
  | x :: xs, [], _, _ => by simp [PyData.eqvAll]
  | x :: xs, y :: ys, h, g => by
    simp only [pureL, Bool.and_eq_true] at h g
    simp only [PyData.eqvAll, Bool.and_eq_true, List.cons.injEq]
    rw [eqv_d x y h.1 g.1, eqv_l xs ys h.2 g.2]
end


def kdata (k : Knot) : PyData := .tuple [.str k.nm, k.nd.data]
/-- the drawn lists as data -/
def ddata (ks : List Knot) (ws : List Wire) : PyData := .tuple [.list (ks.map kdata), .list (ws.map wdata)]
theorem pure_ints (ns : List Int) : pureL (ns.map PyData.int) = true := by
  induction ns with
  | nil => simp only [List.map_nil, pureL]
  | cons n ns ih => simp only [List.map_cons, pureL, pureD, ih, Bool.and_self]
theorem pure_nd (nd : Nd) : pureD nd.data = true := by
  cases nd <;> simp only [Nd.data, pureD, pureL, pure_ints, Bool.and_self]
theorem pure_ks (ks : List Knot) : pureL (ks.map kdata) = true := by
  induction ks with
  | nil => simp only [List.map_nil, pureL]
  | cons k ks ih => simp only [List.map_cons, pureL, kdata, pureD, pure_nd, ih, Bool.and_self]
theorem pure_ws (ws : List Wire) : pureL (ws.map wdata) = true := by
  induction ws with
  | nil => simp only [List.map_nil, pureL]
  | cons k ks ih => simp only [List.map_cons, pureL, wdata, pureD, ih, Bool.and_self]
theorem kdata_inj : ∀ {ks ks' : List Knot}, (∀ k ∈ ks, k.nd.wf) → (∀ k ∈ ks', k.nd.wf) → ks.map kdata = ks'.map kdata → ks = ks'
  | [], [], _, _, _ => rfl
  | [], _ :: _, _, _, h => by simp at h
  | _ :: _, [], _, _, h => by simp at h
  | k :: ks, j :: js, w, w', h => by
    rw [List.map_cons, List.map_cons, List.cons.injEq] at h
    have e := kdata_inj (fun x m => w x (List.mem_cons_of_mem _ m)) (fun x m => w' x (List.mem_cons_of_mem _ m)) h.2
    have q := h.1
    unfold kdata at q
    simp only [PyData.tuple.injEq, List.cons.injEq, PyData.str.injEq, and_true] at q
    have nd := data_inj (w k List.mem_cons_self) (w' j List.mem_cons_self) (congrArg PyData.shown q.2)
    cases k
    cases j
    simp only at q nd
    rw [e, q.1, nd]
theorem wdata_inj : ∀ {ws ws' : List Wire}, ws.map wdata = ws'.map wdata → ws = ws'
  | [], [], _ => rfl
  | [], _ :: _, h => by simp at h
  | _ :: _, [], h => by simp at h
  | k :: ks, j :: js, h => by
    rw [List.map_cons, List.map_cons, List.cons.injEq] at h
    have e := wdata_inj h.2
    have q := h.1
    unfold wdata at q
    simp only [PyData.tuple.injEq, List.cons.injEq, PyData.str.injEq, PyData.int.injEq, and_true] at q
    cases k
    cases j
    simp only at q
    rw [e, q.1, q.2.1, show _ = _ from Int.ofNat.inj q.2.2.1, q.2.2.2]
theorem eqv_drawn {ks ks' : List Knot} {ws ws' : List Wire} (w : ∀ k ∈ ks, k.nd.wf) (w' : ∀ k ∈ ks', k.nd.wf) : PyData.eqv (ddata ks ws) (ddata ks' ws') = (decide (ks = ks') && decide (ws = ws')) := by
  have a : PyData.eqv (ddata ks ws) (ddata ks' ws') = (PyData.eqvAll (ks.map kdata) (ks'.map kdata) && PyData.eqvAll (ws.map wdata) (ws'.map wdata)) := by
    unfold ddata
    simp only [PyData.eqv, PyData.eqvAll, Bool.and_true]
  rw [a]
  congr 1
  · rw [Bool.eq_iff_iff, eqv_l _ _ (pure_ks ks) (pure_ks ks'), decide_eq_true_eq]
    exact ⟨kdata_inj w w', fun e => by rw [e]⟩
  · rw [Bool.eq_iff_iff, eqv_l _ _ (pure_ws ws) (pure_ws ws'), decide_eq_true_eq]
    exact ⟨wdata_inj, fun e => by rw [e]⟩
theorem knots_dp {K : PySem.W.Frag} {H : Hp} : ∀ {vs : List V} {ks : List Knot}, Knots H vs ks → DpAll K H vs (ks.map kdata)
  | _, [], h => by rw [h.nil_of]; exact .nil
  | _, k :: ks, h => by
    obtain ⟨x, xs, rfl, ⟨r, y, rfl, hr, sp⟩, h'⟩ := h.cons_of
    exact .cons (Z.dp_tup hr (.cons (.str _) (.cons (spec_dp sp) .nil))) (knots_dp h')
theorem ddata_dp {K : PySem.W.Frag} {H : Hp} {r p q : Addr} {vs us : List V} {ks : List Knot} {ws : List Wire} (h : H r = some (.tup [.ref p, .ref q])) (hp : H p = some (.lst vs)) (hq : H q = some (.lst us)) (kv : Knots H vs ks) (wu : Wires H us ws) : Dp K H (.ref r) (ddata ks ws) :=
  Z.dp_tup h (.cons (Z.dp_lst hp (knots_dp kv)) (.cons (Z.dp_lst hq (wires_dp wu)) .nil))
theorem kdata_fine {ks : List Knot} (nm : ∀ k ∈ ks, isNm k.nm) (wf : ∀ k ∈ ks, k.nd.wf) : Z.fines (ks.map kdata) = true ∧ PyData.depthAll (ks.map kdata) ≤ 41 := by
  induction ks with
  | nil => exact ⟨fin0, by simp [PyData.depthAll]⟩
  | cons k ks ih =>
    obtain ⟨a, b⟩ := ih (fun x m => nm x (List.mem_cons_of_mem _ m)) (fun x m => wf x (List.mem_cons_of_mem _ m))
    have n := neat_data (wf k List.mem_cons_self)
    have nd := n.dp
    refine ⟨finc (fine_tup (finc (fine_nm (nm k List.mem_cons_self)) (finc n.f fin0))) a, ?_⟩
    simp only [List.map_cons, PyData.depthAll, kdata, PyData.depth]
    omega
theorem ddata_shaped {ks : List Knot} {ws : List Wire} (v : Valid ks ws) : SeqAt.shaped (ddata ks ws) = true := by
  obtain ⟨a, b⟩ := kdata_fine v.nm v.wf
  obtain ⟨c, d, _⟩ := wdata_neat v
  unfold SeqAt.shaped
  rw [Bool.and_eq_true, decide_eq_true_eq]
  refine ⟨Z.fine_lay _ (fine_tup (finc (fine_lst a) (finc (fine_lst c) fin0))), Nat.le_trans (m := 44) ?_ (by decide)⟩
  simp only [ddata, PyData.depth, PyData.depthAll]
  omega

def sp_law (K : PySem.W.Frag) : Sp := fun vz H Q Ex => ∃ (s0 : Addr) (ns0 : List Int), vz = [.ref s0] ∧ (SqL K H s0 (ns0.map V.int)) ∧ (ns0.length ≤ 63) ∧ (∀ H', Q (.bl true) H')
theorem c_law {K : PySem.W.Frag} {H : Hp} {Q : VK} {Ex : XK} {s0 : Addr} {ns0 : List Int} (h1 : SqL K H s0 (ns0.map V.int)) (h2 : ns0.length ≤ 63) (k : ∀ H', Q (.bl true) H') : sp_law K [.ref s0] H Q Ex := ⟨s0, ns0, rfl, h1, h2, k⟩
theorem ok_law  {P : Program} {w : World} {K : PySem.W.Frag} {mg : Str → Option Value} {base : Heap} (E : Ev K mg) : Z.Pr True P w K mg base 12 (He.ga K "law") d_law p_law (sp_law K) := by
  obtain ⟨fd, FD⟩ := E.fn 78 (d := d_law)
  refine ⟨fd, FD, Z.FunD.okG FD sc_law (fun vz H Q Ex h => ?_) (fun cdv A outer s H vz Q Ex hr hgd h => ?_)⟩
  · obtain ⟨_, _, rfl, _⟩ := h
    rfl
  · have hu := hr.units
    obtain ⟨s0, ns0, rfl, h1, h2, k⟩ := h
    have F_Weave_names := ok_Weave_names (g := True) (P := P) (w := w) (base := base) E
    have F_Weave_u__eq := ok_Weave_u__eq (P := P) (w := w) (base := base) E
    have F_Weave_u__init := ok_Weave_u__init (g := True) (P := P) (w := w) (base := base) E
    have F_Weave_u__len := ok_Weave_u__len (g := True) (P := P) (w := w) (base := base) E
    have F_l_drawn := ok_l_drawn (g := True) (P := P) (w := w) (base := base) E
    have F_l_other := ok_l_other (g := True) (P := P) (w := w) (base := base) E
    have F_l_pairs := ok_l_pairs (P := P) (w := w) (base := base) E
    have F_l_pick := ok_l_pick (g := True) (P := P) (w := w) (base := base) E
    have F_l_pot := ok_l_pot (g := True) (P := P) (w := w) (base := base) E
    have F_l_right := ok_l_right (P := P) (w := w) (base := base) E
    refine ⟨_, (Z.zs_cons (Z.z_for (passes_of rfl) rfl (pi_range1 (by rfl) (E.free 41) (pa_cons (pe_callB (Z.cmax2 rfl) (by rfl) (E.free 31) (by decide +kernel) (pa_cons pe_int (pa_cons (pe_callB (Z.cmin2 rfl) (by rfl) (E.free 103) (by decide +kernel) (pa_cons pe_int (pa_cons (pe_callB (Z.clenK K rfl) (by rfl) (E.free 32) (by decide +kernel) (pa_cons (pv 0) pa_nil)) pa_nil))) pa_nil))) pa_nil)) (pg_name (i := 1) sc_law.nd rfl (Or.inl rfl))
   (Z.zs_cons (Z.z_set (i := 2) sc_law.nd rfl (Or.inl rfl) (Z.pe_f F_l_pot (hr.mono (by decide)) hgd (by rfl) (E.glo 108) bd_l_pot (passL) (pa_cons (pv 0) (pa_cons (pv 1) pa_nil))))
   (Z.zs_cons (Z.z_asg (Z.pe_f F_l_drawn (hr.mono (by decide)) hgd (by rfl) (E.glo 107) bd_l_drawn (passL) (pa_cons (pv 2) pa_nil)) (pg_tup (n := 2) (by rfl) (pgs_cons (pg_name (i := 3) sc_law.nd rfl (Or.inl rfl)) (pgs_cons (pg_name (i := 4) sc_law.nd rfl (Or.inl rfl)) pgs_nil))))
   (Z.zs_cons (Z.z_set (i := 5) sc_law.nd rfl (Or.inl rfl) (Z.pe_new (E.mkr 102) F_Weave_u__init (hr.mono (by decide)) hgd (by rfl) (E.glo 72) (passL) bd_Weave_u__init (pa_cons (Z.pe_f F_l_pairs (hr.mono (by decide)) hgd (by rfl) (E.glo 105) bd_l_pairs (passL) (pa_cons (pv 3) pa_nil)) (pa_cons (pe_callTy (Z.clistK K rfl) (by rfl) (E.free 35) (by decide +kernel) (pa_cons (pv 4) pa_nil)) pa_nil))))
   (Z.zs_cons (Z.z_set (i := 6) sc_law.nd rfl (Or.inl rfl) (Z.pe_f F_l_other (hr.mono (by decide)) hgd (by rfl) (E.glo 106) bd_l_other (passL) (pa_cons (pv 2) (pa_cons (pv 3) (pa_cons (pv 4) pa_nil)))))
   (Z.zs_cons (Z.z_set (i := 7) sc_law.nd rfl (Or.inl rfl) (Z.pe_new (E.mkr 102) F_Weave_u__init (hr.mono (by decide)) hgd (by rfl) (E.glo 72) (passL) bd_Weave_u__init (pa_cons (Z.pe_f F_l_pairs (hr.mono (by decide)) hgd (by rfl) (E.glo 105) bd_l_pairs (passL) (pa_cons (pe_ix (Z.ixUK K rfl) (pv 6) pe_int (fun _ _ => rfl)) pa_nil)) (pa_cons (pe_callTy (Z.clistK K rfl) (by rfl) (E.free 35) (by decide +kernel) (pa_cons (pe_ix (Z.ixUK K rfl) (pv 6) pe_int (fun _ _ => rfl)) pa_nil)) pa_nil))))
   (Z.zs_cons (Z.z_if (PW.pt (pw_or (pt_not (pt_val (Z.pe_f F_l_right (hr.mono (by decide)) hgd (by rfl) (E.glo 104) bd_l_right (passL) (pa_cons (pv 5) (pa_cons (pv 7) (pa_cons (pe_cmpR (Z.opEqK K rfl hu) (pe_tup (pa_cons (pv 3) (pa_cons (pv 4) pa_nil))) (pv 6) (nomark _)) pa_nil)))))) (pw_or1 (pt_not (pt_val (Z.pe_f F_l_right (hr.mono (by decide)) hgd (by rfl) (E.glo 104) bd_l_right (passL) (pa_cons (pv 5) (pa_cons (pv 5) (pa_cons pe_bl pa_nil))))))))) (Z.zs_one (Z.z_ret pe_bl)) Z.zs_nil)
   (Z.zs_cons (Z.z_if (pt_not (pt_val (Z.pe_f F_l_right (hr.mono (by decide)) hgd (by rfl) (E.glo 104) bd_l_right (passL) (pa_cons (pv 5) (pa_cons (Z.pe_new (E.mkr 102) F_Weave_u__init (hr.mono (by decide)) hgd (by rfl) (E.glo 72) (passL) bd_Weave_u__init (pa_cons (Z.pe_f F_l_pairs (hr.mono (by decide)) hgd (by rfl) (E.glo 105) bd_l_pairs (passL) (pa_cons (pv 3) pa_nil)) (pa_cons (pe_callTy (Z.clistK K rfl) (by rfl) (E.free 35) (by decide +kernel) (pa_cons (pv 4) pa_nil)) pa_nil))) (pa_cons pe_bl pa_nil)))))) (Z.zs_one (Z.z_ret pe_bl)) Z.zs_nil)
   (Z.zs_cons (Z.z_set (i := 8) sc_law.nd rfl (Or.inl rfl) (Z.pe_f F_l_pick (hr.mono (by decide)) hgd (by rfl) (E.glo 93) bd_l_pick (passL) (pa_cons (pv 2) (pa_cons (pe_lst (pa_cons pe_non (pa_cons (pe_callB (Z.clenK K rfl) (by rfl) (E.free 32) (by decide +kernel) (pa_cons (pv 3) pa_nil)) (pa_cons pe_str (pa_cons (pe_tup (pa_cons (pv 3) (pa_cons (pv 4) pa_nil))) (pa_cons (pe_lst (pa_cons (pv 3) (pa_cons (pv 4) pa_nil))) (pa_cons pe_dnewK (pa_cons (Z.pe_M0K K rfl (Z.ms_cons (Z.mt_of (E.cls 30) (Z.fxM_ok (E.own 84)) F_Weave_names bd_Weave_names (hr.mono (by decide)) hgd) Z.ms_nil) (passL) (pv 5)) (pa_cons pe_bl pa_nil))))))))) pa_nil))))
   (Z.zs_one (Z.z_if (PW.pt (pw_or (pt_not (pt_val (Z.pe_f F_l_right (hr.mono (by decide)) hgd (by rfl) (E.glo 104) bd_l_right (passL) (pa_cons (pv 5) (pa_cons (pv 8) (pa_cons pe_bl pa_nil)))))) (pw_or (pt_cmpR (Z.opNeK K rfl hu) (pe_callB (Z.clenO K rfl (Z.mi_cons (Z.fxM_ok (E.own 97)) F_Weave_u__len bd_Weave_u__len (hr.mono (by decide)) hgd Z.mi_nil) passL) (by rfl) (E.free 32) (by decide +kernel) (pa_cons (pv 5) pa_nil)) (pe_callB (Z.clenK K rfl) (by rfl) (E.free 32) (by decide +kernel) (pa_cons (pv 3) pa_nil)) (nomark _)) (pw_or1 (pt_cmpR (Z.opNeK K rfl hu) (pe_callB (Z.clenO K rfl (Z.mi_cons (Z.fxM_ok (E.own 97)) F_Weave_u__len bd_Weave_u__len (hr.mono (by decide)) hgd Z.mi_nil) passL) (by rfl) (E.free 32) (by decide +kernel) (pa_cons (pv 7) pa_nil)) (pe_callB (Z.clenK K rfl) (by rfl) (E.free 32) (by decide +kernel) (pa_cons (pe_ix (Z.ixUK K rfl) (pv 6) pe_int (fun _ _ => rfl)) pa_nil)) (nomark _)))))) (Z.zs_one (Z.z_ret pe_bl)) Z.zs_nil)))))))))))
   (Z.zs_one (Z.z_ret (pe_and (pe_cmpR (Z.opEqXY K rfl hr (Z.ms_cons (Z.mt_of (E.cls 30) (Z.fxM_ok (E.own 96)) F_Weave_u__eq bd_Weave_u__eq (hr.mono (by decide)) hgd) Z.ms_nil) passL) (Z.pe_new (E.mkr 102) F_Weave_u__init (hr.mono (by decide)) hgd (by rfl) (E.glo 72) (passL) bd_Weave_u__init (pa_cons (pe_lst pa_nil) (pa_cons (pe_lst pa_nil) pa_nil))) (Z.pe_new (E.mkr 102) F_Weave_u__init (hr.mono (by decide)) hgd (by rfl) (E.glo 72) (passL) bd_Weave_u__init (pa_cons (pe_lst pa_nil) (pa_cons (pe_lst pa_nil) pa_nil))) (nomark _)) (pe_one (pe_cmpR (Z.opEqK K rfl hu) (pe_callB (Z.clenO K rfl (Z.mi_cons (Z.fxM_ok (E.own 97)) F_Weave_u__len bd_Weave_u__len (hr.mono (by decide)) hgd Z.mi_nil) passL) (by rfl) (E.free 32) (by decide +kernel) (pa_cons (Z.pe_new (E.mkr 102) F_Weave_u__init (hr.mono (by decide)) hgd (by rfl) (E.glo 72) (passL) bd_Weave_u__init (pa_cons (pe_lst pa_nil) (pa_cons (pe_lst pa_nil) pa_nil))) pa_nil)) pe_int (nomark _))))))), ?_⟩
    refine Z.i_start (σ := [some (.ref s0), none, none, none, none, none, none, none, none]) rfl ?_
    try dsimp only [Z.cxK]
    k_call_by "za" 0
    refine Z.i_rng1I (by omega) (by omega) ?_
    refine Z.loop_range0 (fun i σ H' => (∃ x2 x3 x4 x5 x6 x7 x8 x9, σ = [some (.ref s0), x2, x3, x4, x5, x6, x7, x8, x9]) ∧ Same H H') ?_ ?_ ?_
    · exact ⟨⟨_, _, _, _, _, _, _, _, rfl⟩, Same.refl _⟩
    · rintro i σ H7 hi ⟨⟨x2, x3, x4, x5, x6, x7, x8, x9, rfl⟩, s7⟩
      k_call_by "za" 0
      refine c_l_pot (i := i) (s7.seq h1) (by omega) fun a H8 f8 s8 p8 => ?_
      k_call_by "za" 0
      refine c_l_drawn p8 fun r0 p q vs us ks ws H9 e0 ep eq kv wu va sm ne fp fq npq p9 b9 => ?_
      have v1 := va.kl
      have v2 := va.wl
      have s79 : Same H7 H9 := Z.Same.thenBut s8 b9 f8
      have pa9 : p ≠ a := fun z => by subst z; exact p8.ne fp rfl
      have qa9 : q ≠ a := fun z => by subst z; exact p8.ne fq rfl
      k_call_by "za" 0
      refine c_l_pairs ep kv va.wf (by omega) fun pa pvs H10 f10 s10 e10 pr10 => ?_
      k_call_by "za" 0
      rename_i rl H11 n11 w0 dx Hm m
      have s11m : Same H11 Hm := m.same
      have s9m : Same H9 Hm := (s10.trans n11.same).trans s11m
      refine c_Weave_u__init m.at (.inl (m.get (n11.get e10))) (pairs_kept pr10 (.of (n11.same.trans s11m))) (.inl (m.get n11.at)) (wires_kept wu (.of s9m)) va fun H12 iw hn b12 => ?_
      have s912 : Same H9 H12 := Z.Same.thenBut s9m b12 (fresh_of (s10.trans n11.same) m.fr)
      refine ⟨rfl, ?_⟩
      have p12 : Pot H12 a := p9.mono s912
      have s712 : Same H7 H12 := s79.trans s912
      have ep12 := s912 _ _ ep
      have eq12 := s912 _ _ eq
      have kv12 := knots_kept kv (.of s912)
      have wu12 := wires_kept wu (.of s912)
      clear b12 m n11 s11m hn e0 ep eq kv wu s9m s10 b9 s912 s79 p9 p8
      k_call_by "za" 0
      refine c_l_other p12 ep12 kv12 eq12 wu12 ne va sm pa9.symm qa9.symm fun r1 p1 q1 vs1 us1 ks1 ws1 H13 e1 ep1 eq1 kv1 wu1 va1 pa1 qa1 p13 b13 => ?_
      have v11 := va1.kl
      have v12 := va1.wl
      have l1eq := kv1.len
      have kd13 := p12.keptD b13
      have ep13 := b13.get pa9 ep12
      have eq13 := b13.get qa9 eq12
      have kv13 := knots_kept kv12 kd13.toKept
      have wu13 := wires_kept wu12 kd13.toKept
      have iw13 := iw.kept kd13
      have s713 : Same H7 H13 := Z.Same.thenBut s712 b13 f8
      clear iw kv12 wu12 ep12 eq12 p12 b13 kd13 s712
      k_call_by "za" 0
      refine c_l_pairs ep1 kv1 va1.wf (by omega) fun pb pvs1 H14 f14 s14 e14 pr14 => ?_
      k_call_by "za" 0
      rename_i l15 H15 n15 w1 dx1 Hm1 m1
      have s14m := n15.same.trans m1.same
      have s13m := s14.trans s14m
      refine c_Weave_u__init m1.at (.inl (m1.get (n15.get e14))) (pairs_kept pr14 (.of s14m)) (.inl (m1.get n15.at)) (wires_kept wu1 (.of s13m)) va1 fun H16 iw1 hn1 b16 => ?_
      have s1316 : Same H13 H16 := Z.Same.thenBut s13m b16 (fresh_of (s14.trans n15.same) m1.fr)
      refine ⟨rfl, ?_⟩
      have ep16 := s1316 _ _ ep13
      have eq16 := s1316 _ _ eq13
      have kv16 := knots_kept kv13 (.of s1316)
      have wu16 := wires_kept wu13 (.of s1316)
      have iw16 := iw13.kept (.of s1316)
      have p16 := p13.mono s1316
      have s716 := s713.trans s1316
      have ep16' := s1316 _ _ ep1
      have eq16' := s1316 _ _ eq1
      have kv16' := knots_kept kv1 (.of s1316)
      have wu16' := wires_kept wu1 (.of s1316)
      have e16' := s1316 _ _ e1
      clear m1 n15 hn1 b16 s14m s13m s14 e14 pr14 f14 ep13 eq13 kv13 wu13 iw13 p13 s713 s1316 ep1 eq1 kv1 wu1 e1
      k_call_by "za" 0
      rename_i t17 H17 n17
      refine Z.i_eqD (ddata_dp n17.at (n17.get ep16) (n17.get eq16) (knots_kept kv16 (.of n17.same)) (wires_kept wu16 (.of n17.same))) (ddata_dp (n17.get e16') (n17.get ep16') (n17.get eq16') (knots_kept kv16' (.of n17.same)) (wires_kept wu16' (.of n17.same))) (ddata_shaped va) (ddata_shaped va1) ?_
      k_call_by "za" 0
      have iw17 := iw16.kept (.of n17.same)
      have iw17' := iw1.kept (.of n17.same)
      refine c_l_right iw17 (o := some (ks1, ws1)) ⟨w1, rfl, iw17'⟩ (eqv_drawn va.wf va1.wf).symm fun H18 s18 => ?_
      k_call_by "za" 0
      have iw18 := iw17.kept (.of s18)
      refine c_l_right iw18 (o := some (ks, ws)) ⟨w0, rfl, iw18⟩ (by simp [eqO]) fun H19 s19 => ?_
      have s1619 : Same H16 H19 := n17.same.trans (s18.trans s19)
      have ep19 := s1619 _ _ ep16
      have eq19 := s1619 _ _ eq16
      have kv19 := knots_kept kv16 (.of s1619)
      have wu19 := wires_kept wu16 (.of s1619)
      have iw19 := iw16.kept (.of s1619)
      have iw19' := iw1.kept (.of s1619)
      have p19 := p16.mono s1619
      have s719 := s716.trans s1619
      have e19' := s1619 _ _ e16'
      have ep19' := s1619 _ _ ep16'
      clear n17 iw17 iw17' iw18 s18 s19 ep16 eq16 kv16 wu16 iw16 iw1 p16 s716 e16' ep16' eq16' kv16' wu16' s1619
      k_call_by "za" 0
      refine c_l_pairs ep19 kv19 va.wf (by omega) fun pc pvs2 H20 f20 s20 e20 pr20 => ?_
      k_call_by "za" 0
      rename_i l21 H21 n21 w2 dx2 Hm2 m2
      have s20m := n21.same.trans m2.same
      have s19m := s20.trans s20m
      refine c_Weave_u__init m2.at (.inl (m2.get (n21.get e20))) (pairs_kept pr20 (.of s20m)) (.inl (m2.get n21.at)) (wires_kept wu19 (.of s19m)) va fun H22 iw2 hn2 b22 => ?_
      have s1922 : Same H19 H22 := Z.Same.thenBut s19m b22 (fresh_of (s20.trans n21.same) m2.fr)
      refine ⟨rfl, ?_⟩
      clear m2 n21 hn2 b22 s20m s19m s20 e20 pr20 f20
      k_call_by "za" 0
      refine c_l_right (iw19.kept (.of s1922)) (o := some (ks, ws)) ⟨w2, rfl, iw2⟩ (by simp [eqO]) fun H23 s23 => ?_
      have s1923 := s1922.trans s23
      have ep23 := s1923 _ _ ep19
      have eq23 := s1923 _ _ eq19
      have iw23 := iw19.kept (.of s1923)
      have iw23' := iw19'.kept (.of s1923)
      have p23 := p19.mono s1923
      have s723 := s719.trans s1923
      have e23' := s1923 _ _ e19'
      have ep23' := s1923 _ _ ep19'
      have kl := kv19.len
      have kl1 := va1.kl
      clear iw2 s1922 s23 s1923 ep19 eq19 wu19 iw19 iw19' p19 s719 e19' ep19'
      have lv1 : vs1.length = ks1.length := l1eq
      k_call_by "za" 0
      rename_i t24 H24 n24 l25 H25 n25 d26 H26 n26
      have s2326 := (n24.same.trans n25.same).trans n26.same
      have g24 := n26.get (n25.get n24.at)
      have g25 := n26.get n25.at
      have g26 := n26.at
      have iw26 := iw23.kept (.of s2326)
      have p26 := p23.mono s2326
      have s726 := s723.trans s2326
      have iw26' := iw23'.kept (.of s2326)
      have ep26 := s2326 _ _ ep23
      have e26' := s2326 _ _ e23'
      have ep26' := s2326 _ _ ep23'
      have qa24 : l25 ≠ a := (p23.mono n24.same).ne n25.fr
      clear n24 n25 n26 iw23 p23 s723 iw23' ep23 e23' ep23' eq23 s2326
      obtain ⟨dx6, wp, wr, wd, we, wvs, wus, kvs, nbs, i1, i2, i3, i4, i5, i6, i7, i8, i9⟩ := id iw26
      refine Z.i_Mi 0 i1 rfl rfl ⟨rfl, rfl, ?_⟩
      dsimp only
      refine c_Weave_names i1 rfl i2 i3 (by omega) fun l27 H27 f27 s27 e27 => ?_
      k_call_by "za" 0
      rename_i l28 H28 n28
      have s2628 := s27.trans n28.same
      have la : a ≠ l28 := fun z => (p26.mono s27).ne n28.fr z.symm
      have qa27 : l27 ≠ a := p26.ne f27
      refine c_l_pick (p26.mono s2628) n28.at (by simp) (by simp) la fun v H29 hv p29 b29 => ?_
      have kd29 : KeptD H26 H29 := (KeptD.of s2628).trans ((p26.mono s2628).keptD b29)
      have x24 := kd29.t _ _ g24
      have x25 := b29.get qa24 (s2628 _ _ g25)
      have x26 := kd29.d _ _ g26
      have x27 := b29.get qa27 (n28.get e27)
      obtain ⟨T, bt⟩ : ∃ T, Z.BT H29 v T := by
        simp only [List.mem_cons, List.not_mem_nil, or_false] at hv
        rcases hv with rfl | rfl | rfl | rfl | rfl | rfl | rfl | rfl
        · exact ⟨_, .non⟩
        · exact ⟨_, .int _⟩
        · exact ⟨_, .str _⟩
        · exact ⟨_, .tup x24⟩
        · exact ⟨_, .lst x25⟩
        · exact ⟨_, .dK x26⟩
        · exact ⟨_, .lst x27⟩
        · exact ⟨_, .bl _⟩
      have iw29 := iw26.kept kd29
      have iw29' := iw26'.kept kd29
      have ep29 := b29.get pa9 (s2628 _ _ ep26)
      have e29' := kd29.t _ _ e26'
      have ep29' := b29.get pa1 (s2628 _ _ ep26')
      have s729 : Same H7 H29 := Z.Same.thenBut (s726.trans s2628) b29 f8
      clear x24 x25 x26 x27 hv b29 kd29 n28 s27 e27 s2628 iw26 iw26' ep26 e26' ep26' i1 i2 i3 i4 i5 i6 i7 i8 i9 g24 g25 g26 s726
      k_call_by "za" 0
      refine c_l_right iw29 (o := none) ⟨T, bt⟩ rfl fun H30 s30 => ?_
      k_call_by "za" 0
      have iw30 := iw29.kept (.of s30)
      have iw30' := iw29'.kept (.of s30)
      have ep30 := s30 _ _ ep29
      have e30' := s30 _ _ e29'
      have ep30' := s30 _ _ ep29'
      have s730 := s729.trans s30
      clear s30 iw29 iw29' ep29 e29' ep29' s729 bt
      obtain ⟨dz, _, _, _, _, _, _, _, _, j2, _⟩ := id iw30
      refine ⟨_, w0, dz, _, List.mem_cons_self, rfl, j2, rfl, rfl, ?_⟩
      dsimp only
      refine c_Weave_u__len iw30 ⟨_, rfl, by omega, ?_⟩
      k_call_by "za" 0
      refine Z.itnF (by omega) ?_
      k_call_by "za" 0
      obtain ⟨dz', _, _, _, _, _, _, _, _, j3, _⟩ := id iw30'
      refine ⟨_, w1, dz', _, List.mem_cons_self, rfl, j3, rfl, rfl, ?_⟩
      dsimp only
      refine c_Weave_u__len iw30' ⟨_, rfl, by omega, ?_⟩
      k_call_by "za" 0
      refine Z.itnF (by omega) ?_
      k_call_by "za" 0
      exact ⟨⟨_, _, _, _, _, _, _, _, rfl⟩, s7.trans s730⟩
    · rintro σ H7 ⟨⟨x2, x3, x4, x5, x6, x7, x8, x9, rfl⟩, s7⟩
      k_call_by "za" 0
      rename_i l1 H1 n1 l2 H2 n2 w1 dx1 Hm1 m1
      refine c_Weave_u__init m1.at (.inl (m1.get (n2.get n1.at))) .nil (.inl (m1.get n2.at)) .nil valid_nil fun H3 iw1 hn1 b3 => ?_
      refine ⟨rfl, ?_⟩
      clear n1 n2 m1 hn1 b3 s7
      k_call_by "za" 0
      rename_i l4 H4 n4 l5 H5 n5 w2 dx2 Hm2 m2
      have s35 := (n4.same.trans n5.same).trans m2.same
      refine c_Weave_u__init m2.at (.inl (m2.get (n5.get n4.at))) .nil (.inl (m2.get n5.at)) .nil valid_nil fun H6 iw2 hn2 b6 => ?_
      refine ⟨rfl, ?_⟩
      have s36 : Same H3 H6 := Z.Same.thenBut s35 b6 (fresh_of (n4.same.trans n5.same) m2.fr)
      refine w_eqL E (iw1.kept (.of s36)) (o := some ([], [])) ⟨w2, rfl, iw2⟩ fun H8 s8 => ?_
      refine ⟨_, rfl, Z.ifT (by simp [eqO]) ?_⟩
      clear n4 n5 m2 hn2 b6 s35 s36 iw1 iw2 s8
      k_call_by "za" 0
      rename_i l9 H9 n9 l10 H10 n10 w3 dx3 Hm3 m3
      refine c_Weave_u__init m3.at (.inl (m3.get (n10.get n9.at))) .nil (.inl (m3.get n10.at)) .nil valid_nil fun H11 iw3 hn3 b11 => ?_
      refine ⟨rfl, ?_⟩
      obtain ⟨dz, wp', wr', wd', we', wvs', wus', kvs', nbs', j2, _⟩ := id iw3
      k_call_by "za" 0
      refine ⟨_, w3, dz, _, List.mem_cons_self, rfl, j2, rfl, rfl, ?_⟩
      dsimp only
      refine c_Weave_u__len iw3 ⟨_, rfl, by decide, ?_⟩
      k_call_by "za" 0
      exact k _

theorem start_law {K : PySem.W.Frag} (H : Hp) (a : Addr) (ns : List Int) (l : ns.length ≤ 63) (_ : ∀ z ∈ ns, Builtin.Int.intBits z ≤ 1048576) (_ : L2.Only H) (h : SqL K H a (ns.map V.int)) :
    sp_law K [.ref a] H (fun v _ => v = .bl true) fun _ _ _ => False := c_law h l fun _ => rfl



end L
open PySem PySem.W PySem.Calls PyProof.Rows
set_option maxRecDepth 100000 in
set_option maxHeartbeats 0 in
theorem PySem.Challenge.cw_sampleweave_k28_equal_and_long_holds : PySem.Challenge.rw_sampleweave_k28_equal_and_long.Holds := by
  w_on; o_law
  refine HandSHeadRun.head_any (r := OpenLaw.row PySem.Challenge.rw_sampleweave_k28_equal_and_long) (q := view (OpenLaw.row PySem.Challenge.rw_sampleweave_k28_equal_and_long).prog [75]) (H := L.hk) (ob := L.obs) (M := 16000) (loose := L.names)
    (d := HandSHeadRun.topDef (OpenLaw.row PySem.Challenge.rw_sampleweave_k28_equal_and_long).prog 75) (kwd := []) L.obs_eq (by kernel_rfl) (fun s => by kernel_rfl) L.run (by kernel_rfl) (by kernel_rfl) (by kernel_rfl) (by rfl)
    (by first | assumption | decide +kernel) (by decide +kernel) ⟨rfl, rfl, rfl, rfl, rfl, by decide +kernel⟩ ?hw ?hc
  case hw => w_witness2
  case hc =>
    refine Z.walk_ofG (l := PySem.Challenge.rw_sampleweave_k28_equal_and_long) (n := 63) (k := 12) (x := "_law_script") rfl (by decide) (by kernel_rfl) ⟨rfl, by decide, by decide⟩ ?F
    intro w mg fa h Y G hmg0
    obtain ⟨K, KX, c⟩ := Y
    have hmg : mg ("law" : PySem.Str) = some (.ref fa) := by
      have e : (HandSHeadRun.topDef (OpenLaw.row PySem.Challenge.rw_sampleweave_k28_equal_and_long).prog 75).name = ("law" : PySem.Str) := by kernel_rfl
      rw [← e]
      exact hmg0
    have E : L.Ev K mg := ⟨c, h, KX, G⟩
    have e := hmg.symm.trans (E.glo 125)
    cases e
    obtain ⟨fd, FD, OK⟩ := (L.ok_law (P := (PySem.Challenge.rw_sampleweave_k28_equal_and_long).prog) (w := w) (base := h) E).ex
    refine ⟨K, fd, L.sp_law K, KX, fun s v => L2.FunD.bindsA (ps := ["_law_script"]) FD (fun _ _ _ _ _ _ us hl => match us, hl with | [_], _ => rfl) s [v] rfl, L.start_law, fun base b1 b2 => ?_⟩
    obtain ⟨fd', FD', OK'⟩ := (L.ok_law (P := (PySem.Challenge.rw_sampleweave_k28_equal_and_long).prog) (w := w) (base := base) E).ex
    rw [Z.FunD.uniq FD FD']
    exact OK'
#print axioms PySem.Challenge.cw_sampleweave_k28_equal_and_long_holds
