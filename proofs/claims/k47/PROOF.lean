import PyProof.Rows.All
import Wide.All
import OpenK.AllK
import Wide.FinOn
import HandS.ForMost
import PyProof.ReprRoads
import HandS.ForExc
import HandS.Wide
import HandS.Flow
import HandS.IsInst
import HandS.Defaults
import HandS.Conv
import HandS.EndBits
import HandS.RaiseMore
import HandS.Style
import HandS.Comp
import HandS.ExcIs
import HandS.Steps
import HandS.MakeKwOnly
import KE.GoesEnum
import HandS.Zip
import KE.KUnpackStar
import HandS.SetFor
import HandS.Walk
import HandS.CallLocal
import PyProof.P3In
import HandS.TupAny
import HandS.Deep
import PyProof.Rows.ReprOcc
import PySem.Challenge.RW_paymill_k47_payments_judged
set_option Elab.async false
set_option linter.all false
set_option maxRecDepth 100000
set_option maxHeartbeats 4000000
set_option autoImplicit false
namespace Pm
open PySem PySem.Spec PyProof.Rows L2
/-! ### promises that hold where no repr is under way -/
structure FnG (P : Program) (w : World) (K : PySem.W.Frag) (mg : Str → Option Value) (base : Heap) (CX : CXT) (k : Nat) (f : Addr) (fd : FuncData) (ps : List Str) (sp : Sp) : Prop where
  len : ∀ vs H Q E, sp vs H Q E → vs.length = ps.length
  run : ∀ (A : Around), A.guards = some [] → ∀ (outer : List Env) (s : Shared) (H : Hp) (args : Args) (us : List Value) (vs : List V) (Q : VK) (E : XK),
    Room k A → Env0 P w K mg base A outer s H → BindsTo s fd args (ps.zip us) → Vals vs us → sp vs H Q E →
    codeAny (model P w) A (.call (.ref f) args) (CR CX outer P w H s Q E) s
section
variable {P : Program} {w : World} {K : PySem.W.Frag} {mg : Str → Option Value} {base : Heap} {CX : CXT} {k : Nat} {f : Addr} {fd : FuncData} {ps : List Str} {sp : Sp}
theorem FnG.of (F : FnOk P w K mg base CX k f fd ps sp) : FnG P w K mg base CX k f fd ps sp :=
  ⟨F.len, fun A _ outer s H args us vs Q E => F.run A outer s H args us vs Q E⟩
/-- a def's body walked, knowing that no repr is under way -/
theorem fnG_of {name qual : Str} {params : Arguments} {body : List Stmt} {scope : Scope} {dV kV doc pm cdv ct oc : Value} {an od : Option Addr} {osl : Array (Option Value)} {N : List Str}
    (lk : K.lookup f = some ⟨oc, od, .func (PySem.W.fnOf name qual params body scope dV kV doc pm an cdv ct), osl⟩) (hcd : PySem.W.codeIn K cdv qual = true) (S : FnScope N ps scope)
    (len : ∀ vs H Q E, sp vs H Q E → vs.length = ps.length)
    (hbody : ∀ (A : Around), A.guards = some [] → ∀ (outer : List Env) (s : Shared) (H : Hp) (vs : List V) (Q : VK) (E : XK), Room k (A.deeper (envOfC qual scope s.heap.objs.size f cdv)) → sp vs H Q E →
      ∃ t, PSs (cxOf CX P w K mg base N qual scope f cdv A outer s H E) body t ∧ t { nx := fun _ H' => Q .non H', rt := Q } (start N vs) H) :
    FnG P w K mg base CX (k + 1) f (PySem.W.fnOf name qual params body scope dV kV doc pm an cdv ct) ps sp where
  len := len
  run := by
    intro A hA outer s H args us vs Q E room env bnd rel pre
    have inK : K.In s.heap := env.mod.kin.keeps fun b o q => (env.bs b o q).1
    have lim : s.heap.NoLimit := env.mod.nolimit.keeps fun b o q => (env.bs b o q).1
    obtain ⟨t, der, want⟩ := hbody A hA outer s H vs Q E (room.deeper _) pre
    apply codeAny_call_function room.depth (inK _ _ lk) rfl S.co S.gen rfl (PySem.W.codeRec_of inK hcd)
    apply bnd
    apply wpAny_newFunctionEnv_cells S.kind
    · rintro ⟨y, u⟩ hy
      cases S.par y (List.of_mem_zip hy).1 with
      | inl q => exact Or.inl q
      | inr q => exact Or.inr ⟨q, PySem.W.cellsFrom_some _ _ _ (Or.inl q)⟩
    · intro env2 he s2 x
      subst he
      refine ⟨lim.keeps x.toInCall.keep, codeAny_func ?_⟩
      have I := inv_start (CX := CX) (P := P) (w := w) (E := E) S room.hd env (len _ _ _ _ pre) rel x
      refine wpAny_mono (der.run [] s2 _ H _ I want) ?_ fun _ _ z => z
      intro fl s3 hs
      match fl, hs with
      | .ret u, ⟨v, σ3, H3, J, rv, q⟩ => exact ⟨v, H3, J.os, J.bare, J.base, J.hok, rv, q⟩
      | .next, ⟨σ3, H3, J, q⟩ => exact ⟨V.non, H3, J.os, J.bare, J.base, J.hok, rfl, q⟩
      | .brk, ⟨_, _, _, q⟩ => exact False.elim q
      | .cont, ⟨_, _, _, q⟩ => exact False.elim q
/-- a def of the text, its body without exceptions -/
theorem okG {x qual : Str} {st : Stmt} {dvs : List V} {kws : List (Str × V)} {N : List Str} (F : FunD K x qual (defArgs st) (defBody st) (defScope st) dvs kws f fd) (S : FnScope N ps (defScope st)) (len : ∀ vs H Q E, sp vs H Q E → vs.length = ps.length)
    (hbody : ∀ (cdv : Value) (A : Around), A.guards = some [] → ∀ (outer : List Env) (s : Shared) (H : Hp) (vs : List V) (Q : VK) (E : XK), Room k (A.deeper (envOfC qual (defScope st) s.heap.objs.size f cdv)) → sp vs H Q E →
      ∃ t, PSs (cxOf CX0 P w K mg base N qual (defScope st) f cdv A outer s H E).nox (defBody st) t ∧ t { nx := fun _ H' => Q .non H', rt := Q } (start N vs) H) : FnG P w K mg base CX0 (k + 1) f fd ps sp := by
  obtain ⟨oc, od, dV, kV, doc, pm, an, cdv, ct, osl, rfl, lk, hcd, _, _⟩ := F.ex
  refine fnG_of lk hcd S len fun A hA outer s H vs Q E hr hsp => ?_
  obtain ⟨t, h, q⟩ := hbody cdv A hA outer s H vs Q E hr hsp
  exact ⟨t, h.nox, q⟩
/-- .. that may raise -/
theorem okGX {x qual : Str} {st : Stmt} {dvs : List V} {kws : List (Str × V)} {N : List Str} (F : FunD K x qual (defArgs st) (defBody st) (defScope st) dvs kws f fd) (S : FnScope N ps (defScope st)) (len : ∀ vs H Q E, sp vs H Q E → vs.length = ps.length)
    (hbody : ∀ (cdv : Value) (A : Around), A.guards = some [] → ∀ (outer : List Env) (s : Shared) (H : Hp) (vs : List V) (Q : VK) (E : XK), Room k (A.deeper (envOfC qual (defScope st) s.heap.objs.size f cdv)) → sp vs H Q E →
      ∃ t, PSs (cxOf (L2.CX P w) P w K mg base N qual (defScope st) f cdv A outer s H E) (defBody st) t ∧ t { nx := fun _ H' => Q .non H', rt := Q } (start N vs) H) : FnG P w K mg base (L2.CX P w) (k + 1) f fd ps sp := by
  obtain ⟨oc, od, dV, kV, doc, pm, an, cdv, ct, osl, rfl, lk, hcd, _, _⟩ := F.ex
  exact fnG_of lk hcd S len fun A hA outer s H vs Q E hr hsp => hbody cdv A hA outer s H vs Q E hr hsp
end
/-! ### calls of such -/
section
variable {X : Cx} {CX : CXT} {k n : Nat} {f : Addr} {fd : FuncData} {ps ks : List Str} {sp : Sp} {E : XK} {x : Str} {p pos : Pos} {e : Expr} {es : List Expr} {kws : List Keyword} {t tk : TA} {ds : List Value} {dvs : List V} {g : List Value → List Value → List Value} {gV : List V → List V → List V}
theorem runG {pins : List (Addr × Obj)} {σ : L2.St} {H : Hp} {s : Shared} {Q : VK} {us us2 : List Value} {kv : List (Str × Value)} {vs : List V} (F : FnG X.prog X.w X.K X.mg X.base CX k f fd ps sp) (hG : X.A.guards = some []) (hr : Room k X.A)
    (hb : BindsTo s fd ⟨us, kv⟩ (ps.zip us2)) (hx : Passes CX X E) (I : Inv X pins σ H s) (r : Vals vs us2) (h : sp vs H Q E) : wpAny (model X.prog X.w) X.A (call (.ref f) us kv) (EP X pins σ Q) X.xe s := by
  apply wpAny_call
  refine codeAny_mono (F.run X.A hG X.stack s H ⟨us, kv⟩ us2 vs Q E hr I.env0 hb r h) ?_
  rintro (e | fl) s' hq
  · exact hx pins σ H s e s' I hq
  · cases fl <;> first | exact I.after hq | exact False.elim hq
/-- what a caller holds of a def: all its parameters by place -/
structure Own (P : Program) (w : World) (K : PySem.W.Frag) (mg : Str → Option Value) (base : Heap) (CX : CXT) (k : Nat) (x : Str) (ps : List Str) (dvs : List V) (sp : Sp) : Prop where
  ex : ∃ f fd ds, FnG P w K mg base CX k f fd ps sp ∧ mg x = some (.ref f) ∧ PySem.W.keepIn K (.ref f) = true ∧ Binds K fd ps ds ∧ Vals dvs ds
/-- .. n by place, the names ks by keyword -/
structure OwnK (P : Program) (w : World) (K : PySem.W.Frag) (mg : Str → Option Value) (base : Heap) (CX : CXT) (k : Nat) (x : Str) (ps : List Str) (n : Nat) (ks : List Str) (gV : List V → List V → List V) (sp : Sp) : Prop where
  ex : ∃ f fd g, FnG P w K mg base CX k f fd ps sp ∧ mg x = some (.ref f) ∧ PySem.W.keepIn K (.ref f) = true ∧ KBn K fd ps n ks g gV
theorem Own.mono {P : Program} {w : World} {K : PySem.W.Frag} {mg : Str → Option Value} {base : Heap} {dvs : List V} (O : Own P w K mg base CX k x ps dvs sp) {sp' : Sp} (h : ∀ vs H Q E, sp' vs H Q E → sp vs H Q E) : Own P w K mg base CX k x ps dvs sp' := by
  obtain ⟨f, fd, ds, F, a, b, c, d⟩ := O.ex
  exact ⟨f, fd, ds, ⟨fun vs H Q E z => F.len vs H Q E (h _ _ _ _ z), fun A g o s H args us vs Q E r e bb v z => F.run A g o s H args us vs Q E r e bb v (h _ _ _ _ z)⟩, a, b, c, d⟩
theorem pe_own (O : Own X.prog X.w X.K X.mg X.base CX k x ps dvs sp) (hG : X.A.guards = some []) (hr : Room k X.A) (hx : Passes CX X E) (ha : PA X (e :: es) t) (hg : Gl X x := by rfl)
    (hdb : (x == ("__debug__" : Str)) = false := by decide) (he : starEach (e :: es) X.env = (false, eval e X.env) :: starEach es X.env := by rfl) (hpl : (backTo pos (starEach es X.env)).any (·.1) = false := by rfl) :
    PE X (.Call (.Name x p) (e :: es) [] pos) (tCall sp dvs E t) := by
  obtain ⟨f, fd, ds, F, hm, hk, hb, hd⟩ := O.ex
  refine ⟨fun pins s σ H Q I h => wpAny_Call_Name_kw (ld_glob I hg hm ?_ hdb)⟩
  apply PySem.W.callWith_K (h₀ := X.base) I.ok.mod.kin hk _ he hpl
  refine thn (ha.run pos pins s σ H _ I h) ?_
  rintro us s1 ⟨vs, H1, I1, r, q⟩
  have r2 := r.append hd
  exact ⟨I1.kIn, runG F hG hr (hb s1 us I1.kIn (by rw [← r2.length]; exact F.len _ _ _ _ q)) hx I1 r2 q⟩
theorem pe_own0 (O : Own X.prog X.w X.K X.mg X.base CX k x ps dvs sp) (hG : X.A.guards = some []) (hr : Room k X.A) (hx : Passes CX X E) (hg : Gl X x := by rfl)
    (hdb : (x == ("__debug__" : Str)) = false := by decide) : PE X (.Call (.Name x p) [] [] pos) (tCall sp dvs E tNil) := by
  obtain ⟨f, fd, ds, F, hm, hk, hb, hd⟩ := O.ex
  refine ⟨fun pins s σ H Q I h => wpAny_Call_Name_kw (ld_glob I hg hm ?_ hdb)⟩
  refine PySem.W.callWith_K0 I.kIn hk ?_
  exact runG F hG hr (us := []) (hb s [] I.kIn (by rw [← (Vals.append (.nil : Vals [] []) hd).length]; exact F.len _ _ _ _ h)) hx I (Vals.append (.nil : Vals [] []) hd) h
theorem pe_ownK (O : OwnK X.prog X.w X.K X.mg X.base CX k x ps n ks gV sp) (hG : X.A.guards = some []) (hr : Room k X.A) (hx : Passes CX X E) (ha : PA X (e :: es) t) (hkw : PK X kws tk) (hg : Gl X x := by rfl)
    (hall : (backToKw pos (keywordEach kws X.env)).all (·.1.isSome) = true := by rfl) (hks : (backToKw pos (keywordEach kws X.env)).filterMap (·.1) = ks := by rfl)
    (hdb : (x == ("__debug__" : Str)) = false := by decide) (he : starEach (e :: es) X.env = (false, eval e X.env) :: starEach es X.env := by rfl)
    (hpl : ((backTo pos (starEach (e :: es) X.env)).any (·.1) || (backToKw pos (keywordEach kws X.env)).any (·.1.isNone)) = false := by rfl) :
    PE X (.Call (.Name x p) (e :: es) kws pos) (tCallN n ks.length sp gV E t tk) := by
  obtain ⟨f, fd, g, F, hm, hk, hb⟩ := O.ex
  refine ⟨fun pins s σ H Q I h => wpAny_Call_Name_kw (ld_glob I hg hm ?_ hdb)⟩
  apply PySem.W.callWith_KW (h₀ := X.base) I.ok.mod.kin hk hall _ hpl he
  refine thn (ha.run pos pins s σ H _ I h) ?_
  rintro us s1 ⟨vs, H1, I1, r, q⟩
  refine thn (hkw.run pos pins s1 σ H1 _ I1 q) ?_
  rintro ws s2 ⟨zs, H2, I2, rz, l1, l2, q2⟩
  rw [hks]
  exact ⟨I2.kIn, runG F hG hr (hb.to s2 us ws I2.kIn (r.length.symm.trans l1) (rz.length.symm.trans l2)) hx I2 (hb.rel r rz) q2⟩
theorem pe_ownK0 (O : OwnK X.prog X.w X.K X.mg X.base CX k x ps 0 ks gV sp) (hG : X.A.guards = some []) (hr : Room k X.A) (hx : Passes CX X E) (hkw : PK X kws tk) (hg : Gl X x := by rfl)
    (hall : (backToKw pos (keywordEach kws X.env)).all (·.1.isSome) = true := by rfl) (hks : (backToKw pos (keywordEach kws X.env)).filterMap (·.1) = ks := by rfl)
    (hdb : (x == ("__debug__" : Str)) = false := by decide)
    (hpl : ((backTo pos (starEach [] X.env)).any (·.1) || (backToKw pos (keywordEach kws X.env)).any (·.1.isNone)) = false := by rfl) :
    PE X (.Call (.Name x p) [] kws pos) (tCallN 0 ks.length sp gV E tNil tk) := by
  obtain ⟨f, fd, g, F, hm, hk, hb⟩ := O.ex
  refine ⟨fun pins s σ H Q I h => wpAny_Call_Name_kw (ld_glob I hg hm ?_ hdb)⟩
  refine PySem.W.callWith_KW0 (h₀ := X.base) I.ok.mod.kin hk hall ?_ hpl
  refine thn (hkw.run pos pins s σ H _ I h) ?_
  rintro ws s2 ⟨zs, H2, I2, rz, l1, l2, q2⟩
  rw [hks]
  exact ⟨I2.kIn, runG F hG hr (us := []) (hb.to s2 [] ws I2.kIn rfl (rz.length.symm.trans l2)) hx I2 (hb.rel (.nil : Vals [] []) rz) q2⟩
end
end Pm

namespace Pm
open PySem PySem.Spec PyProof.Rows L2
/-! ### the law's call, knowing that no repr is under way -/
section
variable {P : Program} {w : World} {K : PySem.W.Frag} {mg mb : Str → Option Value} {k : Nat} {fa a : Addr} {fd : FuncData} {x : Str} {sp : Sp} {s0 : Shared} {vs : List Value} {ns : List Int} {H : Hp}
/-- an abstract heap that tracks nothing but the script leaves a ground to stand on -/
theorem ground_of (inK : K.In s0.heap) (gl : s0.heap.Ns mainGlobals mg) (bl : s0.heap.Ns builtinsNs mb) (bb : ∀ y : Str, y ≠ "__name__" → mb y = bootBuiltins y) (lim : s0.heap.NoLimit)
    (obj : s0.heap.get? a = some { cls := .type "list", data := .seq vs.toArray }) (one : ∀ b u, H b = some u → b = a ∧ K.lookup a = none) : Mod K mg (hidT s0.heap H) := by
  have dictFree : ∀ (b : Addr) (o : Obj) (es : Array DictEntry) (ep : Nat), s0.heap.get? b = some o → o.data = .dict es ep → H b = none := by
    intro b o es ep e d
    rcases hb : H b with _ | u
    · rfl
    · obtain ⟨rfl, _⟩ := one b u hb
      rw [obj] at e
      injection e with e
      subst e
      cases d
  have ns : ∀ {b : Addr} {m : Str → Option Value}, s0.heap.Ns b m → (hidT s0.heap H).Ns b m := by
    rintro b m ⟨o, es, ep, e, d, r⟩
    exact ⟨o, es, ep, hidT_get e (dictFree b o es ep e d), d, r⟩
  refine ⟨fun b o e => hidT_get (inK b o e) ?_, ns gl, ⟨mb, ns bl, bb⟩, ?_⟩
  · rcases hb : H b with _ | u
    · rfl
    · obtain ⟨rfl, z⟩ := one b u hb
      rw [z] at e
      cases e
  · obtain ⟨mc, h1, h2⟩ := lim
    exact ⟨mc, ns h1, h2⟩
theorem lawG_core (inK : K.In s0.heap) (gl : s0.heap.Ns mainGlobals mg) (bl : s0.heap.Ns builtinsNs mb) (bb : ∀ y : Str, y ≠ "__name__" → mb y = bootBuiltins y) (lim : s0.heap.NoLimit) (gens : s0.gens = #[])
    (obj : s0.heap.get? a = some { cls := .type "list", data := .seq vs.toArray }) (room : Room k callerA)
    (F : ∀ base : Heap, K.In base → base.Ns mainGlobals mg → FnG P w K mg base CX0 k fa fd [x] sp) (bind : ∀ (s : Shared) (u : Value), BindsTo s fd ⟨[u], []⟩ [(x, u)])
    (only : Only H) (hok : HOk P w H s0.heap) (one : ∀ b u, H b = some u → b = a ∧ K.lookup a = none) (pre : sp [.ref a] H (fun v _ => v = .bl true) fun _ _ _ => False) :
    codeAny (model P w) callerA (.call (.ref fa) ⟨[.ref a], []⟩) (fun r s' => r = .ok (.ret (.bool true)) ∧ OldK s0.heap s'.heap ∧ s'.os = s0.os ∧ AllBare s'.gens) s0 := by
  have M := ground_of inK gl bl bb lim obj one
  have e0 : Env0 P w K mg (hidT s0.heap H) callerA [] s0 H := { frames := rfl, mod := M, bs := fun b o e => of_hidT e, bsz := Nat.le_of_eq (hidT_size _ _), funs := trivial, frf := (fun b hb => by cases hb), hok := hok, bare := .of_eq gens }
  refine codeAny_mono ((F _ M.kin M.glob).run callerA rfl [] s0 H _ [.ref a] [.ref a] _ _ room e0 (bind s0 _) (.cons rfl .nil) pre) ?_
  rintro (e | fl) s' hq
  · exact False.elim hq
  · cases fl with
    | ret u =>
      obtain ⟨v, H', os, bare, un, hok', rv, hv⟩ := hq
      have hv' : v = .bl true := hv
      subst hv'
      have hu : u = Value.bool true := rv
      subst hu
      refine ⟨rfl, OldK.of_keep fun b o e => ?_, os, bare⟩
      rcases only b with z | ⟨ob, xs, z⟩
      · exact un.keep b o e z (fun q => by cases q) (fun q => by cases q)
      · have e1 := (hok b _ z).1
        have e2 := (hok' b _ (un.frzs b ob _ z)).1
        rw [e] at e1
        injection e1 with e1
        rw [e1]
        exact e2
    | _ => exact False.elim hq
theorem lawG_call (inK : K.In s0.heap) (gl : s0.heap.Ns mainGlobals mg) (bl : s0.heap.Ns builtinsNs mb) (bb : ∀ y : Str, y ≠ "__name__" → mb y = bootBuiltins y) (lim : s0.heap.NoLimit) (gens : s0.gens = #[])
    (obj : s0.heap.get? a = some { cls := .type "list", data := .seq vs.toArray }) (hints : IntsAre vs ns) (short : ns.length ≤ sizeLine) (room : Room k callerA)
    (F : ∀ base : Heap, K.In base → base.Ns mainGlobals mg → FnG P w K mg base CX0 k fa fd [x] sp) (bind : ∀ (s : Shared) (u : Value), BindsTo s fd ⟨[u], []⟩ [(x, u)])
    (pre : ∀ H : Hp, SqL K H a (ns.map V.int) → sp [.ref a] H (fun v _ => v = .bl true) fun _ _ _ => False) :
    codeAny (model P w) callerA (.call (.ref fa) ⟨[.ref a], []⟩) (fun r s' => r = .ok (.ret (.bool true)) ∧ OldK s0.heap s'.heap ∧ s'.os = s0.os ∧ AllBare s'.gens) s0 := by
  have rv : Vals (ns.map V.int) vs := vals_ints hints
  rcases hk : K.lookup a with _ | o
  · let u : HO := .frz { cls := .type "list", data := .seq vs.toArray } (.lst (ns.map V.int))
    have at_ : (fun b => if b = a then some u else none : Hp) a = some u := if_pos rfl
    refine lawG_core (H := fun b => if b = a then some u else none) inK gl bl bb lim gens obj room F bind ?_ ?_ ?_ (pre _ (.inl (.inr ⟨_, at_⟩)))
    · intro b
      by_cases hb : b = a
      · exact .inr ⟨_, _, if_pos hb⟩
      · exact .inl (if_neg hb)
    · intro b u' z
      by_cases hb : b = a
      · subst hb
        rw [at_] at z
        injection z with z
        subst z
        exact ⟨obj, (by rw [List.length_map]; exact short), vs, _, rv, obj⟩
      · have z2 := (if_neg hb).symm.trans z
        cases z2
    · intro b u' z
      by_cases hb : b = a
      · exact ⟨hb, hk⟩
      · have z2 := (if_neg hb).symm.trans z
        cases z2
  · have e := inK a o hk
    rw [obj] at e
    injection e with e
    subst e
    refine lawG_core (H := fun _ => none) inK gl bl bb lim gens obj room F bind (fun _ => .inl rfl) (fun b u z => by cases z) (fun b u z => by cases z) (pre _ (.inr ⟨_, vs.toArray, _, hk, rfl, rfl, rfl, ?_, by simpa using rv⟩))
    rw [List.size_toArray, hints.length]
    exact short
end
/-- the end of a law's row -/
theorem walkG {l : PySem.W.OpenLaw} {n k : Nat} {q : Program} {loose : List Str} {XP : (Str → Option Value) → Heap → Prop} {YP : World → Heap → Prop} {d : DefRec} {K : Params → PySem.W.Frag} {sp : World → Sp} {x : Str}
    (hn : l.most = some n) (hn2 : n ≤ sizeLine) (hdf : d.params.defaults = []) (hr : Room k callerA) (hY : ∀ (w : World) (h : Heap), YP w h → (K w.params).In h)
    (F : ∀ (w : World) (mg : Str → Option Value) (fa : Addr) (h : Heap), (K w.params).In h → h.Ns mainGlobals mg → mg d.name = some (.ref fa) →
      ∃ fd : FuncData, (∀ (s : Shared) (u : Value), BindsTo s fd ⟨[u], []⟩ [(x, u)]) ∧ ∀ base : Heap, (K w.params).In base → base.Ns mainGlobals mg → FnG l.prog w (K w.params) mg base CX0 k fa fd [x] (sp w))
    (hsp : ∀ (w : World) (H : Hp) (a : Addr) (ns : List Int), ns.length ≤ n → (∀ z ∈ ns, Builtin.Int.intBits z ≤ 1048576) → SqL (K w.params) H a (ns.map V.int) → sp w [.ref a] H (fun v _ => v = .bl true) fun _ _ _ => False) :
    PySem.W.WalkO q loose XP YP l.row.toRowW d [] (fun f vs => PySem.call f vs) := by
  apply Att.attach_callB hn hdf
  intro w s₀ s₁ mg mb fa o pm cd doc a vs ns G Y ho hd hcd hmg hobj hints hlen hbits hg
  obtain ⟨fd, hb, hF⟩ := F w mg fa _ (hY w _ Y) G.T.g hmg
  exact lawG_call (hY w _ Y) G.T.g G.T.b G.T.builtins G.T.nolimit hg hobj hints (Nat.le_trans hlen hn2) hr hF hb fun H hS => hsp w H a ns hlen hbits hS
/-! ### repr of data -/
section
variable {X : Cx} {k : Nat}
def rReprD (K : PySem.W.Frag) : List V → Hp → VK → Prop := fun xs H Q => ∃ (a : Addr) (d : PyData), xs = [.ref a] ∧ Dp K H (.ref a) d ∧ d.showable = true ∧ d.hasDict = false ∧ d.depth ≤ 60 ∧ d.shown.length ≤ sizeLine ∧ Q (.str d.shown) H
theorem call_reprD (hG : X.A.guards = some []) (hr : Room k X.A) : CallR X (.builtin "repr") (rReprD X.K) := by
  intro pins s σ H xs us Q I r h
  obtain ⟨a, d, rfl, hd, hs, hn, hdp, hz, q⟩ := h
  obtain ⟨u, rfl, rfl⟩ := vals1 r
  obtain ⟨as, hR⟩ := Dp.reads I d (.ref a) (.ref a) hd rfl
  have hu := hr.un
  exact repr_of_reads' hR hs (fun z => by rw [hn] at z; cases z) hG (by omega) (fun _ _ e => e) (fun h' u tk hk => ⟨.str d.shown, H, I.kept hk, ⟨_, rfl⟩, q⟩) hz
end
end Pm

namespace Pm
open PySem PySem.Spec PyProof.Rows L2
/-! ### operators, whatever stands there -/
section
variable {X : Cx} {k : Nat}
def rAddU (K : PySem.W.Frag) : R2 := fun x y H Q => (∃ i j, x = .int i ∧ y = .int j ∧ Q (.int (i + j)) H) ∨ (∃ i j, x = .str i ∧ y = .str j ∧ i.length + j.length ≤ sizeLine ∧ Q (.str (i ++ j)) H) ∨ rCat x y H Q ∨ rCatT K x y H Q
theorem op_addU : OpR X (binaryOp .Add) (rAddU X.K) := op_add.or (op_add_str.or (op_cat.or op_catT))
theorem op_fdivV : OpR X (binaryOp .FloorDiv) (rI (fun _ j => j ≠ 0 ∧ j.natAbs.log2 < 9000) fun i j => .int (i.fdiv j)) := opI fun _ _ _ _ _ _ _ hc q => floordiv_int hc.1 q (.inl (PyProof.noPylong_of_log2 hc.2))
def rMulU : R2 := fun x y H Q => (∃ i j, x = .int i ∧ y = .int j ∧ CMulW i j ∧ Q (.int (i * j)) H) ∨ rRep x y H Q
theorem op_mulU : OpR X (binaryOp .Mult) rMulU := op_mulW.or op_rep
def rEqU (K : PySem.W.Frag) : R2 := fun x y H Q => rEq x y H Q ∨ rEqD K x y H Q
def rNeU (K : PySem.W.Frag) : R2 := fun x y H Q => rNe x y H Q ∨ rNeD K x y H Q
theorem op_eqU (hr : Room k X.A) : OpR X (compareOp .Eq) (rEqU X.K) := op_eq.or (op_eqD (by have := hr.un; omega))
theorem op_neU (hr : Room k X.A) : OpR X (compareOp .NotEq) (rNeU X.K) := op_ne.or (op_neD (by have := hr.un; omega))
end
/-! ### frames: what a step leaves as it was -/
/-- all but the lists at m and n -/
structure Fx (m n : Addr) (H H' : Hp) : Prop where
  oth : ∀ b o, H b = some o → b ≠ m → b ≠ n → H' b = some o
  tup : ∀ b xs, H b = some (.tup xs) → H' b = some (.tup xs)
def New (H : Hp) (p : Addr) : Prop := H p = none
section
variable {K : PySem.W.Frag} {H H' H1 H2 : Hp} {m n p q : Addr} {xs : List V} {o : HO}
theorem Fx.same (e : Same H H') : Fx m n H H' := ⟨fun b o h _ _ => e b o h, fun b xs h => e b _ h⟩
theorem Fx.trans (a : Fx m n H H1) (b : Fx m n H1 H2) : Fx m n H H2 := ⟨fun c o h h1 h2 => b.oth c o (a.oth c o h h1 h2) h1 h2, fun c xs h => b.tup c xs (a.tup c xs h)⟩
theorem same_new (h : H p = none) : Same H (upd H p o) := fun b u e => by rw [upd_ne (ne_of_none e h)]; exact e
theorem fx_upd (h : H m = some (.lst xs)) : Fx m n H (upd H m o) := ⟨fun b u e hm _ => by rw [upd_ne hm]; exact e, fun b ys e => by rw [upd_ne (ne_of e h (fun z => nomatch z))]; exact e⟩
theorem fx_upd2 (h : H n = some (.lst xs)) : Fx m n H (upd H n o) := ⟨fun b u e _ hn => by rw [upd_ne hn]; exact e, fun b ys e => by rw [upd_ne (ne_of e h (fun z => nomatch z))]; exact e⟩
/-- back by a frame -/
theorem b_get (e : Same H H') (h : H p = some o) : H' p = some o := e p o h
theorem b_tup (e : Fx m n H H') (h : H p = some (.tup xs)) : H' p = some (.tup xs) := e.tup p xs h
theorem b_lst (e : Fx m n H H') (h1 : p ≠ m) (h2 : p ≠ n) (h : H p = some o) : H' p = some o := e.oth p o h h1 h2
theorem b_T (e : Same H H') (h : SqT K H p xs) : SqT K H' p xs := by
  rcases h with (h | ⟨o, h⟩) | h
  · exact .inl (.inl (e _ _ h))
  · exact .inl (.inr ⟨o, e _ _ h⟩)
  · exact .inr h
theorem b_L (e : Same H H') (h : SqL K H p xs) : SqL K H' p xs := e.seq h
theorem new_ne (h : New H p) (h2 : H q = some o) : p ≠ q := fun e => by subst e; exact absurd (h.symm.trans h2) (fun z => nomatch z)
theorem new_ne' (h : New H p) (h2 : H q = some o) : q ≠ p := fun e => new_ne h h2 e.symm
end
/-- a tuple for ever: tracked as such, or of the module -/
def Tp (K : PySem.W.Frag) (H : Hp) (a : Addr) (xs : List V) : Prop := H a = some (.tup xs) ∨ ∃ (o : Obj) (its : Array Value) (n : Nat), K.lookup a = some o ∧ o.cls = .type "tuple" ∧ o.data = .seq its n ∧ its.size ≤ sizeLine ∧ Vals xs its.toList
section
variable {K : PySem.W.Frag} {H H' H1 H2 : Hp} {m n p q : Addr} {xs ys : List V} {o : HO}
theorem Tp.sq (h : Tp K H p xs) : SqT K H p xs := h.elim (fun h => .inl (.inl h)) .inr
theorem Tp.mono (e : Same H H') (h : Tp K H p xs) : Tp K H' p xs := h.elim (fun h => .inl (e _ _ h)) .inr
theorem Tp.fx (e : Fx m n H H') (h : Tp K H p xs) : Tp K H' p xs := h.elim (fun h => .inl (e.tup _ _ h)) .inr
theorem Tp.of (h : H p = some (.tup xs)) : Tp K H p xs := .inl h
end
/-! ### one step of a reading -/
section
variable {K : PySem.W.Frag} {σ : L2.St} {H : Hp} {Q : VK} {QB : Bool → Hp → Prop} {QA : List V → Hp → Prop} {ta tb te : TE} {t u : TT} {ts us : TS} {D : Ends} {i : Nat} {v x y : V} {r : R2} {g : TG} {tA tR : TA}
theorem i_seq (h : ts { D with nx := us D } σ H) : tSeq ts us D σ H := h
theorem i_next (h : D.nx σ H) : tNext D σ H := h
theorem i_asg (h : te σ H fun x H1 => g x σ H1 D.nx) : tAsg te g D σ H := h
theorem i_name {N : L2.St → Hp → Prop} (h : N (σ.set i (some v)) H) : gName i v σ H N := h
theorem i_drop (h : te σ H fun _ H1 => D.nx σ H1) : tDrop te D σ H := h
theorem i_ret (h : te σ H D.rt) : tRet te D σ H := h
theorem i_retN (h : D.rt .non H) : tRetN D σ H := h
theorem i_brk (h : D.bk σ H) : tBreak D σ H := h
theorem i_ctn (h : D.ct σ H) : tCont D σ H := h
theorem i_ifS (h : t σ H fun b H1 => if b = true then ts D σ H1 else us D σ H1) : tIfS t ts us D σ H := h
theorem i_par {i j : Nat} (h : tA σ H fun vs H1 => ∃ v w, vs = [v, w] ∧ D.nx ((σ.set i (some v)).set j (some w)) H1) : tPar i j tA D σ H := h
theorem i_par2 {i j : Nat} {a b : V} {N : L2.St → Hp → Prop} (h : N ((σ.set i (some a)).set j (some b)) H) : ∃ v w, [a, b] = [v, w] ∧ N ((σ.set i (some v)).set j (some w)) H := ⟨a, b, rfl, h⟩
theorem i_var (e : σ[i]? = some (some v)) (h : Q v H) : tVar i σ H Q := ⟨v, e, h⟩
theorem i_c (h : Q v H) : tC v σ H Q := h
theorem i_op (h : ta σ H fun x H1 => tb σ H1 fun y H2 => r x y H2 Q) : tOp r ta tb σ H Q := h
theorem i_un {r : V → Hp → VK → Prop} (h : ta σ H fun x H1 => r x H1 Q) : tUn r ta σ H Q := h
theorem i_test (h : te σ H fun x H1 => ∃ k, x = .bl k ∧ QB k H1) : tTest te σ H QB := h
theorem i_tB (h : te σ H fun x H1 => ∃ k, x = .bl k ∧ QB k H1) : tB te σ H QB := h
theorem i_bl {b : Bool} (h : QB b H) : ∃ k, V.bl b = .bl k ∧ QB k H := ⟨b, rfl, h⟩
theorem i_and (h : t σ H fun c H1 => if c = true then u σ H1 QB else QB false H1) : tAnd t u σ H QB := h
theorem i_or (h : t σ H fun c H1 => if c = true then QB true H1 else u σ H1 QB) : tOr t u σ H QB := h
theorem i_not (h : t σ H fun c H1 => QB (!c) H1) : tNot t σ H QB := h
theorem i_andV (h : ta σ H fun x H1 => ∃ c, x = .bl c ∧ if c = true then tb σ H1 Q else Q (.bl false) H1) : tAndV ta tb σ H Q := h
theorem i_orV (h : ta σ H fun x H1 => ∃ c, x = .bl c ∧ if c = true then Q (.bl true) H1 else tb σ H1 Q) : tOrV ta tb σ H Q := h
theorem i_notV (h : ta σ H fun x H1 => ∃ c, x = .bl c ∧ Q (.bl (!c)) H1) : tNotV ta σ H Q := h
theorem i_notV2 {b : Bool} (h : Q (.bl (!b)) H) : ∃ c, V.bl b = .bl c ∧ Q (.bl (!c)) H := ⟨b, rfl, h⟩
theorem i_bif {b : Bool} {A B : Bool → Prop} (h : if b = true then A b else B b) : ∃ c, V.bl b = .bl c ∧ if c = true then A c else B c := ⟨b, rfl, h⟩
theorem i_ifE (h : t σ H fun c H1 => if c = true then ta σ H1 Q else tb σ H1 Q) : tIf t ta tb σ H Q := h
theorem i_nil (h : QA [] H) : tNil σ H QA := h
theorem i_cons (h : ta σ H fun x H1 => tR σ H1 fun xs H2 => QA (x :: xs) H2) : tCons ta tR σ H QA := h
theorem i_call {sp : Sp} {dvs : List V} {E : XK} (h : tA σ H fun vs H1 => sp (vs ++ dvs) H1 Q E) : tCall sp dvs E tA σ H Q := h
theorem i_callN {sp : Sp} {n m : Nat} {gV : List V → List V → List V} {E : XK} {tk : TA} (h : tA σ H fun vs H1 => tk σ H1 fun zs H2 => vs.length = n ∧ zs.length = m ∧ sp (gV vs zs) H2 Q E) : tCallN n m sp gV E tA tk σ H Q := h
theorem i_cb {r : List V → Hp → VK → Prop} (h : tA σ H fun vs H1 => r vs H1 Q) : tCB r tA σ H Q := h
/-- a new tuple, a new list -/
def NewT (xs : List V) (H : Hp) (Q : VK) : Prop := xs.length ≤ sizeLine ∧ ∀ p, H p = none → Q (.ref p) (upd H p (.tup xs))
def NewL (xs : List V) (H : Hp) (Q : VK) : Prop := xs.length ≤ sizeLine ∧ ∀ p, H p = none → Q (.ref p) (upd H p (.lst xs))
theorem i_tup (h : tA σ H fun xs H1 => NewT xs H1 Q) : tTup tA σ H Q := h
theorem i_lst (h : tA σ H fun xs H1 => NewL xs H1 Q) : tLst tA σ H Q := h
theorem i_newT {xs : List V} (hl : xs.length ≤ 100000) (h : ∀ p H', New H p → Same H H' → H' p = some (.tup xs) → Q (.ref p) H') : NewT xs H Q :=
  ⟨Nat.le_trans hl (by decide), fun p hp => h p _ hp (same_new hp) upd_same⟩
theorem i_newL {xs : List V} (hl : xs.length ≤ 100000) (h : ∀ p H', New H p → Same H H' → H' p = some (.lst xs) → Q (.ref p) H') : NewL xs H Q :=
  ⟨Nat.le_trans hl (by decide), fun p hp => h p _ hp (same_new hp) upd_same⟩
theorem i_new {o : HO} (h : ∀ p H', New H p → Same H H' → H' p = some o → Q (.ref p) H') : ∀ p, H p = none → Q (.ref p) (upd H p o) := fun p hp => h p _ hp (same_new hp) upd_same
/-! values -/
theorem i_addI {a b : Int} (h : Q (.int (a + b)) H) : rAddU K (.int a) (.int b) H Q := .inl ⟨a, b, rfl, rfl, h⟩
theorem i_addL {p q : Addr} {xs ys : List V} (h1 : H p = some (.lst xs)) (h2 : H q = some (.lst ys)) (hl : xs.length + ys.length ≤ 100000) (h : ∀ a H', New H a → Same H H' → H' a = some (.lst (xs ++ ys)) → Q (.ref a) H') : rAddU K (.ref p) (.ref q) H Q :=
  .inr (.inr (.inl ⟨p, q, xs, ys, rfl, rfl, h1, h2, Nat.le_trans hl (by decide), i_new h⟩))
theorem i_I {C : Int → Int → Prop} {f : Int → Int → V} {a b : Int} (hc : C a b) (h : Q (f a b) H) : rI C f (.int a) (.int b) H Q := ⟨a, b, rfl, rfl, hc, h⟩
theorem i_I0 {f : Int → Int → V} {a b : Int} (h : Q (f a b) H) : rI0 f (.int a) (.int b) H Q := ⟨a, b, rfl, rfl, h⟩
theorem i_U {f : Int → V} {a : Int} (h : Q (f a) H) : rU f (.int a) H Q := ⟨a, rfl, h⟩
theorem i_mulI {a b : Int} (hc : CMulW a b) (h : Q (.int (a * b)) H) : rMulU (.int a) (.int b) H Q := .inl ⟨a, b, rfl, rfl, hc, h⟩
theorem i_eqI {a b : Int} (h : Q (.bl (decide (a = b))) H) : rEqU K (.int a) (.int b) H Q := .inl ⟨rfl, by rw [dec_int, ← Bool.beq_eq_decide_eq] at *; exact h⟩
theorem i_neI {a b : Int} (h : Q (.bl (!decide (a = b))) H) : rNeU K (.int a) (.int b) H Q := .inl ⟨rfl, by rw [dec_int, ← Bool.beq_eq_decide_eq] at *; exact h⟩
theorem i_eqD {x y : V} {d e : PyData} (h1 : Dp K H x d) (h2 : Dp K H y e) (s1 : SeqAt.shaped d = true) (s2 : SeqAt.shaped e = true) (h : Q (.bl (PyData.eqv d e)) H) : rEqU K x y H Q := .inr ⟨d, e, h1, h2, s1, s2, h⟩
theorem i_neD {x y : V} {d e : PyData} (h1 : Dp K H x d) (h2 : Dp K H y e) (s1 : SeqAt.shaped d = true) (s2 : SeqAt.shaped e = true) (h : Q (.bl (!PyData.eqv d e)) H) : rNeU K x y H Q := .inr ⟨d, e, h1, h2, s1, s2, h⟩
theorem i_ixT {p : Addr} {xs : List V} {j : Int} (h1 : Tp K H p xs) (e : atI xs j = some v) (h : Q v H) : rIx K (.ref p) (.int j) H Q := .inr (.inl ⟨p, xs, j, v, rfl, rfl, h1.sq, e, h⟩)
theorem i_ixL {p : Addr} {xs : List V} {j : Int} (h1 : SqL K H p xs) (e : atI xs j = some v) (h : Q v H) : rIx K (.ref p) (.int j) H Q := .inl ⟨p, xs, j, v, rfl, rfl, h1, e, h⟩
theorem ite_d {c : Prop} {inst : Decidable c} {A B : Prop} (h1 : c → A) (h2 : ¬ c → B) : if decide c = true then A else B := by
  by_cases h : c
  · rw [if_pos (decide_eq_true h)]; exact h1 h
  · rw [if_neg (by rw [decide_eq_false h]; decide)]; exact h2 h
theorem ite_n {c : Prop} {inst : Decidable c} {A B : Prop} (h1 : ¬ c → A) (h2 : c → B) : if (!decide c) = true then A else B := by
  by_cases h : c
  · rw [if_neg (by rw [decide_eq_true h]; decide)]; exact h2 h
  · rw [if_pos (by rw [decide_eq_false h]; rfl)]; exact h1 h
theorem ite_b {c : Bool} {A B : Prop} (h1 : c = true → A) (h2 : c = false → B) : if c = true then A else B := by
  cases c with
  | true => exact (if_pos rfl).mpr (h1 rfl)
  | false => exact (if_neg Bool.false_ne_true).mpr (h2 rfl)
end
end Pm

namespace Pm
open PySem PySem.Spec PyProof.Rows L2
theorem bt_abs : bootBuiltins "abs" = some (.builtin "abs") := by decide +kernel
theorem bt_len : bootBuiltins "len" = some (.builtin "len") := by decide +kernel
theorem bt_min : bootBuiltins "min" = some (.builtin "min") := by decide +kernel
theorem bt_max : bootBuiltins "max" = some (.builtin "max") := by decide +kernel
theorem bt_repr : bootBuiltins "repr" = some (.builtin "repr") := by decide +kernel
theorem bt_isinstance : bootBuiltins "isinstance" = some (.builtin "isinstance") := by decide +kernel
theorem bt_all : bootBuiltins "all" = some (.builtin "all") := by decide +kernel
theorem bt_any : bootBuiltins "any" = some (.builtin "any") := by decide +kernel
theorem bt_sum : bootBuiltins "sum" = some (.builtin "sum") := by decide +kernel
theorem bt_str : bootBuiltins "str" = some (.type "str") := by decide +kernel
theorem bt_tuple : bootBuiltins "tuple" = some (.type "tuple") := by decide +kernel
theorem bt_list : bootBuiltins "list" = some (.type "list") := by decide +kernel
theorem bt_int : bootBuiltins "int" = some (.type "int") := by decide +kernel
theorem bt_bool : bootBuiltins "bool" = some (.type "bool") := by decide +kernel
theorem bt_sorted : bootBuiltins "sorted" = some (.builtin "sorted") := by decide +kernel
/-! ### built-ins by named readings -/
section
variable {X : Cx}
theorem CallR.imp {f : Value} {r r' : List V → Hp → VK → Prop} (h : CallR X f r) (i : ∀ xs H Q, r' xs H Q → r xs H Q) : CallR X f r' := fun pins s σ H xs us Q I rr hh => h pins s σ H xs us Q I rr (i _ _ _ hh)
def rAbs : List V → Hp → VK → Prop := fun xs H Q => ∃ i : Int, xs = [.int i] ∧ Q (.int i.natAbs) H
theorem call_absU : CallR X (.builtin "abs") rAbs := CallR.imp call_abs fun xs H Q ⟨i, e, q⟩ => ⟨i, e, by
  have z : (if i < 0 then -i else i) = (i.natAbs : Int) := by split <;> omega
  rw [z]; exact q⟩
def rMin2 : List V → Hp → VK → Prop := fun xs H Q => ∃ i j : Int, xs = [.int i, .int j] ∧ Q (.int (min i j)) H
theorem call_minU (hc : X.calm = true) : CallR X (.builtin "min") rMin2 := CallR.imp (call_min2 hc) fun xs H Q ⟨i, j, e, q⟩ => ⟨i, j, e, by
  have z : (if j < i then j else i) = min i j := by split <;> omega
  rw [z]; exact q⟩
def rMax2 : List V → Hp → VK → Prop := fun xs H Q => ∃ i j : Int, xs = [.int i, .int j] ∧ Q (.int (max i j)) H
theorem call_maxU (hc : X.calm = true) : CallR X (.builtin "max") rMax2 := CallR.imp (call_max2 hc) fun xs H Q ⟨i, j, e, q⟩ => ⟨i, j, e, by
  have z : (if j > i then j else i) = max i j := by split <;> omega
  rw [z]; exact q⟩
def rLenU (K : PySem.W.Frag) : List V → Hp → VK → Prop := fun xs H Q => ∃ p ys, xs = [.ref p] ∧ (SqL K H p ys ∨ SqT K H p ys) ∧ Q (.int ys.length) H
theorem call_lenU : CallR X (.builtin "len") (rLenU X.K) := call_len_seq
def rLenStr : List V → Hp → VK → Prop := fun xs H Q => ∃ z : Str, xs = [.str z] ∧ z.length ≤ sizeLine ∧ Q (.int z.length) H
theorem call_lenStr : CallR X (.builtin "len") rLenStr := call_len_str
def rStrI : List V → Hp → VK → Prop := fun xs H Q => ∃ i : Int, xs = [.int i] ∧ i.natAbs.log2 < 1920 ∧ Q (.str (toString i)) H
theorem call_strI : CallR X (.type "str") rStrI := call_str_int
def rTupL (K : PySem.W.Frag) : List V → Hp → VK → Prop := fun xs H Q => ∃ p ys, xs = [.ref p] ∧ SqL K H p ys ∧ ∀ l, H l = none → Q (.ref l) (upd H l (.tup ys))
theorem call_tupL : CallR X (.type "tuple") (rTupL X.K) := CallR.imp call_tuple_of fun xs H Q ⟨p, ys, e, h, q⟩ => ⟨p, ys, e, .inl ⟨h, q⟩⟩
end
section
variable {K : PySem.W.Frag} {σ : L2.St} {H : Hp} {Q : VK} {te : TE} {t : TT} {ts : TS} {D : Ends} {v x y : V} {g : TG} {tA : TA}
theorem i_abs {a : Int} (h : Q (.int a.natAbs) H) : rAbs [.int a] H Q := ⟨a, rfl, h⟩
theorem i_min {a b : Int} (h : Q (.int (min a b)) H) : rMin2 [.int a, .int b] H Q := ⟨a, b, rfl, h⟩
theorem i_max {a b : Int} (h : Q (.int (max a b)) H) : rMax2 [.int a, .int b] H Q := ⟨a, b, rfl, h⟩
theorem i_lenT {p : Addr} {xs : List V} (h1 : Tp K H p xs) (h : Q (.int xs.length) H) : rLenU K [.ref p] H Q := ⟨p, xs, rfl, .inr h1.sq, h⟩
theorem i_lenL {p : Addr} {xs : List V} (h1 : SqL K H p xs) (h : Q (.int xs.length) H) : rLenU K [.ref p] H Q := ⟨p, xs, rfl, .inl h1, h⟩
theorem i_lenS {z : Str} (h1 : z.length ≤ 100000) (h : Q (.int z.length) H) : rLenStr [.str z] H Q := ⟨z, rfl, Nat.le_trans h1 (by decide), h⟩
theorem i_strI {a : Int} (h1 : a.natAbs.log2 < 1920) (h : Q (.str (toString a)) H) : rStrI [.int a] H Q := ⟨a, rfl, h1, h⟩
theorem i_tupL {p : Addr} {xs : List V} (h1 : SqL K H p xs) (h : ∀ a H', New H a → Same H H' → H' a = some (.tup xs) → Q (.ref a) H') : rTupL K [.ref p] H Q := ⟨p, xs, rfl, h1, i_new h⟩
theorem i_reprD {p : Addr} {d : PyData} (h1 : Dp K H (.ref p) d) (h2 : d.showable = true) (h3 : d.hasDict = false) (h4 : d.depth ≤ 60) (h5 : d.shown.length ≤ sizeLine) (h : Q (.str d.shown) H) : rReprD K [.ref p] H Q := ⟨p, d, rfl, h1, h2, h3, h4, h5, h⟩
/-! loops -/
/-- one more turn of a while -/
def WB (m : Nat) (I : Nat → L2.St → Hp → Prop) (ts : TS) (D : Ends) (σ : L2.St) (H1 : Hp) : Prop := ∃ N : L2.St → Hp → Prop, (∀ σ' H', N σ' H' → ∃ m', m' < m ∧ I m' σ' H') ∧ ts { D with nx := N, ct := N, bk := D.nx } σ H1
theorem i_wb {m : Nat} {I : Nat → L2.St → Hp → Prop} (h : ts { D with nx := fun σ' H' => ∃ m', m' < m ∧ I m' σ' H', ct := fun σ' H' => ∃ m', m' < m ∧ I m' σ' H', bk := D.nx } σ H) : WB m I ts D σ H := ⟨_, fun _ _ z => z, h⟩
theorem i_while (I : Nat → L2.St → Hp → Prop) (m : Nat) (h0 : I m σ H) (hs : ∀ m σ H, I m σ H → t σ H fun b H1 => if b = true then WB m I ts D σ H1 else D.nx σ H1) : tWhile t ts D σ H := ⟨I, ⟨m, h0⟩, hs⟩
/-- what a for asks once what it walks is known -/
def ForI (J : It) (g : TG) (ts : TS) (D : Ends) (σ : L2.St) (H : Hp) : Prop := ∃ W : Nat → Nat → L2.St → Hp → Prop, (∃ m, W 0 m σ H) ∧ ∀ i m σ H, W i m σ H →
  (J.stop i H ∧ D.nx σ H) ∨ (J.go i H ∧ ∃ N : L2.St → Hp → Prop, (∀ σ' H', N σ' H' → ∃ m', m' < m ∧ W (i + 1) m' σ' H') ∧ ∀ x H', J.yld i H x H' → g x σ H' fun σ2 H2 => ts { D with nx := N, ct := N, bk := D.nx } σ2 H2)
theorem i_for {wi : TI} (h : wi σ H fun J H1 => ForI J g ts D σ H1) : tFor wi g ts D σ H := h
theorem i_iR1 {R : It → Hp → Prop} (h : tA σ H fun vs H1 => ∃ j : Int, vs = [.int j] ∧ -(2 ^ 62) ≤ j ∧ j < 2 ^ 62 ∧ R (Itr 0 j.toNat) H1) : iRng1 tA σ H R := h
theorem i_rng1 {R : Int → Prop} {n : Int} (h1 : -1000000000 ≤ n) (h2 : n ≤ 1000000000) (h : R n) : ∃ j : Int, [V.int n] = [.int j] ∧ -(2 ^ 62) ≤ j ∧ j < 2 ^ 62 ∧ R j := ⟨n, rfl, by omega, by omega, h⟩
theorem i_iR2 {R : It → Hp → Prop} (h : tA σ H fun vs H1 => ∃ i j : Int, vs = [.int i, .int j] ∧ (-(2 ^ 62) ≤ i ∧ i < 2 ^ 62 ∧ -(2 ^ 62) ≤ j ∧ j < 2 ^ 62) ∧ R (Itr i (j - i).toNat) H1) : iRng2 tA σ H R := h
theorem i_rng2 {R : Int → Int → Prop} {m n : Int} (h0 : -1000000000 ≤ m) (h0' : m ≤ 1000000000) (h1 : -1000000000 ≤ n) (h2 : n ≤ 1000000000) (h : R m n) : ∃ i j : Int, [V.int m, V.int n] = [.int i, .int j] ∧ (-(2 ^ 62) ≤ i ∧ i < 2 ^ 62 ∧ -(2 ^ 62) ≤ j ∧ j < 2 ^ 62) ∧ R i j := ⟨m, n, rfl, by omega, h⟩
theorem i_forR {lo : Int} {n : Nat} (I : Nat → L2.St → Hp → Prop) (h0 : I 0 σ H)
    (hs : ∀ (i : Nat) σ' H', i < n → I i σ' H' → g (.int (lo + i)) σ' H' fun σ2 H2 => ts { D with nx := I (i + 1), ct := I (i + 1), bk := D.nx } σ2 H2) (hd : ∀ σ' H', I n σ' H' → D.nx σ' H') : ForI (Itr lo n) g ts D σ H := for_range I h0 hs hd
theorem i_iL {R : It → Hp → Prop} {tl : TE} (h : tl σ H fun x H1 => ∃ a, x = .ref a ∧ (∃ xs, SqL K H1 a xs) ∧ R (Itl K a) H1) : iList K tl σ H R := h
theorem i_itL {R : Addr → Prop} {a : Addr} {xs : List V} (h1 : SqL K H a xs) (h : R a) : ∃ b, V.ref a = .ref b ∧ (∃ xs, SqL K H b xs) ∧ R b := ⟨a, rfl, ⟨xs, h1⟩, h⟩
theorem i_forL {a : Addr} {xs : List V} (I : Nat → L2.St → Hp → Prop) (h0 : I 0 σ H) (hl : ∀ i σ H, i ≤ xs.length → I i σ H → SqL K H a xs)
    (hs : ∀ i x σ' H', xs[i]? = some x → I i σ' H' → g x σ' H' fun σ2 H2 => ts { D with nx := I (i + 1), ct := I (i + 1), bk := D.nx } σ2 H2) (hd : ∀ σ' H', I xs.length σ' H' → D.nx σ' H') : ForI (Itl K a) g ts D σ H := for_list I h0 hl hs hd
theorem i_iT {R : It → Hp → Prop} {tl : TE} (h : tl σ H fun x H1 => ∃ a, x = .ref a ∧ (∃ xs, SqT K H1 a xs) ∧ R (Itt K a) H1) : iTup K tl σ H R := h
theorem i_itT {R : Addr → Prop} {a : Addr} {xs : List V} (h1 : Tp K H a xs) (h : R a) : ∃ b, V.ref a = .ref b ∧ (∃ xs, SqT K H b xs) ∧ R b := ⟨a, rfl, ⟨xs, h1.sq⟩, h⟩
theorem i_forT {a : Addr} {xs : List V} (I : Nat → L2.St → Hp → Prop) (h0 : I 0 σ H) (hl : ∀ i σ H, i ≤ xs.length → I i σ H → Tp K H a xs)
    (hs : ∀ i x σ' H', xs[i]? = some x → I i σ' H' → g x σ' H' fun σ2 H2 => ts { D with nx := I (i + 1), ct := I (i + 1), bk := D.nx } σ2 H2) (hd : ∀ σ' H', I xs.length σ' H' → D.nx σ' H') : ForI (Itt K a) g ts D σ H := for_tup I h0 (fun i σ H a b => (hl i σ H a b).sq) hs hd
end
end Pm

/-! Plain mathematics of parts: Rat of core. -/
namespace Pm
theorem gcd_turn (x y : Int) (hy : 0 < y) : Int.gcd y (x.fmod y) = Int.gcd x y := by
  rw [Int.fmod_eq_emod_of_nonneg x (by omega), Int.gcd_comm y (x % y)]
  conv => rhs; rw [← Int.emod_add_mul_ediv x y]
  rw [Int.gcd_add_mul_left_left]
theorem gcd_turn' (x y : Int) (hy : 0 < y) : Int.gcd y (x % y) = Int.gcd x y := by
  rw [← gcd_turn x y hy, Int.fmod_eq_emod_of_nonneg x (by omega)]
theorem gcd_abs (a b : Int) : Int.gcd (a.natAbs : Int) (b.natAbs : Int) = Int.gcd a b := by
  simp [Int.gcd]
theorem gcd_pos {a b : Int} (h : b ≠ 0) : 0 < Int.gcd a b := Int.gcd_pos_of_ne_zero_right a h
theorem fdiv_gcd_pos (a g : Int) (hg : 0 < g) : a.fdiv g = a / g := Int.fdiv_eq_ediv_of_nonneg a (by omega)
theorem fdiv_neg_dvd (a g : Int) (hg : 0 < g) (h : g ∣ a) : a.fdiv (0 - g) = (-a) / g := by
  obtain ⟨c, rfl⟩ := h
  have e : g * c = (0 - g) * (-c) := by rw [Int.zero_sub, Int.neg_mul_neg]
  have e2 : -(g * c) = g * (-c) := by rw [Int.mul_neg]
  rw [e2, Int.mul_ediv_cancel_left _ (by omega), e, Int.mul_fdiv_cancel_left _ (by omega)]
theorem num_pos {a b : Int} (h : 0 < b) : (Rat.divInt a b).num = a.fdiv (Int.gcd a b) := by
  rw [Rat.num_divInt, Int.sign_eq_one_of_pos h, Int.one_mul, Int.gcd_comm, fdiv_gcd_pos]
  exact_mod_cast gcd_pos (by omega)
theorem den_pos {a b : Int} (h : 0 < b) : ((Rat.divInt a b).den : Int) = b.fdiv (Int.gcd a b) := by
  have hg := gcd_pos (a := a) (b := b) (by omega)
  rw [Rat.den_divInt, if_neg (by omega), Int.gcd_comm b a, fdiv_gcd_pos _ _ (by exact_mod_cast hg), Int.natCast_ediv]
  congr 1
  omega
theorem num_neg {a b : Int} (h : b < 0) : (Rat.divInt a b).num = a.fdiv (0 - (Int.gcd a b : Int)) := by
  have hg := gcd_pos (a := a) (b := b) (by omega)
  rw [Rat.num_divInt, Int.sign_eq_neg_one_of_neg h, fdiv_neg_dvd _ _ (by exact_mod_cast hg) (Int.gcd_dvd_left a b), Int.gcd_comm]
  congr 1
  omega
theorem den_neg {a b : Int} (h : b < 0) : ((Rat.divInt a b).den : Int) = b.fdiv (0 - (Int.gcd a b : Int)) := by
  have hg := gcd_pos (a := a) (b := b) (by omega)
  rw [Rat.den_divInt, if_neg (by omega), fdiv_neg_dvd _ _ (by exact_mod_cast hg) (Int.gcd_dvd_right a b), Int.gcd_comm b a, Int.natCast_ediv]
  congr 1
  omega
theorem num_law {a b : Int} (h : b ≠ 0) : (Rat.divInt a b).num = ((if 0 < b then 1 else -1) * a).fdiv (Int.gcd a b) := by
  have hg := gcd_pos (a := a) (b := b) h
  rw [Rat.num_divInt, Int.gcd_comm b a, fdiv_gcd_pos _ _ (by exact_mod_cast hg)]
  by_cases hb : 0 < b
  · rw [if_pos hb, Int.sign_eq_one_of_pos hb]
  · rw [if_neg hb, Int.sign_eq_neg_one_of_neg (by omega)]
theorem den_law {a b : Int} (h : b ≠ 0) : ((Rat.divInt a b).den : Int) = (b.natAbs : Int).fdiv (Int.gcd a b) := by
  have hg := gcd_pos (a := a) (b := b) h
  rw [Rat.den_divInt, if_neg h, Int.gcd_comm b a, fdiv_gcd_pos _ _ (by exact_mod_cast hg), Int.natCast_ediv]
/-! sizes -/
/-- top and bottom of at most n bits -/
def Bd (n : Nat) (q : Rat) : Prop := q.num.natAbs < 2 ^ n ∧ q.den < 2 ^ n
theorem Bd.mono {n m : Nat} {q : Rat} (h : Bd n q) (e : n ≤ m) : Bd m q := ⟨Nat.lt_of_lt_of_le h.1 (Nat.pow_le_pow_right (by decide) e), Nat.lt_of_lt_of_le h.2 (Nat.pow_le_pow_right (by decide) e)⟩
theorem num_le {a b : Int} (h : b ≠ 0) : (Rat.divInt a b).num.natAbs ≤ a.natAbs := by
  rw [num_law h]
  have hg := gcd_pos (a := a) (b := b) h
  rw [fdiv_gcd_pos _ _ (by exact_mod_cast hg)]
  have z : ((if 0 < b then 1 else -1) * a).natAbs = a.natAbs := by split <;> omega
  rw [← z]
  have hd : ((Int.gcd a b : Nat) : Int) ∣ (if 0 < b then 1 else -1) * a := Int.dvd_trans (Int.gcd_dvd_left a b) (Int.dvd_mul_left _ _)
  rw [Int.natAbs_ediv_of_dvd hd]
  exact Nat.div_le_self _ _
theorem den_le {a b : Int} (h : b ≠ 0) : (Rat.divInt a b).den ≤ b.natAbs := by
  have e := den_law (a := a) h
  have hg := gcd_pos (a := a) (b := b) h
  rw [fdiv_gcd_pos _ _ (by exact_mod_cast hg)] at e
  have e2 : (Rat.divInt a b).den = b.natAbs / Int.gcd a b := by exact_mod_cast e
  rw [e2]
  exact Nat.div_le_self _ _
theorem bd_divInt {a b : Int} {n : Nat} (h : b ≠ 0) (ha : a.natAbs < 2 ^ n) (hb : b.natAbs < 2 ^ n) : Bd n (Rat.divInt a b) := ⟨Nat.lt_of_le_of_lt (num_le h) ha, Nat.lt_of_le_of_lt (den_le h) hb⟩
theorem mul_lt2 {a b : Int} {n m : Nat} (ha : a.natAbs < 2 ^ n) (hb : b.natAbs < 2 ^ m) : (a * b).natAbs < 2 ^ (n + m) := by
  rw [Int.natAbs_mul, Nat.pow_add]
  exact Nat.mul_lt_mul'' ha hb
theorem den_ne (q : Rat) : ((q.den : Nat) : Int) ≠ 0 := by have := q.den_nz; omega
theorem den_gt (q : Rat) : 0 < ((q.den : Nat) : Int) := by have := q.den_pos; omega
theorem add_eq (p q : Rat) : p + q = Rat.divInt (p.num * q.den + q.num * p.den) (p.den * q.den) := by
  conv => lhs; rw [← Rat.num_divInt_den p, ← Rat.num_divInt_den q]
  rw [Rat.divInt_add_divInt _ _ (den_ne p) (den_ne q)]
theorem sub_eq (p q : Rat) : p - q = Rat.divInt (p.num * q.den - q.num * p.den) (p.den * q.den) := by
  conv => lhs; rw [← Rat.num_divInt_den p, ← Rat.num_divInt_den q]
  rw [Rat.divInt_sub_divInt _ _ (den_ne p) (den_ne q)]
theorem mul_eq (p q : Rat) : p * q = Rat.divInt (p.num * q.num) (p.den * q.den) := by
  conv => lhs; rw [← Rat.num_divInt_den p, ← Rat.num_divInt_den q]
  rw [Rat.divInt_mul_divInt]
theorem num_ne {q : Rat} (h : q ≠ 0) : q.num ≠ 0 := fun e => h (by rwa [Rat.num_eq_zero] at e)
theorem div_eq (p q : Rat) : p / q = Rat.divInt (p.num * q.den) (p.den * q.num) := by
  conv => lhs; rw [← Rat.num_divInt_den p, ← Rat.num_divInt_den q]
  rw [Rat.div_def, Rat.inv_divInt, Rat.divInt_mul_divInt]
theorem lt_eq (p q : Rat) : p < q ↔ p.num * q.den < q.num * p.den := Rat.lt_iff p q
theorem bd_mul {p q : Rat} {n m : Nat} (hp : Bd n p) (hq : Bd m q) : Bd (n + m) (p * q) := by
  rw [mul_eq]
  refine bd_divInt (Int.mul_ne_zero (den_ne p) (den_ne q)) (mul_lt2 hp.1 hq.1) (mul_lt2 ?_ ?_)
  · simpa using hp.2
  · simpa using hq.2
theorem bd_top {p q : Rat} {n m : Nat} (hp : Bd n p) (hq : Bd m q) : (p.num * q.den).natAbs < 2 ^ (n + m) := mul_lt2 hp.1 (by simpa using hq.2)
theorem bd_bot {p q : Rat} {n m : Nat} (hp : Bd n p) (hq : Bd m q) : ((p.den : Int) * q.den).natAbs < 2 ^ (n + m) := mul_lt2 (by simpa using hp.2) (by simpa using hq.2)
theorem bd_add {p q : Rat} {n m : Nat} (hp : Bd n p) (hq : Bd m q) : Bd (n + m + 1) (p + q) := by
  rw [add_eq]
  have h1 := bd_top hp hq
  have h2 := bd_top hq hp
  have h3 := bd_bot hp hq
  have e : m + n = n + m := Nat.add_comm _ _
  rw [e] at h2
  refine bd_divInt (Int.mul_ne_zero (den_ne p) (den_ne q)) ?_ ?_ <;> rw [Nat.pow_succ] <;> omega
theorem bd_sub {p q : Rat} {n m : Nat} (hp : Bd n p) (hq : Bd m q) : Bd (n + m + 1) (p - q) := by
  rw [sub_eq]
  have h1 := bd_top hp hq
  have h2 := bd_top hq hp
  have h3 := bd_bot hp hq
  have e : m + n = n + m := Nat.add_comm _ _
  rw [e] at h2
  refine bd_divInt (Int.mul_ne_zero (den_ne p) (den_ne q)) ?_ ?_ <;> rw [Nat.pow_succ] <;> omega
theorem bd_div {p q : Rat} {n m : Nat} (hp : Bd n p) (hq : Bd m q) (h : q ≠ 0) : Bd (n + m) (p / q) := by
  rw [div_eq]
  exact bd_divInt (Int.mul_ne_zero (den_ne p) (num_ne h)) (bd_top hp hq) (mul_lt2 (by simpa using hp.2) hq.1)
theorem bd_neg {p : Rat} {n : Nat} (h : Bd n p) : Bd n (-p) := by
  refine ⟨?_, ?_⟩
  · rw [Rat.neg_num, Int.natAbs_neg]; exact h.1
  · rw [Rat.neg_den]; exact h.2
/-- a pair in lowest terms is the part of its worth -/
theorem part_of (a : Int) (b : Int) (hb : 0 < b) (hc : Int.gcd a b = 1) : (Rat.divInt a b).num = a ∧ ((Rat.divInt a b).den : Int) = b := by
  rw [num_pos hb, den_pos hb, hc]
  exact ⟨by simp, by simp⟩
theorem gcd_num_den (q : Rat) : Int.gcd q.num q.den = 1 := by
  have := q.reduced
  simpa [Int.gcd, Nat.Coprime] using this
end Pm

namespace Pm
open PySem PySem.Spec PyProof.Rows L2
/-! ### data that may be shown and compared: how deep, how long -/
theorem list_len (ts : List Str) : (listText ts).length ≤ piled ts + 2 := by
  cases ts with
  | nil => decide
  | cons t r =>
    have h := textFrom_length_pos r 1 (("[" : Str) ++ (if (0 : Nat) > 0 then ", " else "" : String) ++ t) (Nat.succ_pos 0)
    have e : (("[" : Str) ++ (if (0 : Nat) > 0 then ", " else "" : String) ++ t).length = 1 + t.length := by
      rw [strLen_append, strLen_append]
      rfl
    have q : (listText (t :: r)).length = (textFrom 1 (("[" : Str) ++ (if (0 : Nat) > 0 then ", " else "" : String) ++ t) r).length + 1 := by
      show (textFrom 1 _ r ++ _).length = _
      rw [strLen_append]
      rfl
    rw [q, h, e, piled_cons]
    omega
theorem tup_len (ts : List Str) : (tupleText ts).length ≤ piled ts + 3 := by
  have e3 : (((if ts.length == 1 then ",)" else ")" : String) : Str)).length ≤ 2 := by split <;> decide
  unfold tupleText
  rw [strLen_append, strLen_append]
  have e1 : ((("(" : String) : Str)).length = 1 := rfl
  rw [e1]
  by_cases h : ts = []
  · subst h
    have : (Str.join ", " ([] : List Str)).length = 0 := rfl
    omega
  · have := join_length_add ts h
    omega
structure Ok (n m : Nat) (d : PyData) : Prop where
  sh : d.showable = true
  cl : d.canLay0 = true
  dp : d.depth ≤ n
  ln : d.shown.length ≤ m
structure OkAll (n m : Nat) (ds : List PyData) : Prop where
  sh : PyData.showableAll ds = true
  cl : PyData.canLayAll0 ds = true
  dp : PyData.depthAll ds ≤ n
  ln : ∀ t ∈ PyData.shownAll ds, t.length ≤ m
theorem Ok.mono {n m n' m' : Nat} {d : PyData} (h : Ok n m d) (a : n ≤ n') (b : m ≤ m') : Ok n' m' d := ⟨h.sh, h.cl, Nat.le_trans h.dp a, Nat.le_trans h.ln b⟩
theorem OkAll.nil {n m : Nat} : OkAll n m [] := ⟨by simp only [PyData.showableAll], by simp only [PyData.canLayAll0], by simp only [PyData.depthAll]; omega, by simp [PyData.shownAll]⟩
theorem OkAll.cons {n m : Nat} {d : PyData} {ds : List PyData} (h : Ok n m d) (r : OkAll n m ds) : OkAll n m (d :: ds) := by
  refine ⟨?_, ?_, ?_, ?_⟩
  · simp only [PyData.showableAll, h.sh, r.sh, Bool.and_self]
  · simp only [PyData.canLayAll0, h.cl, r.cl, Bool.and_self]
  · have a := h.dp
    have b := r.dp
    simp only [PyData.depthAll]
    omega
  · simp only [PyData.shownAll]
    intro t ht
    rcases List.mem_cons.mp ht with e | ht
    · rw [e]; exact h.ln
    · exact r.ln t ht
theorem shownAll_len : ∀ ds : List PyData, (PyData.shownAll ds).length = ds.length
  | [] => by simp only [PyData.shownAll, List.length_nil]
  | d :: ds => by simp only [PyData.shownAll, List.length_cons, shownAll_len ds]
theorem piled_le {m : Nat} : ∀ ts : List Str, (∀ t ∈ ts, t.length ≤ m) → piled ts ≤ ts.length * (m + 2)
  | [], _ => by simp [piled_nil]
  | t :: r, h => by
    have a := h t (List.mem_cons_self ..)
    have b := piled_le r fun u hu => h u (List.mem_cons_of_mem _ hu)
    rw [piled_cons, List.length_cons, Nat.add_mul]
    omega
theorem Ok.int {i : Int} (h : i.natAbs < 2 ^ 1919) : Ok 0 1921 (.int i) := by
  have hl : i.natAbs.log2 < 1920 := Nat.lt_of_lt_of_le (PySem.Flt.log2_lt_of (by decide) h) (by decide)
  refine ⟨by simp only [PyData.showable, hl, decide_true], by simp only [PyData.canLay0], by simp only [PyData.depth]; omega, ?_⟩
  have e := int_text_length_le (a := i) (k := 1920) (by decide) hl
  simp only [PyData.shown]
  rw [PySem.ofString_length]
  omega
theorem Ok.bool (b : Bool) : Ok 0 5 (.bool b) := ⟨by simp only [PyData.showable], by simp only [PyData.canLay0], by simp only [PyData.depth]; omega, by cases b <;> simp only [PyData.shown] <;> decide⟩
theorem Ok.none : Ok 0 4 .none := ⟨by simp only [PyData.showable], by simp only [PyData.canLay0], by simp only [PyData.depth]; omega, by simp only [PyData.shown]; decide⟩
theorem Ok.tup {n m k : Nat} {ds : List PyData} (h : OkAll n m ds) (hk : ds.length ≤ k) : Ok (n + 1) (k * (m + 2) + 3) (.tuple ds) := by
  refine ⟨by simpa only [PyData.showable] using h.sh, by simpa only [PyData.canLay0] using h.cl, by simp only [PyData.depth]; have := h.dp; omega, ?_⟩
  simp only [PyData.shown]
  have a := tup_len (PyData.shownAll ds)
  have b := piled_le _ h.ln
  rw [shownAll_len] at b
  have c : ds.length * (m + 2) ≤ k * (m + 2) := Nat.mul_le_mul_right _ hk
  omega
theorem Ok.lst {n m k : Nat} {ds : List PyData} (h : OkAll n m ds) (hk : ds.length ≤ k) : Ok (n + 1) (k * (m + 2) + 3) (.list ds) := by
  refine ⟨by simpa only [PyData.showable] using h.sh, by simpa only [PyData.canLay0] using h.cl, by simp only [PyData.depth]; have := h.dp; omega, ?_⟩
  simp only [PyData.shown]
  have a := list_len (PyData.shownAll ds)
  have b := piled_le _ h.ln
  rw [shownAll_len] at b
  have c : ds.length * (m + 2) ≤ k * (m + 2) := Nat.mul_le_mul_right _ hk
  omega
theorem Ok.shaped {n m : Nat} {d : PyData} (h : Ok n m d) (hn : n ≤ 60) : SeqAt.shaped d = true := by
  unfold SeqAt.shaped
  rw [h.cl, decide_eq_true (show d.depth ≤ 64 by have := h.dp; omega)] <;> rfl
theorem Ok.noDict {n m : Nat} {d : PyData} (h : Ok n m d) : d.hasDict = false := PyData.hasDict_of_canLay d h.cl
/-! shape alone -/
structure Sh (n : Nat) (d : PyData) : Prop where
  cl : d.canLay0 = true
  dp : d.depth ≤ n
structure ShAll (n : Nat) (ds : List PyData) : Prop where
  cl : PyData.canLayAll0 ds = true
  dp : PyData.depthAll ds ≤ n
theorem Sh.int {n : Nat} (i : Int) : Sh n (.int i) := ⟨by simp only [PyData.canLay0], by simp only [PyData.depth]; omega⟩
theorem Sh.bool {n : Nat} (b : Bool) : Sh n (.bool b) := ⟨by simp only [PyData.canLay0], by simp only [PyData.depth]; omega⟩
theorem Sh.none {n : Nat} : Sh n .none := ⟨by simp only [PyData.canLay0], by simp only [PyData.depth]; omega⟩
theorem ShAll.nil {n : Nat} : ShAll n [] := ⟨by simp only [PyData.canLayAll0], by simp only [PyData.depthAll]; omega⟩
theorem ShAll.cons {n : Nat} {d : PyData} {ds : List PyData} (h : Sh n d) (r : ShAll n ds) : ShAll n (d :: ds) :=
  ⟨by simp only [PyData.canLayAll0, h.cl, r.cl, Bool.and_self], by have a := h.dp; have b := r.dp; simp only [PyData.depthAll]; omega⟩
theorem Sh.tup {n : Nat} {ds : List PyData} (h : ShAll n ds) : Sh (n + 1) (.tuple ds) := ⟨by simpa only [PyData.canLay0] using h.cl, by simp only [PyData.depth]; have := h.dp; omega⟩
theorem Sh.lst {n : Nat} {ds : List PyData} (h : ShAll n ds) : Sh (n + 1) (.list ds) := ⟨by simpa only [PyData.canLay0] using h.cl, by simp only [PyData.depth]; have := h.dp; omega⟩
theorem Sh.shaped {n : Nat} {d : PyData} (h : Sh n d) (hn : n ≤ 60) : SeqAt.shaped d = true := by
  unfold SeqAt.shaped
  rw [h.cl, decide_eq_true (show d.depth ≤ 64 by have := h.dp; omega)] <;> rfl
theorem ShAll.ints {n : Nat} : ∀ ns : List Int, ShAll n (ns.map PyData.int)
  | [] => .nil
  | i :: r => .cons (.int i) (ShAll.ints r)
theorem Bd.n {n : Nat} {q : Rat} (h : Bd n q) : q.num.natAbs < 2 ^ n := h.1
theorem Bd.d {n : Nat} {q : Rat} (h : Bd n q) : ((q.den : Nat) : Int).natAbs < 2 ^ n := by simpa using h.2
/-! data that the heap bears -/
section
variable {K : PySem.W.Frag} {H H' : Hp}
theorem dp_ints : ∀ ns : List Int, DpAll K H (ns.map V.int) (ns.map PyData.int)
  | [] => .nil
  | i :: r => .cons (.int i) (dp_ints r)
theorem eqv_ints_nil (ns : List Int) : PyData.eqv (.list (ns.map PyData.int)) (.list []) = ns.isEmpty := by
  cases ns <;> simp [PyData.eqv, PyData.eqvAll]
/-- the datum of a part -/
def dP (q : Rat) : PyData := .tuple [.int q.num, .int (q.den : Int)]
theorem dp_P {p : Addr} {q : Rat} (h : Tp K H p [.int q.num, .int (q.den : Int)]) : Dp K H (.ref p) (dP q) := .tup h.sq (.cons (.int _) (.cons (.int _) .nil))
theorem sh_P {n : Nat} (q : Rat) : Sh (n + 1) (dP q) := .tup (.cons (.int _) (.cons (.int _) .nil))
theorem ok_P {q : Rat} (h : Bd 1919 q) : Ok 1 4000 (dP q) := (Ok.tup (k := 2) (.cons (.int h.1) (.cons (.int (Bd.d h)) .nil)) (Nat.le_refl 2)).mono (by decide) (by decide)
theorem eqv_P (p q : Rat) : PyData.eqv (dP p) (dP q) = decide (p = q) := by
  have e : (p.num = q.num ∧ ((p.den : Nat) : Int) = (q.den : Int)) ↔ p = q := ⟨fun ⟨a, b⟩ => Rat.ext a (by exact_mod_cast b), fun e => by rw [e]; exact ⟨rfl, rfl⟩⟩
  simp only [dP, PyData.eqv, PyData.eqvAll, Bool.and_true]
  rw [Bool.eq_iff_iff, decide_eq_true_iff, ← e]
  simp
end
end Pm

namespace Pm
open PySem PySem.Spec PyProof.Rows L2
section
variable {K : PySem.W.Frag} {σ : L2.St} {H : Hp} {Q : VK} {te to ti : TE} {tt : TT} {ts : TS} {D : Ends} {v x y : V} {g : TG} {tA : TA} {tl th : TO} {vs : List Nat}
/-! slices -/
theorem i_sl {r : V → Option Int → Option Int → Hp → VK → Prop} (h : te σ H fun x H1 => tl σ H1 fun l H2 => th σ H2 fun u H3 => r x l u H3 Q) : tSl r te tl th σ H Q := h
theorem i_no {QO : Option Int → Hp → Prop} (h : QO none H) : tNoPart σ H QO := h
theorem i_so {QO : Option Int → Hp → Prop} (h : te σ H fun x H1 => ∃ i, x = .int i ∧ QO (some i) H1) : tPart te σ H QO := h
theorem i_exI {R : Int → Prop} {i : Int} (h : R i) : ∃ j, V.int i = .int j ∧ R j := ⟨i, rfl, h⟩
theorem i_exB {R : Bool → Prop} {i : Bool} (h : R i) : ∃ j, V.bl i = .bl j ∧ R j := ⟨i, rfl, h⟩
theorem i_slL {p : Addr} {xs : List V} {lo hi : Option Int} (h1 : SqL K H p xs) (h : ∀ a H', New H a → Same H H' → H' a = some (.lst (cutV xs lo hi)) → Q (.ref a) H') : rSlL K (.ref p) lo hi H Q := ⟨p, xs, rfl, h1, i_new h⟩
theorem cut_all {xs : List V} {n : Nat} (h : xs.length ≤ n) : cutV xs none (some (n : Int)) = xs := by
  unfold cutV
  rw [show HT.sIx xs.length xs.length (some (n : Int)) = min n xs.length from HT.sIx_nat _ _ _, HT.sIx_none]
  rw [Nat.min_eq_right h]
  simp
theorem cut63 {xs : List V} (h : xs.length ≤ 63) : cutV xs none (some 63) = xs := cut_all (n := 63) h
/-! for a, b in enumerate(list) -/
theorem i_iE {R : It → Hp → Prop} (h : tA σ H fun vs H1 => ∃ a xs, vs = [.ref a] ∧ SqL K H1 a xs ∧ R (Ite K a) H1) : iEnum K tA σ H R := h
theorem i_itE {R : Addr → Prop} {a : Addr} {xs : List V} (h1 : SqL K H a xs) (h : R a) : ∃ b ys, [V.ref a] = [.ref b] ∧ SqL K H b ys ∧ R b := ⟨a, xs, rfl, h1, h⟩
theorem i_forE {a : Addr} {xs : List V} (I : Nat → L2.St → Hp → Prop) (h0 : I 0 σ H) (hl : ∀ i σ H, i ≤ xs.length → I i σ H → SqL K H a xs)
    (hs : ∀ i x σ' H0 T H', xs[i]? = some x → I i σ' H0 → New H0 T → Same H0 H' → H' T = some (.tup [.int (i : Nat), x]) → g (.ref T) σ' H' fun σ2 H2 => ts { D with nx := I (i + 1), ct := I (i + 1), bk := D.nx } σ2 H2)
    (hd : ∀ σ' H', I xs.length σ' H' → D.nx σ' H') : ForI (Ite K a) g ts D σ H := by
  refine ⟨fun i m σ H => m = xs.length - i ∧ i ≤ xs.length ∧ I i σ H, ⟨_, rfl, Nat.zero_le _, h0⟩, ?_⟩
  rintro i m σ' H' ⟨rfl, hi, hI⟩
  have hL := hl i σ' H' hi hI
  by_cases c : i < xs.length
  · refine .inr ⟨⟨xs, xs[i], hL, List.getElem?_eq_getElem c⟩, fun σ2 H2 => I (i + 1) σ2 H2, fun σ2 H2 h2 => ⟨xs.length - (i + 1), by omega, rfl, by omega, h2⟩, ?_⟩
    rintro x H2 ⟨T, x', rfl, nT, rfl, hx⟩
    exact hs i x' σ' H' T _ (hx xs hL) hI nT (same_new nT) upd_same
  · have e : i = xs.length := by omega
    subst e
    exact .inl ⟨⟨xs, hL, Nat.le_refl _⟩, hd σ' H' hI⟩
/-! unpacking a tuple -/
theorem i_gtup {n : Nat} {t : TGs} {N : L2.St → Hp → Prop} {p : Addr} {xs : List V} (h1 : Tp K H p xs) (hl : xs.length = n) (h : t xs σ H N) : gTup K n t (.ref p) σ H N := ⟨p, xs, rfl, h1.sq, hl, h⟩
theorem i_gcons {t : TG} {u : TGs} {N : L2.St → Hp → Prop} {r : List V} (h : t v σ H fun σ' H' => u r σ' H' N) : gCons t u (v :: r) σ H N := ⟨v, r, rfl, h⟩
theorem i_gnil {N : L2.St → Hp → Prop} (h : N σ H) : gNil [] σ H N := ⟨rfl, h⟩
/-! comprehensions -/
/-- what a comprehension asks once what it walks is known -/
def LcI (J : It) (g : TG) (tt : TT) (te : TE) (vs : List Nat) (Q : VK) (σ : L2.St) (H : Hp) : Prop := ∀ A, H A = none → ∃ W : Nat → Nat → Hp → Prop, (∃ m, W 0 m (upd H A (.lst []))) ∧ ∀ i m H, W i m H →
  (J.stop i H ∧ Q (.ref A) H) ∨ (J.go i H ∧ ∃ Nx : Hp → Prop, (∀ H', Nx H' → ∃ m', m' < m ∧ W (i + 1) m' H') ∧ ∀ x H', J.yld i H x H' → g x (wipe σ vs) H' fun σ2 H2 => wipe σ2 vs = wipe σ vs ∧ tt σ2 H2 fun b H3 =>
    if b = true then te σ2 H3 fun y H4 => ∃ acc, H4 A = some (.lst acc) ∧ acc.length < sizeLine ∧ Nx (upd H4 A (.lst (acc ++ [y]))) else Nx H3)
theorem i_lc {wi : TI} (h : wi σ H fun J H1 => LcI J g tt te vs Q σ H1) : tLc wi g tt te vs σ H Q := h
/-- behind a turn: what stood stands, the new list holds ys -/
structure LcP (A : Addr) (H0 : Hp) (ys : List V) (H' : Hp) : Prop where
  same : Same H0 H'
  list : H' A = some (.lst ys)
/-- the element is put to the list -/
def LcY (A : Addr) (H0 : Hp) (ys : List V) (y : V) (H4 : Hp) : Prop := ∃ acc, H4 A = some (.lst acc) ∧ acc.length < sizeLine ∧ LcP A H0 ys (upd H4 A (.lst (acc ++ [y])))
theorem lc_yes {A : Addr} {H0 H4 : Hp} {acc ys : List V} {y : V} (hn : New H0 A) (h : H4 A = some (.lst acc)) (e : ys = acc ++ [y]) (hl : acc.length ≤ 100000) (s : Same H0 H4) : LcY A H0 ys y H4 := by
  subst e
  exact ⟨acc, h, Nat.lt_of_le_of_lt hl (by decide), fun b o z => by rw [upd_ne (ne_of_none z hn)]; exact s b o z, upd_same⟩
theorem lc_no {A : Addr} {H0 H4 : Hp} {acc ys : List V} (h : H4 A = some (.lst acc)) (e : ys = acc) (s : Same H0 H4) : LcP A H0 ys H4 := by
  subst e
  exact ⟨s, h⟩
theorem i_lcL {a : Addr} {xs : List V} (h1 : SqL K H a xs) (out : Nat → List V) (h0 : out 0 = [])
    (hs : ∀ A i x H', New H A → xs[i]? = some x → i < xs.length → Same H H' → H' A = some (.lst (out i)) → g x (wipe σ vs) H' fun σ2 H2 => wipe σ2 vs = wipe σ vs ∧ tt σ2 H2 fun b H3 =>
      if b = true then te σ2 H3 fun y H4 => LcY A H (out (i + 1)) y H4 else LcP A H (out (i + 1)) H3)
    (h : ∀ A H', New H A → Same H H' → H' A = some (.lst (out xs.length)) → Q (.ref A) H') : LcI (Itl K a) g tt te vs Q σ H := by
  intro A hA
  refine lc_list (a := a) (xs := xs) (fun i H' => LcP A H (out i) H') ⟨same_new hA, by rw [h0]; exact upd_same⟩ (fun i H' _ p => b_L p.same h1) (fun i x H' hx p => ?_) fun H' p => h A H' hA p.same p.list
  exact hs A i x H' hA hx (List.getElem?_eq_some_iff.mp hx).1 p.same p.list
theorem i_lcT {a : Addr} {xs : List V} (h1 : Tp K H a xs) (out : Nat → List V) (h0 : out 0 = [])
    (hs : ∀ A i x H', New H A → xs[i]? = some x → i < xs.length → Same H H' → H' A = some (.lst (out i)) → g x (wipe σ vs) H' fun σ2 H2 => wipe σ2 vs = wipe σ vs ∧ tt σ2 H2 fun b H3 =>
      if b = true then te σ2 H3 fun y H4 => LcY A H (out (i + 1)) y H4 else LcP A H (out (i + 1)) H3)
    (h : ∀ A H', New H A → Same H H' → H' A = some (.lst (out xs.length)) → Q (.ref A) H') : LcI (Itt K a) g tt te vs Q σ H := by
  intro A hA
  refine lc_tup (a := a) (xs := xs) (fun i H' => LcP A H (out i) H') ⟨same_new hA, by rw [h0]; exact upd_same⟩ (fun i H' _ p => (Tp.mono p.same h1).sq) (fun i x H' hx p => ?_) fun H' p => h A H' hA p.same p.list
  exact hs A i x H' hA hx (List.getElem?_eq_some_iff.mp hx).1 p.same p.list
theorem i_lcR {lo : Int} {n : Nat} (out : Nat → List V) (h0 : out 0 = [])
    (hs : ∀ A i H', New H A → i < n → Same H H' → H' A = some (.lst (out i)) → g (.int (lo + i)) (wipe σ vs) H' fun σ2 H2 => wipe σ2 vs = wipe σ vs ∧ tt σ2 H2 fun b H3 =>
      if b = true then te σ2 H3 fun y H4 => LcY A H (out (i + 1)) y H4 else LcP A H (out (i + 1)) H3)
    (h : ∀ A H', New H A → Same H H' → H' A = some (.lst (out n)) → Q (.ref A) H') : LcI (Itr lo n) g tt te vs Q σ H := by
  intro A hA
  refine lc_range (fun i H' => LcP A H (out i) H') ⟨same_new hA, by rw [h0]; exact upd_same⟩ (fun i H' hi p => ?_) fun H' p => h A H' hA p.same p.list
  exact hs A i H' hA hi p.same p.list
theorem i_yes {QB : Bool → Hp → Prop} (h : QB true H) : tYes σ H QB := h
/-! powers that are written -/
theorem i_pow {a b c : Int} (hc : CPow a b) (e : a ^ b.toNat = c) (h : Q (.int c) H) : rI CPow (fun i j => V.int (i ^ j.toNat)) (.int a) (.int b) H Q := ⟨a, b, rfl, rfl, hc, by show Q (.int (a ^ b.toNat)) H; rw [e]; exact h⟩
theorem i_pow6 (h : Q (.int 1000000) H) : rI CPow (fun i j => V.int (i ^ j.toNat)) (.int 10) (.int 6) H Q := i_pow ⟨by decide, by decide, by decide⟩ (by decide) h
theorem i_pow18 (h : Q (.int 1000000000000000000) H) : rI CPow (fun i j => V.int (i ^ j.toNat)) (.int 10) (.int 18) H Q := i_pow ⟨by decide, by decide, by decide⟩ (by decide) h
theorem i_pow30 (h : Q (.int 1000000000000000000000000000000) H) : rI CPow (fun i j => V.int (i ^ j.toNat)) (.int 10) (.int 30) H Q := i_pow ⟨by decide, by decide, by decide⟩ (by decide) h
/-- the numbers that a comprehension with a test keeps -/
def kept (f : Int → Int) (p : Int → Bool) (ns : List Int) (i : Nat) : List V := (((ns.take i).map f).filter p).map V.int
theorem kept_yes {f : Int → Int} {p : Int → Bool} {ns : List Int} {i : Nat} {c : Int} (h : ns[i]? = some c) (hp : p (f c) = true) : kept f p ns (i + 1) = kept f p ns i ++ [V.int (f c)] := by
  unfold kept
  rw [List.take_add_one, h]
  simp [hp]
theorem kept_no {f : Int → Int} {p : Int → Bool} {ns : List Int} {i : Nat} {c : Int} (h : ns[i]? = some c) (hp : p (f c) = false) : kept f p ns (i + 1) = kept f p ns i := by
  unfold kept
  rw [List.take_add_one, h]
  simp [hp]
theorem kept_len (f : Int → Int) (p : Int → Bool) (ns : List Int) (i : Nat) : (kept f p ns i).length ≤ ns.length := by
  unfold kept
  rw [List.length_map]
  refine Nat.le_trans (List.length_filter_le _ _) ?_
  rw [List.length_map, List.length_take]
  exact Nat.min_le_right _ _
theorem i_powV {a b : Int} (hc : CPow a b) (h : ∀ c : Int, c = a ^ b.toNat → Q (.int c) H) : rI CPow (fun i j => V.int (i ^ j.toNat)) (.int a) (.int b) H Q := ⟨a, b, rfl, rfl, hc, h _ rfl⟩
/-- x % m, m above 0 -/
theorem i_mod {a m : Int} (hm : 0 < m) (h : ∀ d : Int, 0 ≤ d → d < m → d = a % m → Q (.int d) H) : rI (fun _ j => j ≠ 0) (fun i j => V.int (i.fmod j)) (.int a) (.int m) H Q :=
  i_I (show m ≠ 0 by omega) (by
    have e : a.fmod m = a % m := Int.fmod_eq_emod_of_nonneg a (by omega)
    rw [e]
    exact h _ (Int.emod_nonneg _ (by omega)) (Int.emod_lt_of_pos _ hm) rfl)
theorem at_ints {ns : List Int} {j : Int} (h0 : 0 ≤ j) (h1 : j < ns.length) : ∃ c, c ∈ ns ∧ atI (ns.map V.int) j = some (.int c) := by
  obtain ⟨k, rfl⟩ : ∃ k : Nat, j = k := ⟨j.toNat, by omega⟩
  have hk : k < ns.length := by omega
  exact ⟨ns[k], List.getElem_mem hk, atI_nat (by rw [List.getElem?_map, List.getElem?_eq_getElem hk]; rfl)⟩
/-- an item of a list of numbers at a place that isn't written -/
theorem i_ixN {p : Addr} {xs : List V} {ns : List Int} {j : Int} (h1 : SqL K H p xs) (e : xs = ns.map V.int) (h0 : 0 ≤ j) (h2 : j < ns.length) (h : ∀ c : Int, c ∈ ns → Q (.int c) H) : rIx K (.ref p) (.int j) H Q := by
  obtain ⟨c, hc, ha⟩ := at_ints h0 h2
  subst e
  exact i_ixL h1 ha (h c hc)
/-- the ways of a statement meet again -/
theorem i_cut (Ex : L2.St → Hp → Prop) (h : ∀ N : L2.St → Hp → Prop, (∀ σ H, Ex σ H → N σ H) → ts { D with nx := N } σ H) (k : ∀ σ H, Ex σ H → D.nx σ H) : ts D σ H := h D.nx k
theorem i_cutE (Ex : V → Hp → Prop) (h : ∀ Q' : VK, (∀ v H, Ex v H → Q' v H) → te σ H Q') (k : ∀ v H, Ex v H → Q v H) : te σ H Q := h Q k
theorem ixN_at {n j : Nat} (hj : j < n) : ixN n (j : Int) = some j := by
  unfold ixN
  rw [if_pos (by omega), if_pos (by omega)]
  simp
/-- a list of numbers, item by item -/
inductive IntL : List V → List Int → Prop
  | nil : IntL [] []
  | cons {a : Int} {xs : List V} {ns : List Int} : IntL xs ns → IntL (.int a :: xs) (a :: ns)
theorem IntL.eq {xs : List V} {ns : List Int} (h : IntL xs ns) : xs = ns.map V.int := by
  induction h with
  | nil => rfl
  | cons _ ih => rw [ih]; rfl
theorem i_ixM {p : Addr} {xs : List V} {ns : List Int} {j : Int} (h1 : SqL K H p xs) (e : IntL xs ns) (h0 : 0 ≤ j) (h2 : j < ns.length) (h : ∀ c : Int, c ∈ ns → Q (.int c) H) : rIx K (.ref p) (.int j) H Q := i_ixN h1 e.eq h0 h2 h
/-! methods of lists, items stored -/
theorem i_bm {T : String} {r : V → List V → Hp → VK → Prop} (h : to σ H fun x H1 => tyV K T x H1 ∧ tA σ H1 fun xs H2 => r x xs H2 Q) : tBM K T r to tA σ H Q := h
theorem i_bmL {r : V → List V → Hp → VK → Prop} {p : Addr} {xs : List V} (h1 : H p = some (.lst xs)) (h : tA σ H fun ys H2 => r (.ref p) ys H2 Q) : tyV K "list" (.ref p) H ∧ tA σ H fun ys H2 => r (.ref p) ys H2 Q := ⟨.inl ⟨rfl, xs, SqL.of h1⟩, h⟩
theorem i_append {p : Addr} {xs : List V} (h1 : H p = some (.lst xs)) (hl : xs.length ≤ 100000) (h : ∀ H', Fx p p H H' → H' p = some (.lst (xs ++ [v])) → Q .non H') : rAppend (.ref p) [v] H Q :=
  ⟨p, xs, v, rfl, rfl, h1, Nat.lt_of_le_of_lt hl (by decide), h _ (fx_upd h1) upd_same⟩
theorem i_pop0 {p : Addr} {z : V} {xs : List V} (h1 : H p = some (.lst (z :: xs))) (h : Q z (upd H p (.lst xs))) : rPopAt (.ref p) [.int 0] H Q :=
  ⟨p, z :: xs, 0, 0, z, rfl, rfl, h1, by decide, by decide, seqIndex_of (by decide) (by rw [List.length_cons]; omega), rfl, h⟩
theorem i_gsub {to ti : TE} {s : TSet} {N : L2.St → Hp → Prop} (h : to σ H fun o H1 => ti σ H1 fun i H2 => s o i v H2 fun H3 => N σ H3) : gSub to ti s v σ H N := h
theorem i_setL {p : Addr} {xs : List V} {k : Int} {j : Nat} {NH : Hp → Prop} (h1 : H p = some (.lst xs)) (e : ixN xs.length k = some j) (h : NH (upd H p (.lst (xs.set j v)))) : rSetL (.ref p) (.int k) v H NH := ⟨p, xs, k, j, rfl, rfl, h1, e, h⟩
end
end Pm

namespace Pm
open PySem PySem.Spec PyProof.Rows L2
/-! ### an exception that was caught, kept by a name -/
/-- the exception of class cls (its own dict at d) stands at a -/
def exHO (cls : Value) (d : Option Addr) (a : Addr) : HO := .ext fun h => ∃ (oe : Obj) (vs : Array Value), h.get? a = some oe ∧ Zc cls d oe ∧ oe.data = .fields vs
section
variable {X : Cx} {pins : List (Addr × Obj)} {σ : L2.St} {H : Hp} {s : Shared}
/-- an object that is nobody's is tracked from here on -/
theorem track {a : Addr} {o : HO} {oe : Obj} {vs : Array Value} (I : Inv X ((a, oe) :: pins) σ H s) (new : X.s_0.heap.get? a = none) (other : ∀ p ∈ X.pn ++ pins, p.1 ≠ a) (hd : oe.data = .fields vs)
    (ob : ObjOk X.prog X.w (upd H a o) s.heap a o) : Inv X pins σ (upd H a o) s := by
  obtain ⟨ha, na, nL, nF, _⟩ := I.pin (a, oe) (List.mem_append_right _ (List.mem_cons_self ..))
  have ne : ∀ b u, H b = some u → b ≠ a := fun b u q z => by
    subst z
    rw [na] at q
    cases q
  have old : ∀ b u, X.s_0.heap.get? b = some u → b ≠ a := fun b u q z => by
    subst z
    rw [new] at q
    cases q
  have B := I.base
  exact {
    ok := I.ok, os := I.os, bare := I.bare, loc := I.loc, cell := I.cell, len := I.len
    base := { keep := B.keep, slot := B.slot, there := B.there
              free := fun b u q n x => by rw [upd_ne (old b u q)]; exact B.free b u q n x
              tups := fun b xs q => by rw [upd_ne (ne _ _ (B.tups b xs q))]; exact B.tups b xs q
              frzs := fun b u xs q => by rw [upd_ne (ne _ _ (B.frzs b u xs q))]; exact B.frzs b u xs q
              tbls := fun b ps q => by
                obtain ⟨m, z⟩ := B.tbls b ps q
                exact ⟨m, by rw [upd_ne (ne _ _ z)]; exact z⟩ }
    free := by rw [upd_ne (Ne.symm nL)]; exact I.free
    freeC := fun x c q => by
      have hc : c ≠ a := fun z => by
        subst z
        obtain ⟨v, oc, e1, e2⟩ := I.cell x c q
        rw [ha] at e1
        injection e1 with e1
        rw [← e1, hd] at e2
        cases e2
      rw [upd_ne hc]
      exact I.freeC x c q
    pin := fun p hp => by
      have hp2 : p ∈ X.pn ++ (a, oe) :: pins := by
        rcases List.mem_append.mp hp with z | z
        · exact List.mem_append_left _ z
        · exact List.mem_append_right _ (List.mem_cons_of_mem _ z)
      obtain ⟨k1, k2, k3, k4, k5⟩ := I.pin p hp2
      exact ⟨k1, by rw [upd_ne (other p hp)]; exact k2, k3, k4, k5⟩
    hok := fun b u q => by
      by_cases hb : b = a
      · subst hb
        rw [upd_same] at q
        injection q with q
        subst q
        exact ob
      · rw [upd_ne hb] at q
        exact (I.hok b u q).stay (fun _ _ _ z => z) (fun c z => by rw [upd_ne (ne _ _ z)]; exact z) (fun c xs z => by rw [upd_ne (ne _ _ z)]; exact z) }
end
section
variable {X : Cx} {n : Str} {i : Nat} {body suite : List Stmt} {b1 : Stmt} {t : Expr} {T : Value → Prop} {pos pos' : Pos} {tb : WX → TS} {ts : Addr → Value → Option Addr → TS}
/-- a clause's test: it takes every exception whose class T tells; what stood in the heap stands -/
def TestOk (X : Cx) (t : Expr) (T : Value → Prop) : Prop := ∀ (a : Addr) (oe : Obj) (pn : List (Addr × Obj)) (σ : L2.St) (H : Hp) (s : Shared), Inv (X.suite a ((a, oe) :: pn)) [] σ H s → T oe.cls →
  ∀ (Q : Bool → Shared → Prop) (E : Value → Shared → Prop), (∀ h' tk, (∀ b o, s.heap.get? b = some o → h'.get? b = some o) → Q true { s with heap := h', toks := tk }) →
    wpAny (model X.prog X.w) (X.A.mark (some (.ref a))) (eval t X.env) (fun c s2 => wpAny (model X.prog X.w) (X.A.mark (some (.ref a))) (excMatches (.ref a) c) Q E s2) E s
theorem test_one {x : Str} {np : Pos} {c : Value} (hc : Names X x c) (hT : ∀ cls, T cls → PySem.W.exmOne X.K cls c = some true) : TestOk X (.Name x np) T := by
  intro a oe pn σ H s S hcl Q E hq
  obtain ⟨ha, _⟩ := S.pin (a, oe) (List.mem_append_left _ (List.mem_cons_self ..))
  have look : PySem.W.Looks (model X.prog X.w) s.heap (typeOf (.ref a)) oe.cls := fun A Q E s' k q => wpAny_typeOf_ref (k _ _ ha) q
  have fin : wpAny (model X.prog X.w) (X.A.mark (some (.ref a))) (excMatches (.ref a) c) Q E s := (PySem.W.exm_one S.kIn look (hT _ hcl)).here (hq s.heap s.toks fun _ _ z => z)
  obtain ⟨g, db, m | ⟨m, v, nn⟩⟩ := hc
  · exact ld_glob S g m fin db
  · exact ld_blt S g m v fin nn db
theorem fly_keep {B : Heap} {l : List Env} {a : Addr} {Z : Obj → Prop} {h h' : Heap} (k : ∀ b o, h.get? b = some o → h'.get? b = some o) (f : HandSPX.FlyingZ B l a Z h) : HandSPX.FlyingZ B l a Z h' := by
  obtain ⟨f1, f2, f3, oe, vs, T, oT, fs, e1, z, d, e2, nT, ne, e3, d3, fl⟩ := f
  exact ⟨fun b o q => k b o (f1 b o q), f2, f3.of_keeps fun b o q _ => ⟨o, k b o q, rfl⟩, oe, vs, T, oT, fs, k _ _ e1, z, d, e2, nT, ne, k _ _ e3, d3, fl⟩
/-- what the clause asks of an exception of the body: behind the suite the exception is tracked, its name empty -/
def wKeep (T : Value → Prop) (i : Nat) (ts : Addr → Value → Option Addr → TS) (D : Ends) : WX := fun cls d σ H => T cls ∧ ∀ a, New H a →
  ts a cls d { nx := fun σ' H' => D.nx (σ'.set i none) (upd H' a (exHO cls d a)), rt := fun v H' => D.rt v (upd H' a (exHO cls d a)), bk := fun σ' H' => D.bk (σ'.set i none) (upd H' a (exHO cls d a)), ct := fun σ' H' => D.ct (σ'.set i none) (upd H' a (exHO cls d a)) } (σ.set i (some (.ref a))) H
theorem ps_try_keep (hs : X.stack = X.env :: X.outer) (hf : X.env.frame = some X.env.locals) (hex : X.ex = []) (hN : X.N.Nodup) (hi : X.N[i]? = some n) (hn : X.env.kindOf n = some .local) (ht : TestOk X t T)
    (hb : ∀ (W : WX) (pn : List (Addr × Obj)) (xe : Value → Shared → Prop), Takes (X.tr pn xe) W → PassesOwn (model X.prog X.w) X.A X.env xe → PSs (X.tr pn xe) body (tb W))
    (hsu : ∀ (a : Addr) (oe : Obj) (cls : Value) (d : Option Addr) (pn : List (Addr × Obj)), PSs (X.suite a ((a, oe) :: pn)) (b1 :: suite) (ts a cls d)) :
    PS X (.Try body [.ExceptHandler (some t) (some n) (b1 :: suite) pos'] [] [] pos) (fun D σ H => tb (wKeep T i ts D) D σ H) := by
  constructor
  intro pins s σ H D I h
  have ok := I.ok
  have frames : X.A.frames = some (X.env :: X.outer) := ok.frames.trans (congrArg some hs)
  apply wpAny_Try_except
  have run := hb (wKeep T i ts D) (X.pn ++ pins) (fun e s1 => wpAny (model X.prog X.w) X.A (noteFrame e X.env) (fun _ s2 => wpAny (model X.prog X.w) X.A (setFlight e none)
    (fun _ s3 => wpAny (model X.prog X.w) X.A (handleBy e X.env [.ExceptHandler (some t) (some n) (b1 :: suite) pos']) (SP X pins D) X.xe s3) X.xe s2) X.xe s1)
  refine wpAny_mono ((run ?_ PassesOwn.looking).run [] s σ H D (I.toTry _) h) ?_ fun _ _ z => z
  · rintro u s1 ⟨a, B, sI, ps, σ1, H1, cls, d, rfl, J0, nb, up, sky, na, os, gens, hT, want⟩
    have J : Inv X pins σ1 H1 sI := J0.ofTry ok
    rw [hs] at sky
    refine Sky.land Zc.steady frames hf sky ?_
    intro h3 fl3 up3
    obtain ⟨oe3, vs3, at3, z3, dat3⟩ := fl3.there
    have J3 : Inv X pins σ1 H1 { s1 with heap := h3 } := J.landed nb fl3.1 (up.trans up3) os gens
    -- a is none of the frames
    have nofr : a ∉ frs (X.env :: X.outer) := by
      intro hm
      obtain ⟨_, o', e', q⟩ := fl3.2.2.1.mem hm
      rw [at3] at e'
      injection e' with e'
      subst e'
      exact q vs3 dat3
    have nL : a ≠ X.env.locals := fun z => nofr (List.mem_filterMap.mpr ⟨X.env, List.mem_cons_self .., by rw [hf, z]⟩)
    have nF : a ∉ X.fs := by
      intro hm
      obtain ⟨e, he, q⟩ := List.mem_filterMap.mp hm
      exact nofr (List.mem_filterMap.mpr ⟨e, List.mem_cons_of_mem _ he, q⟩)
    -- a is new since the exception's state
    have newI : sI.heap.get? a = none := by
      rcases q : sI.heap.get? a with _ | o
      · rfl
      · have z := nb a o q (by rw [hs]; exact nofr)
        rw [fl3.2.1] at z
        cases z
    have new0 : X.s_0.heap.get? a = none := by
      rcases q : X.s_0.heap.get? a with _ | o
      · rfl
      · obtain ⟨o', z⟩ := J.base.there a o q (by rw [hex]; simp)
        rw [newI] at z
        cases z
    have newP : ∀ p ∈ X.pn ++ pins, p.1 ≠ a := by
      intro p hp z
      obtain ⟨q, _⟩ := J.pin p hp
      rw [z, newI] at q
      cases q
    have S3 := J3.suite at3 dat3 na nL nF
    refine wpAny_handleBy_cons (codeAny_handlers_test ?_) (by intro q; cases q)
    refine ht a oe3 _ σ1 H1 _ S3 (by rw [z3.1]; exact hT) _ _ ?_
    intro h4 tk4 k4
    have fl4 := fly_keep k4 fl3
    apply codeAny_handlers_suite_as
    apply HandSPX.lands_againZ fl4
    intro h5 fl5 up5
    obtain ⟨oe5, vs5, at5, z5, dat5⟩ := fl5.there
    have up4 : h3.UpToSlots h4 := fun b o q _ => ⟨o.slots, k4 b o q⟩
    have J5 : Inv X pins σ1 H1 { s1 with heap := h5, toks := tk4 } := by
      have z := Inv.landed (s' := { s1 with heap := h5, toks := tk4 }) J nb fl5.1 (((up.trans up3).trans up4).trans up5) os gens
      exact z
    refine store_ok (X := X.suite a ((a, oe5) :: (X.pn ++ pins))) (v := .ref a) (J5.suite at5 dat5 na nL nF) hN hi (.inl hn) rfl ?_ (.inr hn)
    intro s6 S6
    refine wpAny_mono ((hsu a oe5 cls d (X.pn ++ pins)).run [] s6 _ H1 _ S6 (want a na)) ?_ fun _ _ z => False.elim z
    intro f s7 hsp
    have fin : ∀ {σ7 : L2.St} {H7 : Hp} {G : Shared → Prop}, Inv (X.suite a ((a, oe5) :: (X.pn ++ pins))) [] σ7 H7 s7 → (∀ s8, Inv X pins (σ7.set i none) (upd H7 a (exHO cls d a)) s8 → G s8) →
        wpAny (model X.prog X.w) X.A (do bindName X.env n .none; unbindBehindTheSuite X.env n pos') (fun _ s8 => G s8) X.xe s7 := by
      intro σ7 H7 G S7 hG
      have P7 : Inv X ((a, oe5) :: pins) σ7 H7 s7 := (S7.unsuite ok).pins_of fun p hp => by
        rcases List.mem_cons.mp hp with e | hp
        · rw [e]
          exact S7.pin (a, oe5) (List.mem_append_left _ (List.mem_cons_self ..))
        · exact S7.pin p (List.mem_append_left _ (List.mem_cons_of_mem _ (List.mem_append_right _ hp)))
      refine gone_ok P7 hN hi hn fun s8 J8 => hG s8 ?_
      obtain ⟨at8, _⟩ := J8.pin (a, oe5) (List.mem_append_right _ (List.mem_cons_self ..))
      exact track J8 new0 newP dat5 ⟨⟨oe5, vs5, at8, z5, dat5⟩, ⟨oe5, at8⟩, fun h1 h2 ⟨o, v, q, r⟩ k => ⟨o, v, k o q, r⟩⟩
    cases f with
    | next =>
      obtain ⟨σ7, H7, S7, q⟩ := hsp
      exact fin S7 fun s8 J8 => ⟨_, _, J8, q⟩
    | brk =>
      obtain ⟨σ7, H7, S7, q⟩ := hsp
      exact fin S7 fun s8 J8 => ⟨_, _, J8, q⟩
    | cont =>
      obtain ⟨σ7, H7, S7, q⟩ := hsp
      exact fin S7 fun s8 J8 => ⟨_, _, J8, q⟩
    | ret u =>
      obtain ⟨v, σ7, H7, S7, r, q⟩ := hsp
      exact fin S7 fun s8 J8 => ⟨v, _, _, J8, r, q⟩
  · intro f s1 hsp
    cases f with
    | next =>
      obtain ⟨σ1, H1, J, q⟩ := hsp
      exact wpAny_execs_nil ⟨σ1, H1, J.ofTry ok, q⟩
    | brk =>
      obtain ⟨σ1, H1, J, q⟩ := hsp
      exact ⟨σ1, H1, J.ofTry ok, q⟩
    | cont =>
      obtain ⟨σ1, H1, J, q⟩ := hsp
      exact ⟨σ1, H1, J.ofTry ok, q⟩
    | ret u =>
      obtain ⟨v, σ1, H1, J, r, q⟩ := hsp
      exact ⟨v, σ1, H1, J.ofTry ok, r, q⟩
end
end Pm

namespace Pm
open PySem PySem.Spec PyProof.Rows L2
/-! ### calls in a try's body -/
def tCallX (sp : Sp) (dvs : List V) (E : L2.St → XK) (t : TA) : TE := fun σ H Q => t σ H fun vs H1 => sp (vs ++ dvs) H1 Q (E σ)
def tCallNX (n m : Nat) (sp : Sp) (gV : List V → List V → List V) (E : L2.St → XK) (t tk : TA) : TE := fun σ H Q => t σ H fun vs H1 => tk σ H1 fun zs H2 => vs.length = n ∧ zs.length = m ∧ sp (gV vs zs) H2 Q (E σ)
section
variable {X : Cx} {CX : CXT} {k n : Nat} {f : Addr} {fd : FuncData} {ps ks : List Str} {sp : Sp} {E : L2.St → XK} {x : Str} {p pos : Pos} {e : Expr} {es : List Expr} {kws : List Keyword} {t tk : TA} {dvs : List V} {gV : List V → List V → List V}
theorem runGX {pins : List (Addr × Obj)} {σ : L2.St} {H : Hp} {s : Shared} {Q : VK} {us us2 : List Value} {kv : List (Str × Value)} {vs : List V} (F : FnG X.prog X.w X.K X.mg X.base CX k f fd ps sp) (hG : X.A.guards = some []) (hr : Room k X.A)
    (hb : BindsTo s fd ⟨us, kv⟩ (ps.zip us2)) (hx : PassesAt CX X σ (E σ)) (I : Inv X pins σ H s) (r : Vals vs us2) (h : sp vs H Q (E σ)) : wpAny (model X.prog X.w) X.A (call (.ref f) us kv) (EP X pins σ Q) X.xe s := by
  apply wpAny_call
  refine codeAny_mono (F.run X.A hG X.stack s H ⟨us, kv⟩ us2 vs Q (E σ) hr I.env0 hb r h) ?_
  rintro (e | fl) s' hq
  · exact hx pins H s e s' I hq
  · cases fl <;> first | exact I.after hq | exact False.elim hq
theorem pe_ownX (O : Own X.prog X.w X.K X.mg X.base CX k x ps dvs sp) (hG : X.A.guards = some []) (hr : Room k X.A) (hx : ∀ σ, PassesAt CX X σ (E σ)) (ha : PA X (e :: es) t) (hg : Gl X x := by rfl)
    (hdb : (x == ("__debug__" : Str)) = false := by decide) (he : starEach (e :: es) X.env = (false, eval e X.env) :: starEach es X.env := by rfl) (hpl : (backTo pos (starEach es X.env)).any (·.1) = false := by rfl) :
    PE X (.Call (.Name x p) (e :: es) [] pos) (tCallX sp dvs E t) := by
  obtain ⟨f, fd, ds, F, hm, hk, hb, hd⟩ := O.ex
  refine ⟨fun pins s σ H Q I h => wpAny_Call_Name_kw (ld_glob I hg hm ?_ hdb)⟩
  apply PySem.W.callWith_K (h₀ := X.base) I.ok.mod.kin hk _ he hpl
  refine thn (ha.run pos pins s σ H _ I h) ?_
  rintro us s1 ⟨vs, H1, I1, r, q⟩
  have r2 := r.append hd
  exact ⟨I1.kIn, runGX F hG hr (hb s1 us I1.kIn (by rw [← r2.length]; exact F.len _ _ _ _ q)) (hx σ) I1 r2 q⟩
theorem pe_ownKX (O : OwnK X.prog X.w X.K X.mg X.base CX k x ps n ks gV sp) (hG : X.A.guards = some []) (hr : Room k X.A) (hx : ∀ σ, PassesAt CX X σ (E σ)) (ha : PA X (e :: es) t) (hkw : PK X kws tk) (hg : Gl X x := by rfl)
    (hall : (backToKw pos (keywordEach kws X.env)).all (·.1.isSome) = true := by rfl) (hks : (backToKw pos (keywordEach kws X.env)).filterMap (·.1) = ks := by rfl)
    (hdb : (x == ("__debug__" : Str)) = false := by decide) (he : starEach (e :: es) X.env = (false, eval e X.env) :: starEach es X.env := by rfl)
    (hpl : ((backTo pos (starEach (e :: es) X.env)).any (·.1) || (backToKw pos (keywordEach kws X.env)).any (·.1.isNone)) = false := by rfl) :
    PE X (.Call (.Name x p) (e :: es) kws pos) (tCallNX n ks.length sp gV E t tk) := by
  obtain ⟨f, fd, g, F, hm, hk, hb⟩ := O.ex
  refine ⟨fun pins s σ H Q I h => wpAny_Call_Name_kw (ld_glob I hg hm ?_ hdb)⟩
  apply PySem.W.callWith_KW (h₀ := X.base) I.ok.mod.kin hk hall _ hpl he
  refine thn (ha.run pos pins s σ H _ I h) ?_
  rintro us s1 ⟨vs, H1, I1, r, q⟩
  refine thn (hkw.run pos pins s1 σ H1 _ I1 q) ?_
  rintro ws s2 ⟨zs, H2, I2, rz, l1, l2, q2⟩
  rw [hks]
  exact ⟨I2.kIn, runGX F hG hr (hb.to s2 us ws I2.kIn (r.length.symm.trans l1) (rz.length.symm.trans l2)) (hx σ) I2 (hb.rel r rz) q2⟩
theorem pe_ownKX0 (O : OwnK X.prog X.w X.K X.mg X.base CX k x ps 0 ks gV sp) (hG : X.A.guards = some []) (hr : Room k X.A) (hx : ∀ σ, PassesAt CX X σ (E σ)) (hkw : PK X kws tk) (hg : Gl X x := by rfl)
    (hall : (backToKw pos (keywordEach kws X.env)).all (·.1.isSome) = true := by rfl) (hks : (backToKw pos (keywordEach kws X.env)).filterMap (·.1) = ks := by rfl)
    (hdb : (x == ("__debug__" : Str)) = false := by decide)
    (hpl : ((backTo pos (starEach [] X.env)).any (·.1) || (backToKw pos (keywordEach kws X.env)).any (·.1.isNone)) = false := by rfl) :
    PE X (.Call (.Name x p) [] kws pos) (tCallNX 0 ks.length sp gV E tNil tk) := by
  obtain ⟨f, fd, g, F, hm, hk, hb⟩ := O.ex
  refine ⟨fun pins s σ H Q I h => wpAny_Call_Name_kw (ld_glob I hg hm ?_ hdb)⟩
  refine PySem.W.callWith_KW0 (h₀ := X.base) I.ok.mod.kin hk hall ?_ hpl
  refine thn (hkw.run pos pins s σ H _ I h) ?_
  rintro ws s2 ⟨zs, H2, I2, rz, l1, l2, q2⟩
  rw [hks]
  exact ⟨I2.kIn, runGX F hG hr (us := []) (hb.to s2 [] ws I2.kIn rfl (rz.length.symm.trans l2)) (hx σ) I2 (hb.rel (.nil : Vals [] []) rz) q2⟩
end
/-! ### isinstance of a caught exception -/
def rIsX (K : PySem.W.Frag) (D : Addr) : List V → Hp → VK → Prop := fun xs H Q => ∃ (a : Addr) (c : V) (cv : Value) (b : Bool), xs = [.ref a, c] ∧ H a = some (exHO (.ref D) none a) ∧ ClsV c cv ∧ PySem.W.kitOne K (.ref D) cv = some b ∧ Q (.bl b) H
def rIsXT (K : PySem.W.Frag) (D : Addr) : List V → Hp → VK → Prop := fun xs H Q => ∃ (a tp : Addr) (cs : List V) (us : List Value) (b : Bool), xs = [.ref a, .ref tp] ∧ H a = some (exHO (.ref D) none a) ∧ H tp = some (.tup cs) ∧ Paired ClsV cs us ∧ PySem.W.kitAny K (.ref D) us = some b ∧ Q (.bl b) H
section
variable {X : Cx} {D : Addr}
theorem inst_of {pins : List (Addr × Obj)} {σ : L2.St} {H : Hp} {s : Shared} {a : Addr} (I : Inv X pins σ H s) (h : H a = some (exHO (.ref D) none a)) : ∃ oe, PySem.W.InstAt s.heap a oe D none := by
  obtain ⟨⟨oe, vs, at_, z, d⟩, _⟩ := (show ObjOk X.prog X.w H s.heap a (exHO (.ref D) none a) from I.hok a _ h)
  obtain ⟨oc, od, oda, osl⟩ := oe
  obtain ⟨h1, h2⟩ := z
  dsimp only at h1 h2 d
  subst h1 h2 d
  exact ⟨_, at_, rfl, rfl, trivial⟩
theorem call_isX (C : ExcC X.K D) : CallR X (.builtin "isinstance") (rIsX X.K D) := by
  intro pins s σ H xs us Q I r h
  obtain ⟨a, c, cv, b, rfl, ha, hc, e, q⟩ := h
  obtain ⟨u1, u2, rfl, r1, r2⟩ := vals2 r
  cases (show u1 = Value.ref a from r1)
  obtain ⟨oe, J⟩ := inst_of I ha
  have e2 := hc.eq r2
  subst e2
  exact PySem.W.kia_one (PySem.W.handS_kitx_exc C.hg C.hk C.hs C.hd C.ha C.hn C.ht C.hm) I.kIn J e (fun z => nomatch z) fun tk => ⟨.bl b, H, I.kept (t' := tk) fun _ _ z => z, rfl, q⟩
theorem call_isXT (C : ExcC X.K D) : CallR X (.builtin "isinstance") (rIsXT X.K D) := by
  intro pins s σ H xs us Q I r h
  obtain ⟨a, tp, cs, ws, b, rfl, ha, hT, hc, e, q⟩ := h
  obtain ⟨u1, u2, rfl, r1, r2⟩ := vals2 r
  cases (show u1 = Value.ref a from r1)
  cases (show u2 = Value.ref tp from r2)
  obtain ⟨oe, J⟩ := inst_of I ha
  obtain ⟨_, its, rv, o, h1, h2, n, h3⟩ := (show ObjOk X.prog X.w H s.heap tp (.tup cs) from I.hok tp _ hT)
  have e3 := ClsV.all hc rv
  subst e3
  obtain ⟨oc, od, dt, sl⟩ := o
  dsimp only at h2 h3
  subst h2 h3
  exact PySem.W.kia_tup (PySem.W.handS_kitx_exc C.hg C.hk C.hs C.hd C.ha C.hn C.ht C.hm) I.kIn J h1 e (fun z => nomatch z) fun tk => ⟨.bl b, H, I.kept (t' := tk) fun _ _ z => z, rfl, q⟩
end
section
variable {K : PySem.W.Frag} {σ : L2.St} {H : Hp} {Q : VK} {tA tK : TA}
theorem i_callX {sp : Sp} {dvs : List V} {E : L2.St → XK} (h : tA σ H fun vs H1 => sp (vs ++ dvs) H1 Q (E σ)) : tCallX sp dvs E tA σ H Q := h
theorem i_callNX {sp : Sp} {n m : Nat} {gV : List V → List V → List V} {E : L2.St → XK} (h : tA σ H fun vs H1 => tK σ H1 fun zs H2 => vs.length = n ∧ zs.length = m ∧ sp (gV vs zs) H2 Q (E σ)) : tCallNX n m sp gV E tA tK σ H Q := h
theorem i_isX {D a : Addr} {c : V} {cv : Value} {b : Bool} (h1 : H a = some (exHO (.ref D) none a)) (hc : ClsV c cv) (e : PySem.W.kitOne K (.ref D) cv = some b) (h : Q (.bl b) H) : rIsX K D [.ref a, c] H Q := ⟨a, c, cv, b, rfl, h1, hc, e, h⟩
theorem i_isXT {D a tp : Addr} {cs : List V} {us : List Value} {b : Bool} (h1 : H a = some (exHO (.ref D) none a)) (h2 : H tp = some (.tup cs)) (hc : Paired ClsV cs us) (e : PySem.W.kitAny K (.ref D) us = some b) (h : Q (.bl b) H) : rIsXT K D [.ref a, .ref tp] H Q := ⟨a, tp, cs, us, b, rfl, h1, h2, hc, e, h⟩
end
end Pm

namespace Pm
open PySem PySem.Spec PyProof.Rows L2
/-! ### the rules once more, the written part K named -/
section
variable {X : Cx} {k : Nat}
theorem k_add (K : PySem.W.Frag) (hK : X.K = K := by rfl) : OpR X (binaryOp .Add) (rAddU K) := by subst hK; exact op_addU
theorem k_eq (K : PySem.W.Frag) (hr : Room k X.A) (hK : X.K = K := by rfl) : OpR X (compareOp .Eq) (rEqU K) := by subst hK; exact op_eqU hr
theorem k_ne (K : PySem.W.Frag) (hr : Room k X.A) (hK : X.K = K := by rfl) : OpR X (compareOp .NotEq) (rNeU K) := by subst hK; exact op_neU hr
theorem k_in (K : PySem.W.Frag) (hK : X.K = K := by rfl) : OpR X (compareOp .In) (rIn K false) := by subst hK; exact op_in_seq
theorem k_notIn (K : PySem.W.Frag) (hK : X.K = K := by rfl) : OpR X (compareOp .NotIn) (rIn K true) := by subst hK; exact op_notIn_seq
theorem k_ix (K : PySem.W.Frag) (hK : X.K = K := by rfl) : IxR X (rIx K) := by subst hK; exact ix_seq
theorem k_slL (K : PySem.W.Frag) (hK : X.K = K := by rfl) : SlR X (rSlL K) := by subst hK; exact sl_list
theorem k_slT (K : PySem.W.Frag) (hK : X.K = K := by rfl) : SlR X (rSlT K) := by subst hK; exact sl_tup
theorem k_len (K : PySem.W.Frag) (hK : X.K = K := by rfl) : CallR X (.builtin "len") (rLenU K) := by subst hK; exact call_lenU
theorem k_tupL (K : PySem.W.Frag) (hK : X.K = K := by rfl) : CallR X (.type "tuple") (rTupL K) := by subst hK; exact call_tupL
theorem k_repr (K : PySem.W.Frag) (hG : X.A.guards = some []) (hr : Room k X.A) (hK : X.K = K := by rfl) : CallR X (.builtin "repr") (rReprD K) := by subst hK; exact call_reprD hG hr
theorem k_isi (K : PySem.W.Frag) (hK : X.K = K := by rfl) : CallR X (.builtin "isinstance") (rIsi K) := by subst hK; exact call_isi
theorem k_isiT (K : PySem.W.Frag) (hK : X.K = K := by rfl) : CallR X (.builtin "isinstance") (rIsiT K) := by subst hK; exact call_isiT
theorem k_isX {K : PySem.W.Frag} {D : Addr} (C : ExcC K D) (hK : X.K = K := by rfl) : CallR X (.builtin "isinstance") (rIsX K D) := by subst hK; exact call_isX C
theorem k_isXT {K : PySem.W.Frag} {D : Addr} (C : ExcC K D) (hK : X.K = K := by rfl) : CallR X (.builtin "isinstance") (rIsXT K D) := by subst hK; exact call_isXT C
theorem k_all (K : PySem.W.Frag) (hc : X.calm = true) (hK : X.K = K := by rfl) : CallR X (.builtin "all") (rAll K) := by subst hK; exact cr_all hc
theorem k_any (K : PySem.W.Frag) (hc : X.calm = true) (hK : X.K = K := by rfl) : CallR X (.builtin "any") (rAny K) := by subst hK; exact cr_any hc
theorem k_sum (K : PySem.W.Frag) (hc : X.calm = true) (hK : X.K = K := by rfl) : CallR X (.builtin "sum") (rSum K) := by subst hK; exact cr_sum hc
theorem k_piL (K : PySem.W.Frag) {tg l : Expr} {tl : TE} (hl : PE X l tl) (hK : X.K = K := by rfl) : PI X tg l (iList K tl) := by subst hK; exact pi_list hl
theorem k_piT (K : PySem.W.Frag) {tg l : Expr} {tl : TE} (hl : PE X l tl) (hK : X.K = K := by rfl) : PI X tg l (iTup K tl) := by subst hK; exact pi_tup hl
theorem k_piE (K : PySem.W.Frag) {e : Expr} {ta : TA} {p pos tpos : Pos} {elts : List Expr} {kk : Nat} (hg : Gl X "enumerate") (hm : X.mg "enumerate" = none) (ha : PA X [e] ta) (hs : starEach [e] X.env = [(false, eval e X.env)] := by rfl) (hK : X.K = K := by rfl) :
    PI X (.Tuple elts kk tpos) (.Call (.Name "enumerate" p) [e] [] pos) (iEnum K ta) := by subst hK; exact pi_enum hg hm ha hs
theorem k_gt (K : PySem.W.Frag) (n : Nat) {es : List Expr} {q : Nat} {t : TGs} {pos : Pos} (hc : X.calm = true) (h : PGs X es t) (hn : (assignEach es X.env).length = n := by rfl)
    (hst : (assignEach es X.env).findIdx? (·.1) = none := by rfl) (hK : X.K = K := by rfl) : PG X (.Tuple es q pos) (gTup K n t) := by subst hK; exact pg_tup hc h hn hst
end
theorem ite_1 {P Q : Prop} (h : P) : (if (true = true) then P else Q : Prop) := h
end Pm

namespace Pm
open PySem PySem.Spec PyProof.Rows L2
/-! ### what a caller holds, from the def as the top has written it -/
theorem vals_getD : ∀ {vs : List V} {us : List Value}, Vals vs us → ∀ i, RelV (vs.getD i .non) (us.getD i .none)
  | _, _, .nil, _ => rfl
  | _, _, .cons h _, 0 => h
  | _, _, .cons _ r, i + 1 => by simpa using vals_getD r i
section
variable {P : Program} {w : World} {K : PySem.W.Frag} {mg : Str → Option Value} {base : Heap} {CX : CXT} {k : Nat} {x qual : Str} {params : Arguments} {body : List Stmt} {scope : Scope} {dvs : List V} {f : Addr} {fd : FuncData} {ps : List Str} {sp : Sp}
theorem own_n (F : FunD K x qual params body scope [] [] f fd) (g : mg x = some (.ref f)) (a : FnG P w K mg base CX k f fd ps sp)
    (h : ∀ (kV doc pm : Value) (an : Option Addr) (cdv ct : Value) (us : List Value), us.length = ps.length → bindArgs (PySem.W.fnOf x qual params body scope .none kV doc pm an cdv ct) ⟨us, []⟩ = pure (ps.zip us)) : Own P w K mg base CX k x ps [] sp :=
  ⟨f, fd, [], a, g, F.kp, F.bindsN h, .nil⟩
theorem own_d (F : FunD K x qual params body scope dvs [] f fd) (g : mg x = some (.ref f)) (a : FnG P w K mg base CX k f fd ps sp) (n j : Nat) (hd : dvs ≠ []) (hn : n + (dvs.length - j) = ps.length)
    (h : ∀ (T : Addr) (kV doc pm : Value) (an : Option Addr) (cdv ct : Value) (us its : List Value), us.length = n → its.length = dvs.length →
      ∃ k, bindArgs (PySem.W.fnOf x qual params body scope (.ref T) kV doc pm an cdv ct) ⟨us, []⟩ = seqItems? (.ref T) >>= k ∧ k (some its.toArray) = pure (ps.zip (us ++ its.drop j))) : Own P w K mg base CX k x ps (dvs.drop j) sp := by
  obtain ⟨ds, h1, h2⟩ := F.binds1 n j hd hn h
  exact ⟨f, fd, ds, a, g, F.kp, h2, h1⟩
theorem ownK_d (F : FunD K x qual params body scope dvs [] f fd) (g : mg x = some (.ref f)) (a : FnG P w K mg base CX k f fd ps sp) (n : Nat) (ks : List Str) (hd : dvs ≠ [])
    (G : List Value → List Value → List Value → List Value) (GV : List V → List V → List V → List V)
    (hrel : ∀ {vs ds zs : List V} {us its ws : List Value}, Vals vs us → Vals ds its → Vals zs ws → Vals (GV vs ds zs) (G us its ws))
    (h : ∀ (T : Addr) (kV doc pm : Value) (an : Option Addr) (cdv ct : Value) (us its ws : List Value), us.length = n → its.length = dvs.length → ws.length = ks.length →
      ∃ k, bindArgs (PySem.W.fnOf x qual params body scope (.ref T) kV doc pm an cdv ct) ⟨us, ks.zip ws⟩ = seqItems? (.ref T) >>= k ∧ k (some its.toArray) = pure (ps.zip (G us its ws))) : OwnK P w K mg base CX k x ps n ks (fun vs zs => GV vs dvs zs) sp := by
  have kp := F.kp
  obtain ⟨oc, od, dV, kV, doc, pm, an, cdv, ct, osl, rfl, lk, hcd, hD, hK⟩ := F.ex
  rcases hD with ⟨e, _⟩ | ⟨_, T, o, its, m, rfl, lT, oT, rT⟩
  · exact absurd e hd
  · refine ⟨f, _, fun us ws => G us its ws, a, g, kp, ⟨fun s us ws X l1 l2 => ?_, fun r1 r2 => hrel r1 rT r2⟩⟩
    obtain ⟨k, e1, e2⟩ := h T kV doc pm an cdv ct us its ws l1 rT.length.symm l2
    refine BindsTo.of_looks fun M => ?_
    rw [e1]
    exact looks_items X lT oT (.of_pure e2)
theorem ownK_n (F : FunD K x qual params body scope [] [] f fd) (g : mg x = some (.ref f)) (a : FnG P w K mg base CX k f fd ps sp) (n : Nat) (ks : List Str)
    (G : List Value → List Value → List Value) (GV : List V → List V → List V)
    (hrel : ∀ {vs zs : List V} {us ws : List Value}, Vals vs us → Vals zs ws → Vals (GV vs zs) (G us ws))
    (h : ∀ (kV doc pm : Value) (an : Option Addr) (cdv ct : Value) (us ws : List Value), us.length = n → ws.length = ks.length →
      bindArgs (PySem.W.fnOf x qual params body scope .none kV doc pm an cdv ct) ⟨us, ks.zip ws⟩ = pure (ps.zip (G us ws))) : OwnK P w K mg base CX k x ps n ks GV sp := by
  have kp := F.kp
  obtain ⟨oc, od, dV, kV, doc, pm, an, cdv, ct, osl, rfl, lk, hcd, hD, hK⟩ := F.ex
  rcases hD with ⟨_, rfl⟩ | ⟨e, _⟩
  · exact ⟨f, _, G, a, g, kp, ⟨fun s us ws X l1 l2 => .of_eq (h kV doc pm an cdv ct us ws l1 l2), fun r1 r2 => hrel r1 r2⟩⟩
  · exact absurd rfl e
end
/-! ### showing and comparing, the bound made on the way -/
section
variable {K : PySem.W.Frag} {H : Hp} {Q : VK}
theorem OkAll.nil' : OkAll 0 0 [] := .nil
theorem OkAll.cons' {n m n' m' : Nat} {d : PyData} {ds : List PyData} (h : Ok n m d) (r : OkAll n' m' ds) : OkAll (max n n') (max m m') (d :: ds) :=
  .cons (h.mono (Nat.le_max_left ..) (Nat.le_max_left ..)) ⟨r.sh, r.cl, Nat.le_trans r.dp (Nat.le_max_right ..), fun t ht => Nat.le_trans (r.ln t ht) (Nat.le_max_right ..)⟩
theorem Ok.lst' {n m : Nat} {ds : List PyData} (h : OkAll n m ds) : Ok (n + 1) (ds.length * (m + 2) + 3) (.list ds) := .lst h (Nat.le_refl _)
theorem Ok.tup' {n m : Nat} {ds : List PyData} (h : OkAll n m ds) : Ok (n + 1) (ds.length * (m + 2) + 3) (.tuple ds) := .tup h (Nat.le_refl _)
theorem i_repr {p : Addr} {d : PyData} {n m : Nat} (h1 : Dp K H (.ref p) d) (h2 : Ok n m d) (hn : n ≤ 60) (hm : m ≤ 1000000) (h : Q (.str d.shown) H) : rReprD K [.ref p] H Q :=
  i_reprD h1 h2.sh h2.noDict (Nat.le_trans h2.dp hn) (Nat.le_trans (Nat.le_trans h2.ln hm) (by decide)) h
theorem i_neS {a b : Str} (e : a = b) (h : Q (.bl false) H) : rNeU K (.str a) (.str b) H Q := by
  subst e
  refine .inl ⟨rfl, ?_⟩
  rw [decide_eq_true rfl]
  exact h
theorem i_eqS {a b : Str} (e : a = b) (h : Q (.bl true) H) : rEqU K (.str a) (.str b) H Q := by
  subst e
  refine .inl ⟨rfl, ?_⟩
  rw [decide_eq_true rfl]
  exact h
/-- a tuple that the module holds -/
def TpK (K : PySem.W.Frag) (a : Addr) (xs : List V) : Prop := ∃ (o : Obj) (its : Array Value) (n : Nat), K.lookup a = some o ∧ o.cls = .type "tuple" ∧ o.data = .seq its n ∧ its.size ≤ sizeLine ∧ Vals xs its.toList
theorem TpK.tp {a : Addr} {xs : List V} (h : TpK K a xs) : Tp K H a xs := .inr h
theorem i_lens {vs zs : List V} {n m : Nat} {P : Prop} (h1 : vs.length = n) (h2 : zs.length = m) (h : P) : vs.length = n ∧ zs.length = m ∧ P := ⟨h1, h2, h⟩
theorem ite_0 {P Q : Prop} (h : Q) : (if (false = true) then P else Q : Prop) := h
theorem ite_n0 {P Q : Prop} (h : P) : (if ((!false) = true) then P else Q : Prop) := h
theorem ite_n1 {P Q : Prop} (h : Q) : (if ((!true) = true) then P else Q : Prop) := h
end
theorem natAbs_up {a : Int} {n m : Nat} (h : a.natAbs < 2 ^ n) (e : n ≤ m) : a.natAbs < 2 ^ m := Nat.lt_of_lt_of_le h (Nat.pow_le_pow_right (by decide) e)
theorem part_one (a : Int) : (Rat.divInt a 1).num = a ∧ ((Rat.divInt a 1).den : Int) = 1 := part_of a 1 (by decide) (by simp)
theorem dP_one (a : Int) : dP (Rat.divInt a 1) = .tuple [.int a, .int 1] := by
  unfold dP
  rw [(part_one a).1, (part_one a).2]
/-! ### the defs as the top has written them -/
section
variable {K : PySem.W.Frag} {x qual : Str} {st : Stmt} {f T : Addr} {oc oT kV doc pm cdv ct : Value} {od an odT : Option Addr} {sl slT : Array (Option Value)} {its : Array Value} {n : Nat} {dvs : List V}
theorem funD_n (l : K.lookup f = some ⟨oc, od, .func (PySem.W.fnOf x qual (defArgs st) (defBody st) (defScope st) .none kV doc pm an cdv ct), sl⟩) (c : PySem.W.codeIn K cdv qual = true) (k : PySem.W.keepIn K (.ref f) = true) :
    FunD K x qual (defArgs st) (defBody st) (defScope st) [] [] f (PySem.W.fnOf x qual (defArgs st) (defBody st) (defScope st) .none kV doc pm an cdv ct) := ⟨⟨_, _, _, _, _, _, _, _, _, _, rfl, l, c, .inl ⟨rfl, rfl⟩, .inl rfl⟩, k⟩
theorem funD_d (l : K.lookup f = some ⟨oc, od, .func (PySem.W.fnOf x qual (defArgs st) (defBody st) (defScope st) (.ref T) kV doc pm an cdv ct), sl⟩) (c : PySem.W.codeIn K cdv qual = true) (k : PySem.W.keepIn K (.ref f) = true)
    (lT : K.lookup T = some ⟨oT, odT, .seq its n, slT⟩) (r : Vals dvs its.toList) (hd : dvs ≠ []) :
    FunD K x qual (defArgs st) (defBody st) (defScope st) dvs [] f (PySem.W.fnOf x qual (defArgs st) (defBody st) (defScope st) (.ref T) kV doc pm an cdv ct) :=
  ⟨⟨_, _, _, _, _, _, _, _, _, _, rfl, l, c, .inr ⟨hd, T, _, its.toList, n, rfl, lT, by simp, r⟩, .inl rfl⟩, k⟩
theorem TpK.of {xs : List V} (lT : K.lookup T = some ⟨.type "tuple", odT, .seq its n, slT⟩) (r : Vals xs its.toList) (hl : xs.length ≤ 1000) : TpK K T xs :=
  ⟨_, its, n, lT, rfl, rfl, by have e : xs.length = its.size := (by simpa using r.length); exact Nat.le_trans (by omega) (by decide : 1000 ≤ sizeLine), r⟩
end
end Pm

namespace Pm
open PySem PySem.Spec PyProof.Rows L2
/-! ### promises at wider contexts, and two in one -/
section
variable {P : Program} {w : World} {K : PySem.W.Frag} {mg : Str → Option Value} {base : Heap} {CX : CXT} {j k : Nat} {f : Addr} {fd : FuncData} {ps : List Str} {sp sp' sp2 : Sp}
theorem FnG.any (a : FnG P w K mg base CX0 k f fd ps sp) : FnG P w K mg base CX k f fd ps sp := by
  refine ⟨a.len, fun A g o s H args us vs Q E r e b v h => codeAny_mono (a.run A g o s H args us vs Q E r e b v h) ?_⟩
  rintro (e | fl) s' hq
  · exact False.elim hq
  · cases fl <;> exact hq
end
/-! ### isinstance of values, is None, lists repeated -/
section
variable {K : PySem.W.Frag} {H : Hp} {Q : VK}
theorem i_isi {x : V} {t n : String} {b : Bool} (h1 : TyX K H x (.type t)) (h2 : kitB t n = some b) (h : Q (.bl b) H) : rIsi K [x, .ty n] H Q := ⟨x, .ty n, .type t, .type n, b, rfl, .ty n, h1, kit_ty h2, h⟩
theorem i_isN {x : V} (h : Q (.bl (decide (x = .non))) H) : rIsN x .non H Q := ⟨rfl, h⟩
theorem i_notN {x : V} (h : Q (.bl (!decide (x = .non))) H) : rNotN x .non H Q := ⟨rfl, h⟩
theorem i_ixV {p : Addr} {xs : List V} {j : Int} (h1 : SqL K H p xs) (h0 : 0 ≤ j) (hl : j < xs.length) (h : ∀ (i : Nat) (v : V), xs[i]? = some v → Q v H) : rIx K (.ref p) (.int j) H Q := by
  obtain ⟨i, rfl⟩ := Int.eq_ofNat_of_zero_le h0
  have hi : i < xs.length := by omega
  exact i_ixL h1 (atI_nat (List.getElem?_eq_getElem hi)) (h i _ (List.getElem?_eq_getElem hi))
theorem i_neB {a b : Bool} (e : a = b) (h : Q (.bl false) H) : rNeU K (.bl a) (.bl b) H Q := by
  subst e
  refine .inl ⟨rfl, ?_⟩
  rw [decide_eq_true rfl]
  exact h
theorem i_eqB {a b : Bool} (e : a = b) (h : Q (.bl true) H) : rEqU K (.bl a) (.bl b) H Q := by
  subst e
  refine .inl ⟨rfl, ?_⟩
  rw [decide_eq_true rfl]
  exact h
theorem i_rep {l : Addr} {xs : List V} {k : Int} (h1 : H l = some (.lst xs)) (h2 : 0 ≤ k) (h3 : k ≤ 100000) (h4 : xs.length ≤ 1) (h : ∀ p H', New H p → Same H H' → H' p = some (.lst (List.replicate k.toNat xs).flatten) → Q (.ref p) H') : rMulU (.ref l) (.int k) H Q := by
  refine .inr ⟨l, k, xs, rfl, rfl, h1, by omega, by omega, ?_, i_new h⟩
  have : xs.length * k.toNat ≤ 1 * k.toNat := Nat.mul_le_mul_right _ h4
  exact Nat.le_trans (by omega) (by decide : 100000 ≤ sizeLine)
end
/-! ### floors and ceilings of parts -/
theorem floor_low (x : Rat) : x.num.fdiv x.den * x.den ≤ x.num := by
  rw [Int.fdiv_eq_ediv_of_nonneg _ (Int.le_of_lt (den_gt x))]
  exact Int.ediv_mul_le _ (den_ne x)
theorem floor_high (x : Rat) : x.num < (x.num.fdiv x.den + 1) * x.den := by
  rw [Int.fdiv_eq_ediv_of_nonneg _ (Int.le_of_lt (den_gt x))]
  exact Int.lt_ediv_add_one_mul_self _ (den_gt x)
theorem ceil_high (x : Rat) : x.num ≤ (0 - (0 - x.num).fdiv x.den) * x.den := by
  rw [Int.fdiv_eq_ediv_of_nonneg _ (Int.le_of_lt (den_gt x))]
  have h := Int.ediv_mul_le (0 - x.num) (den_ne x)
  rw [Int.sub_mul]
  omega
theorem ceil_low (x : Rat) : (0 - (0 - x.num).fdiv x.den - 1) * x.den < x.num := by
  rw [Int.fdiv_eq_ediv_of_nonneg _ (Int.le_of_lt (den_gt x))]
  have h := Int.lt_ediv_add_one_mul_self (0 - x.num) (den_gt x)
  rw [Int.add_mul] at h
  rw [Int.sub_mul, Int.sub_mul]
  omega
theorem fdiv_small {a : Int} {b : Nat} {n : Nat} (hb : 0 < (b : Int)) (ha : a.natAbs < 2 ^ n) : (a.fdiv b).natAbs < 2 ^ n := by
  rw [Int.fdiv_eq_ediv_of_nonneg _ (Int.le_of_lt hb)]
  exact Nat.lt_of_le_of_lt (Int.natAbs_ediv_le_natAbs _ _) ha
theorem kb_int_int : kitB "int" "int" = some true := by decide +kernel
theorem kb_int_bool : kitB "int" "bool" = some false := by decide +kernel
theorem kb_int_tuple : kitB "int" "tuple" = some false := by decide +kernel
theorem kb_int_list : kitB "int" "list" = some false := by decide +kernel
theorem kb_int_str : kitB "int" "str" = some false := by decide +kernel
theorem kb_bool_int : kitB "bool" "int" = some true := by decide +kernel
theorem kb_bool_bool : kitB "bool" "bool" = some true := by decide +kernel
theorem kb_bool_tuple : kitB "bool" "tuple" = some false := by decide +kernel
theorem kb_bool_list : kitB "bool" "list" = some false := by decide +kernel
theorem kb_bool_str : kitB "bool" "str" = some false := by decide +kernel
theorem kb_str_int : kitB "str" "int" = some false := by decide +kernel
theorem kb_str_bool : kitB "str" "bool" = some false := by decide +kernel
theorem kb_str_tuple : kitB "str" "tuple" = some false := by decide +kernel
theorem kb_str_list : kitB "str" "list" = some false := by decide +kernel
theorem kb_str_str : kitB "str" "str" = some true := by decide +kernel
theorem kb_tuple_int : kitB "tuple" "int" = some false := by decide +kernel
theorem kb_tuple_bool : kitB "tuple" "bool" = some false := by decide +kernel
theorem kb_tuple_tuple : kitB "tuple" "tuple" = some true := by decide +kernel
theorem kb_tuple_list : kitB "tuple" "list" = some false := by decide +kernel
theorem kb_tuple_str : kitB "tuple" "str" = some false := by decide +kernel
theorem kb_list_int : kitB "list" "int" = some false := by decide +kernel
theorem kb_list_bool : kitB "list" "bool" = some false := by decide +kernel
theorem kb_list_tuple : kitB "list" "tuple" = some false := by decide +kernel
theorem kb_list_list : kitB "list" "list" = some true := by decide +kernel
theorem kb_list_str : kitB "list" "str" = some false := by decide +kernel
theorem kb_NoneType_int : kitB "NoneType" "int" = some false := by decide +kernel
theorem kb_NoneType_bool : kitB "NoneType" "bool" = some false := by decide +kernel
theorem kb_NoneType_tuple : kitB "NoneType" "tuple" = some false := by decide +kernel
theorem kb_NoneType_list : kitB "NoneType" "list" = some false := by decide +kernel
theorem kb_NoneType_str : kitB "NoneType" "str" = some false := by decide +kernel
theorem kb_dict_int : kitB "dict" "int" = some false := by decide +kernel
theorem kb_dict_bool : kitB "dict" "bool" = some false := by decide +kernel
theorem kb_dict_tuple : kitB "dict" "tuple" = some false := by decide +kernel
theorem kb_dict_list : kitB "dict" "list" = some false := by decide +kernel
theorem kb_dict_str : kitB "dict" "str" = some false := by decide +kernel
end Pm

namespace Pm
open PySem PySem.Spec PyProof.Rows L2
theorem i_dnew {σ : L2.St} {H : Hp} {Q : VK} (h : ∀ p H', New H p → Same H H' → H' p = some (.dK []) → Q (.ref p) H') : tDNewK σ H Q := i_new h
/-! ### list(..) of a list or a tuple -/
def rLstC (K : PySem.W.Frag) : List V → Hp → VK → Prop := fun xs H Q => ∃ p ys, xs = [.ref p] ∧ (SqL K H p ys ∨ SqT K H p ys) ∧ ∀ l, H l = none → Q (.ref l) (upd H l (.lst ys))
theorem k_lstC {X : Cx} (K : PySem.W.Frag) (hK : X.K = K := by rfl) : CallR X (.type "list") (rLstC K) := by subst hK; exact call_list_of
theorem i_lstC {K : PySem.W.Frag} {H : Hp} {Q : VK} {p : Addr} {xs : List V} (h1 : SqL K H p xs ∨ Tp K H p xs) (h : ∀ a H', New H a → Same H H' → H' a = some (.lst xs) → Q (.ref a) H') : rLstC K [.ref p] H Q := ⟨p, xs, rfl, h1.imp id Tp.sq, i_new h⟩
/-- one of two numbers -/
theorem ite_c {c : Bool} {x y : Int} {σ : L2.St} {H : Hp} {Q : VK} (h : ∀ z : Int, z = x ∨ z = y → Q (.int z) H) : if c = true then tC (.int x) σ H Q else tC (.int y) σ H Q := by
  cases c
  · exact h y (.inr rfl)
  · exact h x (.inl rfl)
/-! ### what stands is found from the leaf: the fact of the place first, then the way from its heap to this one -/
/-- a tuple stands -/
structure TpH (H : Hp) (p : Addr) (xs : List V) : Prop where
  eq : H p = some (.tup xs)
/-- tuples stay -/
structure Tm (H H' : Hp) : Prop where
  t : ∀ b xs, H b = some (.tup xs) → H' b = some (.tup xs)
section
variable {K : PySem.W.Frag} {H H' H1 : Hp} {m n p : Addr} {xs : List V} {Q : VK}
theorem Tm.refl (H : Hp) : Tm H H := ⟨fun _ _ h => h⟩
theorem Tm.same (e : Same H H') : Tm H H' := ⟨fun b xs h => e b _ h⟩
theorem Tm.fx (e : Fx m n H H') : Tm H H' := ⟨fun b xs h => e.tup b xs h⟩
theorem Tm.trans (a : Tm H H1) (b : Tm H1 H') : Tm H H' := ⟨fun c xs h => b.t c xs (a.t c xs h)⟩
theorem Tp.tm (h : Tp K H p xs) (e : Tm H H') : Tp K H' p xs := h.elim (fun h => .inl (e.t _ _ h)) .inr
theorem TpH.tm (h : TpH H p xs) (e : Tm H H') : Tp K H' p xs := .inl (e.t _ _ h.eq)
theorem i_newTH {xs : List V} (hl : xs.length ≤ 100000) (h : ∀ p H', New H p → Same H H' → TpH H' p xs → Q (.ref p) H') : NewT xs H Q :=
  ⟨Nat.le_trans hl (by decide), fun p hp => h p _ hp (same_new hp) ⟨upd_same⟩⟩
end
/-! ### defs with keyword-only defaults -/
section
variable {P : Program} {w : World} {K : PySem.W.Frag} {mg : Str → Option Value} {base : Heap} {CX : CXT} {k : Nat} {x qual : Str} {params : Arguments} {body : List Stmt} {scope : Scope} {kws : List (Str × V)} {f : Addr} {fd : FuncData} {ps : List Str} {sp : Sp}
theorem funD_k {st : Stmt} {D : Addr} {oc doc pm cdv ct : Value} {od an : Option Addr} {sl : Array (Option Value)} (l : K.lookup f = some ⟨oc, od, .func (PySem.W.fnOf x qual (defArgs st) (defBody st) (defScope st) .none (.ref D) doc pm an cdv ct), sl⟩) (c : PySem.W.codeIn K cdv qual = true) (k : PySem.W.keepIn K (.ref f) = true)
    (h : ∀ q ∈ kws, ∃ u, PySem.W.nsIn K D q.1 = some (some u) ∧ RelV q.2 u) :
    FunD K x qual (defArgs st) (defBody st) (defScope st) [] kws f (PySem.W.fnOf x qual (defArgs st) (defBody st) (defScope st) .none (.ref D) doc pm an cdv ct) := ⟨⟨_, _, _, _, _, _, _, _, _, _, rfl, l, c, .inl ⟨rfl, rfl⟩, .inr ⟨D, rfl, h⟩⟩, k⟩
/-- all keyword-only ones lack -/
theorem own_k (F : FunD K x qual params body scope [] kws f fd) (g : mg x = some (.ref f)) (a : FnG P w K mg base CX k f fd ps sp) (n : Nat) (hk : kws ≠ []) (hn : n + kws.length = ps.length)
    (h : ∀ (D : Addr) (doc pm : Value) (an : Option Addr) (cdv ct : Value) (us ks : List Value), us.length = n → ks.length = kws.length →
      KwChain D ((kws.map (·.1)).zip ks) (bindArgs (PySem.W.fnOf x qual params body scope .none (.ref D) doc pm an cdv ct) ⟨us, []⟩) (ps.zip (us ++ ks))) : Own P w K mg base CX k x ps (kws.map (·.2)) sp := by
  obtain ⟨ds, h1, h2⟩ := F.binds0 n hk hn h
  exact ⟨f, fd, ds, a, g, F.kp, h2, h1⟩
/-- n by place, the names ks by keyword; ms: those that lack -/
theorem ownK_k (F : FunD K x qual params body scope [] kws f fd) (g : mg x = some (.ref f)) (a : FnG P w K mg base CX k f fd ps sp) (n : Nat) (ks : List Str) (ms : List (Str × V)) (hk : kws ≠ []) (hms : ∀ q ∈ ms, q ∈ kws)
    (G : List Value → List Value → List Value → List Value) (GV : List V → List V → List V → List V)
    (hrel : ∀ {vs mz zs : List V} {us mv ws : List Value}, Vals vs us → Vals mz mv → Vals zs ws → Vals (GV vs mz zs) (G us mv ws))
    (h : ∀ (D : Addr) (doc pm : Value) (an : Option Addr) (cdv ct : Value) (us mv ws : List Value), us.length = n → mv.length = ms.length → ws.length = ks.length →
      KwChain D ((ms.map (·.1)).zip mv) (bindArgs (PySem.W.fnOf x qual params body scope .none (.ref D) doc pm an cdv ct) ⟨us, ks.zip ws⟩) (ps.zip (G us mv ws))) : OwnK P w K mg base CX k x ps n ks (fun vs zs => GV vs (ms.map (·.2)) zs) sp := by
  have kp := F.kp
  obtain ⟨oc, od, dV, kV, doc, pm, an, cdv, ct, osl, rfl, lk, hcd, hD, hK⟩ := F.ex
  rcases hD with ⟨_, rfl⟩ | ⟨e, _⟩
  · rcases hK with e | ⟨D, rfl, hq⟩
    · exact absurd e hk
    · obtain ⟨mv, hl, rk, hks⟩ := kwd_vals (ms := ms) fun q hm => hq q (hms q hm)
      exact ⟨f, _, fun us ws => G us mv ws, a, g, kp, ⟨fun s us ws X l1 l2 => BindsTo.of_looks fun M => KwChain.looks X hks (h D doc pm an cdv ct us mv ws l1 hl l2), fun r1 r2 => hrel r1 rk r2⟩⟩
  · exact absurd rfl e
end
end Pm

namespace Pm
open PySem PySem.Spec PyProof.Rows L2
/-! ### parts over a common bottom -/
theorem rat_mul_den (q : Rat) : q * (q.den : Rat) = (q.num : Rat) := by
  have h : Rat.divInt q.num q.den = q := Rat.num_divInt_den q
  rw [Rat.divInt_eq_div, Rat.intCast_natCast] at h
  have d : (q.den : Rat) ≠ 0 := by
    have := q.den_nz
    exact_mod_cast this
  have e := Rat.div_mul_cancel (a := (q.num : Rat)) d
  rw [h] at e
  exact e
theorem den_dvd_iff {q : Rat} {D : Nat} : q.den ∣ D ↔ ∃ z : Int, q * (D : Rat) = (z : Rat) := by
  constructor
  · rintro ⟨k, rfl⟩
    refine ⟨q.num * k, ?_⟩
    have h := rat_mul_den q
    have e : ((q.den * k : Nat) : Rat) = (q.den : Rat) * (k : Rat) := by simp
    have e2 : ((q.num * (k : Int) : Int) : Rat) = (q.num : Rat) * (k : Rat) := by rw [Rat.intCast_mul, Rat.intCast_natCast]
    rw [e, e2, ← h]
    grind
  · rintro ⟨z, hz⟩
    have h := rat_mul_den q
    have h2 : (q.num : Rat) * (D : Rat) = (z : Rat) * (q.den : Rat) := by rw [← h, ← hz]; grind
    have h3 : ((q.num * (D : Int) : Int) : Rat) = ((z * (q.den : Int) : Int) : Rat) := by simp only [Rat.intCast_mul, Rat.intCast_natCast]; exact h2
    have h4 : q.num * (D : Int) = z * (q.den : Int) := Rat.intCast_inj.mp h3
    have h5 : q.den ∣ q.num.natAbs * D := ⟨z.natAbs, by
      have := congrArg Int.natAbs h4
      rw [Int.natAbs_mul, Int.natAbs_mul, Int.natAbs_natCast, Int.natAbs_natCast] at this
      rw [this, Nat.mul_comm]⟩
    exact (Nat.Coprime.symm q.reduced).dvd_of_dvd_mul_left h5
theorem dd_add {p q : Rat} {D : Nat} (hp : p.den ∣ D) (hq : q.den ∣ D) : (p + q).den ∣ D := by
  obtain ⟨a, ha⟩ := den_dvd_iff.mp hp
  obtain ⟨b, hb⟩ := den_dvd_iff.mp hq
  refine den_dvd_iff.mpr ⟨a + b, ?_⟩
  rw [Rat.intCast_add, ← ha, ← hb]
  grind
theorem dd_sub {p q : Rat} {D : Nat} (hp : p.den ∣ D) (hq : q.den ∣ D) : (p - q).den ∣ D := by
  obtain ⟨a, ha⟩ := den_dvd_iff.mp hp
  obtain ⟨b, hb⟩ := den_dvd_iff.mp hq
  refine den_dvd_iff.mpr ⟨a - b, ?_⟩
  rw [Rat.intCast_sub, ← ha, ← hb]
  grind
theorem dd_mul {p q : Rat} {D E : Nat} (hp : p.den ∣ D) (hq : q.den ∣ E) : (p * q).den ∣ D * E := by
  obtain ⟨a, ha⟩ := den_dvd_iff.mp hp
  obtain ⟨b, hb⟩ := den_dvd_iff.mp hq
  refine den_dvd_iff.mpr ⟨a * b, ?_⟩
  rw [Rat.intCast_mul, ← ha, ← hb, Rat.natCast_mul]
  grind
theorem den_divInt_dvd {a b : Int} (h : b ≠ 0) : (Rat.divInt a b).den ∣ b.natAbs := by
  rw [Rat.den_divInt, if_neg h]
  exact Nat.div_dvd_of_dvd (Nat.gcd_dvd_left _ _)
/-- a bottom that divides D, worth from -B to B -/
def Dv (D B : Nat) (q : Rat) : Prop := q.den ∣ D ∧ -(B : Rat) ≤ q ∧ q ≤ (B : Rat)
theorem Dv.up {D B E C : Nat} {q : Rat} (h : Dv D B q) (e : D ∣ E) (b : B ≤ C) : Dv E C q := by
  have b' : (B : Rat) ≤ (C : Rat) := by exact_mod_cast b
  exact ⟨Nat.dvd_trans h.1 e, by have := h.2.1; grind, by have := h.2.2; grind⟩
theorem Dv.add {D B C : Nat} {p q : Rat} (hp : Dv D B p) (hq : Dv D C q) : Dv D (B + C) (p + q) := by
  obtain ⟨h1, h2, h3⟩ := hp
  obtain ⟨h4, h5, h6⟩ := hq
  refine ⟨dd_add h1 h4, ?_, ?_⟩ <;> rw [Rat.natCast_add] <;> grind
theorem Dv.sub {D B C : Nat} {p q : Rat} (hp : Dv D B p) (hq : Dv D C q) : Dv D (B + C) (p - q) := by
  obtain ⟨h1, h2, h3⟩ := hp
  obtain ⟨h4, h5, h6⟩ := hq
  refine ⟨dd_sub h1 h4, ?_, ?_⟩ <;> rw [Rat.natCast_add] <;> grind
theorem abs_mul_le {p q b c : Rat} (h2 : -b ≤ p) (h3 : p ≤ b) (h5 : -c ≤ q) (h6 : q ≤ c) : -(b * c) ≤ p * q ∧ p * q ≤ b * c := by
  have a1 := Rat.mul_nonneg (a := b - p) (b := c + q) (by grind) (by grind)
  have a2 := Rat.mul_nonneg (a := b + p) (b := c - q) (by grind) (by grind)
  have a3 := Rat.mul_nonneg (a := b - p) (b := c - q) (by grind) (by grind)
  have a4 := Rat.mul_nonneg (a := b + p) (b := c + q) (by grind) (by grind)
  constructor <;> grind
theorem Dv.mul {D B E C : Nat} {p q : Rat} (hp : Dv D B p) (hq : Dv E C q) : Dv (D * E) (B * C) (p * q) := by
  obtain ⟨h1, h2, h3⟩ := hp
  obtain ⟨h4, h5, h6⟩ := hq
  have := abs_mul_le h2 h3 h5 h6
  refine ⟨dd_mul h1 h4, ?_, ?_⟩ <;> rw [Rat.natCast_mul]
  · exact this.1
  · exact this.2
theorem num_le_of {q : Rat} {B : Nat} (h1 : -(B : Rat) ≤ q) (h2 : q ≤ (B : Rat)) : q.num.natAbs ≤ B * q.den := by
  have d0 : (0 : Rat) ≤ (q.den : Rat) := by exact_mod_cast Nat.zero_le _
  have e := rat_mul_den q
  have a1 : (q.num : Rat) ≤ ((B * q.den : Nat) : Rat) := by
    rw [← e, Rat.natCast_mul]
    exact Rat.mul_le_mul_of_nonneg_right h2 d0
  have a2 : -((B * q.den : Nat) : Rat) ≤ (q.num : Rat) := by
    rw [← e, Rat.natCast_mul]
    have := Rat.mul_le_mul_of_nonneg_right h1 d0
    grind
  have b1 : q.num ≤ ((B * q.den : Nat) : Int) := by exact_mod_cast a1
  have b2 : -((B * q.den : Nat) : Int) ≤ q.num := by
    rw [← Rat.intCast_le_intCast, Rat.intCast_neg, Rat.intCast_natCast]
    exact a2
  omega
theorem Dv.bd {D B n : Nat} {q : Rat} (h : Dv D B q) (h0 : 0 < D) (h1 : D < 2 ^ n) (h2 : B * D < 2 ^ n) : Bd n q := by
  have hd := Nat.le_of_dvd h0 h.1
  refine ⟨?_, by omega⟩
  have := num_le_of h.2.1 h.2.2
  have : B * q.den ≤ B * D := Nat.mul_le_mul_left _ hd
  omega
theorem Bd.dv {n : Nat} {q : Rat} (h : Bd n q) : Dv q.den (2 ^ n) q := by
  refine ⟨Nat.dvd_refl _, ?_, ?_⟩
  all_goals
    have d1 : 1 ≤ q.den := q.den_pos
    have h1 := h.1
    have e := rat_mul_den q
    have d0 : (1 : Rat) ≤ (q.den : Rat) := by exact_mod_cast d1
    have h3 : (q.num : Rat) ≤ ((2 ^ n : Nat) : Rat) := by
      have : q.num ≤ ((2 ^ n : Nat) : Int) := by omega
      exact_mod_cast this
    have h4 : -((2 ^ n : Nat) : Rat) ≤ (q.num : Rat) := by
      have : -((2 ^ n : Nat) : Int) ≤ q.num := by omega
      rw [← Rat.intCast_le_intCast, Rat.intCast_neg, Rat.intCast_natCast] at this
      exact this
    have n0 : (0 : Rat) ≤ ((2 ^ n : Nat) : Rat) := by exact_mod_cast Nat.zero_le _
    generalize ((2 ^ n : Nat) : Rat) = N at *
    generalize hd : (q.den : Rat) = d at *
  · rcases (Rat.le_total : -N ≤ q ∨ q ≤ -N) with c | c
    · exact c
    · have := Rat.mul_nonneg (show (0 : Rat) ≤ -N - q by grind) (show (0 : Rat) ≤ d - 1 by grind)
      have := Rat.mul_nonneg n0 (show (0 : Rat) ≤ d - 1 by grind)
      grind
  · rcases (Rat.le_total : q ≤ N ∨ N ≤ q) with c | c
    · exact c
    · have := Rat.mul_nonneg (show (0 : Rat) ≤ q - N by grind) (show (0 : Rat) ≤ d - 1 by grind)
      have := Rat.mul_nonneg n0 (show (0 : Rat) ≤ d - 1 by grind)
      grind
theorem num_pos_iff {q : Rat} : 0 < q.num ↔ 0 < q := by
  rw [Rat.lt_iff]
  simp
theorem num_nonpos_iff {q : Rat} : q.num ≤ 0 ↔ q ≤ 0 := by
  rw [Rat.le_iff]
  simp
theorem num_nonneg_iff {q : Rat} : 0 ≤ q.num ↔ 0 ≤ q := Rat.num_nonneg
theorem num_le_den_iff {q : Rat} : q.num ≤ (q.den : Int) ↔ q ≤ 1 := by
  rw [Rat.le_iff]
  simp
end Pm

namespace Pm
open PySem PySem.Spec PyProof.Rows L2
/-! ### deep data of tuples: they stay whatever lists do -/
inductive TD (K : PySem.W.Frag) (H : Hp) : V → PyData → Prop
  | int (i : Int) : TD K H (.int i) (.int i)
  | bl (b : Bool) : TD K H (.bl b) (.bool b)
  | non : TD K H .non .none
  | str (z : Str) : TD K H (.str z) (.str z)
  | tup {p : Addr} {xs : List V} {ds : List PyData} (h : Tp K H p xs) (l : xs.length = ds.length) (a : ∀ (i : Nat) (h1 : i < xs.length) (h2 : i < ds.length), TD K H xs[i] ds[i]) : TD K H (.ref p) (.tuple ds)
/-- a row of values that stand for data -/
structure TL (K : PySem.W.Frag) (H : Hp) (xs : List V) (ds : List PyData) : Prop where
  len : xs.length = ds.length
  at_ : ∀ (i : Nat) (h1 : i < xs.length) (h2 : i < ds.length), TD K H xs[i] ds[i]
section
variable {K : PySem.W.Frag} {H H' : Hp} {v x y z : V} {p : Addr} {xs : List V} {d : PyData} {ds : List PyData}
theorem TD.tm (h : TD K H v d) (e : Tm H H') : TD K H' v d := by
  induction h with
  | int i => exact .int i
  | bl b => exact .bl b
  | non => exact .non
  | str z => exact .str z
  | tup h l a ih => exact .tup (h.tm e) l fun i h1 h2 => ih i h1 h2
theorem TL.tm (h : TL K H xs ds) (e : Tm H H') : TL K H' xs ds := ⟨h.len, fun i h1 h2 => (h.at_ i h1 h2).tm e⟩
theorem TL.nil : TL K H [] [] := ⟨rfl, fun i h1 _ => absurd h1 (Nat.not_lt_zero _)⟩
theorem TL.cons (h : TD K H v d) (r : TL K H xs ds) : TL K H (v :: xs) (d :: ds) := ⟨by simp [r.len], fun i h1 h2 => by
  cases i with
  | zero => exact h
  | succ i => exact r.at_ i (by simpa using h1) (by simpa using h2)⟩
theorem TL.snoc (r : TL K H xs ds) (h : TD K H v d) : TL K H (xs ++ [v]) (ds ++ [d]) := ⟨by simp [r.len], fun i h1 h2 => by
  have l := r.len
  by_cases c : i < xs.length
  · rw [List.getElem_append_left c, List.getElem_append_left (by omega)]
    exact r.at_ i c (by omega)
  · simp at h1
    have e : i = xs.length := by omega
    have e2 : i = ds.length := by omega
    rw [List.getElem_append_right (by omega), List.getElem_append_right (by omega)]
    simpa using h⟩
theorem TL.append {ys : List V} {es : List PyData} (r : TL K H xs ds) (h : TL K H ys es) : TL K H (xs ++ ys) (ds ++ es) := ⟨by simp [r.len, h.len], fun i h1 h2 => by
  have l := r.len
  by_cases c : i < xs.length
  · rw [List.getElem_append_left c, List.getElem_append_left (by omega)]
    exact r.at_ i c (by omega)
  · rw [List.getElem_append_right (by omega), List.getElem_append_right (by omega)]
    have e : i - xs.length = i - ds.length := by omega
    simp at h1 h2
    have := h.at_ (i - xs.length) (by omega) (by omega)
    simp only [e] at this ⊢
    exact this⟩
theorem TL.get (r : TL K H xs ds) {i : Nat} (h : xs[i]? = some v) : ∃ d, ds[i]? = some d ∧ TD K H v d := by
  obtain ⟨h1, rfl⟩ := List.getElem?_eq_some_iff.mp h
  have l := r.len
  exact ⟨ds[i], List.getElem?_eq_getElem (by omega), r.at_ i h1 (by omega)⟩
theorem TL.to (r : TL K H xs ds) {i : Nat} (h : ds[i]? = some d) : ∃ v, xs[i]? = some v ∧ TD K H v d := by
  obtain ⟨h1, rfl⟩ := List.getElem?_eq_some_iff.mp h
  have l := r.len
  exact ⟨xs[i], List.getElem?_eq_getElem (by omega), r.at_ i (by omega) h1⟩
theorem TD.of (h : Tp K H p xs) (r : TL K H xs ds) : TD K H (.ref p) (.tuple ds) := .tup h r.len r.at_
theorem TD.inv (h : TD K H v (.tuple ds)) : ∃ p xs, v = .ref p ∧ Tp K H p xs ∧ TL K H xs ds := by
  cases h with
  | tup h l a => exact ⟨_, _, rfl, h, l, a⟩
theorem TD.inv_int {i : Int} (h : TD K H v (.int i)) : v = .int i := by cases h; rfl
theorem TD.inv_bool {b : Bool} (h : TD K H v (.bool b)) : v = .bl b := by cases h; rfl
theorem TD.inv_none (h : TD K H v .none) : v = .non := by cases h; rfl
theorem TL.inv1 (r : TL K H xs [d]) : ∃ x, xs = [x] ∧ TD K H x d := by
  have l := r.len
  match xs, l with
  | [x], _ => exact ⟨x, rfl, r.at_ 0 (by simp) (by simp)⟩
theorem TL.inv2 {d e : PyData} (r : TL K H xs [d, e]) : ∃ x y, xs = [x, y] ∧ TD K H x d ∧ TD K H y e := by
  have l := r.len
  match xs, l with
  | [x, y], _ => exact ⟨x, y, rfl, r.at_ 0 (by simp) (by simp), r.at_ 1 (by simp) (by simp)⟩
theorem TL.inv3 {d e f : PyData} (r : TL K H xs [d, e, f]) : ∃ x y z, xs = [x, y, z] ∧ TD K H x d ∧ TD K H y e ∧ TD K H z f := by
  have l := r.len
  match xs, l with
  | [x, y, z], _ => exact ⟨x, y, z, rfl, r.at_ 0 (by simp) (by simp), r.at_ 1 (by simp) (by simp), r.at_ 2 (by simp) (by simp)⟩
theorem dpAll_of : ∀ {xs : List V} {ds : List PyData}, xs.length = ds.length → (∀ (i : Nat) (h1 : i < xs.length) (h2 : i < ds.length), Dp K H xs[i] ds[i]) → DpAll K H xs ds
  | [], [], _, _ => .nil
  | x :: xs, d :: ds, l, a => .cons (a 0 (by simp) (by simp)) (dpAll_of (by simpa using l) fun i h1 h2 => a (i + 1) (by simpa using h1) (by simpa using h2))
theorem TD.dp (h : TD K H v d) : Dp K H v d := by
  induction h with
  | int i => exact .int i
  | bl b => exact .bl b
  | non => exact .non
  | str z => exact .str z
  | tup h l a ih => exact .tup h.sq (dpAll_of l ih)
theorem TL.dp (r : TL K H xs ds) : DpAll K H xs ds := dpAll_of r.len fun i h1 h2 => (r.at_ i h1 h2).dp
/-! shape and length of rows -/
theorem ShAll.all {n : Nat} : ∀ {ds : List PyData}, (∀ d ∈ ds, Sh n d) → ShAll n ds
  | [], _ => .nil
  | d :: ds, h => .cons (h d (List.mem_cons_self ..)) (ShAll.all fun e he => h e (List.mem_cons_of_mem _ he))
theorem OkAll.all {n m : Nat} : ∀ {ds : List PyData}, (∀ d ∈ ds, Ok n m d) → OkAll n m ds
  | [], _ => .nil
  | d :: ds, h => .cons (h d (List.mem_cons_self ..)) (OkAll.all fun e he => h e (List.mem_cons_of_mem _ he))
theorem i_reprW {p : Addr} {n m : Nat} {Q : VK} (h1 : Dp K H (.ref p) d) (h2 : Ok n m d) (hn : n ≤ 60) (hm : m ≤ 16000000) (h : Q (.str d.shown) H) : rReprD K [.ref p] H Q :=
  i_reprD h1 h2.sh h2.noDict (Nat.le_trans h2.dp hn) (Nat.le_trans (Nat.le_trans h2.ln hm) (by decide)) h
/-! data alike -/
theorem eqvAll_refl : ∀ {ds : List PyData}, (∀ d ∈ ds, PyData.eqv d d = true) → PyData.eqvAll ds ds = true
  | [], _ => by simp only [PyData.eqvAll]
  | d :: ds, h => by
    simp only [PyData.eqvAll, h d (List.mem_cons_self ..), eqvAll_refl fun e he => h e (List.mem_cons_of_mem _ he), Bool.and_self]
theorem eqv_refl_tup (h : ∀ d ∈ ds, PyData.eqv d d = true) : PyData.eqv (.tuple ds) (.tuple ds) = true := by simp only [PyData.eqv, eqvAll_refl h]
theorem eqv_refl_lst (h : ∀ d ∈ ds, PyData.eqv d d = true) : PyData.eqv (.list ds) (.list ds) = true := by simp only [PyData.eqv, eqvAll_refl h]
theorem eqv_refl_P (q : Rat) : PyData.eqv (dP q) (dP q) = true := by rw [eqv_P, decide_eq_true rfl]
theorem eqv_refl_int (i : Int) : PyData.eqv (.int i) (.int i) = true := by simp [PyData.eqv]
theorem eqvAll_P : ∀ ps qs : List Rat, PyData.eqvAll (ps.map dP) (qs.map dP) = decide (ps = qs)
  | [], [] => by simp [PyData.eqvAll]
  | [], q :: qs => by simp [PyData.eqvAll]
  | p :: ps, [] => by simp [PyData.eqvAll]
  | p :: ps, q :: qs => by
    rw [List.map_cons, List.map_cons]
    simp only [PyData.eqvAll, eqv_P, eqvAll_P ps qs]
    rw [Bool.eq_iff_iff]
    simp
theorem eqv_list_nil (d : PyData) (ds : List PyData) : PyData.eqv (.list (d :: ds)) (.list []) = false := by simp [PyData.eqv, PyData.eqvAll]
end
end Pm

namespace Pm
open PySem PySem.Spec PyProof.Rows L2
/-! ### payments, plain -/
structure Row where
  now : Rat
  inall : Rat
  debt : Rat
def dRow (r : Row) : PyData := .tuple [dP r.now, dP r.inall, dP r.debt]
def payNext (x : Rat) (r : Row) (t l : Rat) : Row :=
  if t - l ≤ 0 then ⟨0, r.inall, r.debt - (t - l)⟩
  else if r.debt < x * (t - l) then ⟨t - l - r.debt, r.inall + (t - l - r.debt), r.debt - r.debt⟩
  else ⟨t - l - x * (t - l), r.inall + (t - l - x * (t - l)), r.debt - x * (t - l)⟩
def tot (qs : List Rat) : Nat → Rat
  | 0 => 0
  | i + 1 => qs.getD i 0
def rowAt (x : Rat) (qs : List Rat) : Nat → Row
  | 0 => ⟨0, 0, 0⟩
  | i + 1 => payNext x (rowAt x qs i) (tot qs (i + 1)) (tot qs i)
def rowsTo (x : Rat) (qs : List Rat) (i : Nat) : List Row := (List.range i).map fun j => rowAt x qs (j + 1)
theorem rowsTo_zero (x : Rat) (qs : List Rat) : rowsTo x qs 0 = [] := rfl
theorem rowsTo_succ (x : Rat) (qs : List Rat) (i : Nat) : rowsTo x qs (i + 1) = rowsTo x qs i ++ [rowAt x qs (i + 1)] := by
  unfold rowsTo
  rw [List.range_succ, List.map_append]
  rfl
theorem rowsTo_len (x : Rat) (qs : List Rat) (i : Nat) : (rowsTo x qs i).length = i := by simp [rowsTo]
/-- a share -/
structure Shr (E : Nat) (x : Rat) : Prop where
  d : x.den ∣ E
  x0 : 0 < x
  x1 : x ≤ 1
structure RowOk (D E B C : Nat) (r : Row) : Prop where
  now : Dv (D * E) (2 * B) r.now
  now0 : 0 ≤ r.now
  inall : Dv (D * E) C r.inall
  debt : Dv (D * E) C r.debt
  debt0 : 0 ≤ r.debt
theorem Shr.fold {E : Nat} {x n : Rat} (h : Shr E x) (hn : 0 < n) : 0 ≤ x * n ∧ x * n ≤ n := by
  have := Rat.mul_nonneg (show 0 ≤ x by have := h.x0; grind) (show 0 ≤ n by grind)
  have := Rat.mul_nonneg (show 0 ≤ 1 - x by have := h.x1; grind) (show 0 ≤ n by grind)
  constructor <;> grind
theorem Shr.dv {E : Nat} {x : Rat} (h : Shr E x) : Dv E 1 x := ⟨h.d, by have := h.x0; grind, by have := h.x1; grind⟩
theorem dv_zero (D B : Nat) : Dv D B 0 := by
  have : (0 : Rat) ≤ (B : Rat) := by exact_mod_cast Nat.zero_le _
  exact ⟨Nat.one_dvd _, by grind, by grind⟩
theorem next_ok {D E B C : Nat} {x t l : Rat} {r : Row} (hx : Shr E x) (ht : Dv D B t) (hl : Dv D B l) (h : RowOk D E B C r) : RowOk D E B (C + 2 * B) (payNext x r t l) := by
  have hn : Dv D (2 * B) (t - l) := by
    have := ht.sub hl
    rwa [show B + B = 2 * B by omega] at this
  have hn2 : Dv (D * E) (2 * B) (t - l) := hn.up (Nat.dvd_mul_right ..) (Nat.le_refl _)
  have z2 : Dv (D * E) (2 * B) 0 := dv_zero _ _
  unfold payNext
  by_cases c : t - l ≤ 0
  · rw [if_pos c]
    refine ⟨z2, by grind, h.inall.up (Nat.dvd_refl _) (by omega), h.debt.sub hn2, ?_⟩
    have := h.debt0
    grind
  · rw [if_neg c]
    have hk := hx.fold (n := t - l) (by grind)
    have hk2 : Dv (D * E) (2 * B) (x * (t - l)) := by
      have := hx.dv.mul hn
      rwa [Nat.mul_comm E D, Nat.one_mul] at this
    have e2 : ((2 * B : Nat) : Rat) = ((2 * B : Nat) : Rat) := rfl
    have hn3 := hn2.2
    have key : ∀ k : Rat, 0 ≤ k → k ≤ t - l → k.den ∣ D * E → k ≤ r.debt → RowOk D E B (C + 2 * B) ⟨t - l - k, r.inall + (t - l - k), r.debt - k⟩ := by
      intro k k0 k1 kd k2
      have kD : Dv (D * E) (2 * B) k := ⟨kd, by grind, by grind⟩
      have nD : Dv (D * E) (2 * B) (t - l - k) := ⟨dd_sub hn2.1 kd, by grind, by grind⟩
      exact ⟨nD, by grind, h.inall.add nD, h.debt.sub kD, by grind⟩
    by_cases c2 : r.debt < x * (t - l)
    · rw [if_pos c2]
      exact key r.debt h.debt0 (by grind) h.debt.1 (by grind)
    · rw [if_neg c2]
      exact key (x * (t - l)) hk.1 hk.2 hk2.1 (by grind)
theorem tot_ok {D B : Nat} {qs : List Rat} (h : ∀ q ∈ qs, Dv D B q) : ∀ i, i ≤ qs.length → Dv D B (tot qs i)
  | 0, _ => dv_zero _ _
  | i + 1, hi => by
    have e : tot qs (i + 1) = qs[i] := by simp [tot, List.getD_eq_getElem?_getD, List.getElem?_eq_getElem (show i < qs.length by omega)]
    rw [e]
    exact h _ (List.getElem_mem _)
theorem row_ok {D E B : Nat} {x : Rat} {qs : List Rat} (hx : Shr E x) (h : ∀ q ∈ qs, Dv D B q) : ∀ i, i ≤ qs.length → RowOk D E B (i * (2 * B)) (rowAt x qs i)
  | 0, _ => by
    have z : ∀ C : Nat, Dv (D * E) C 0 := fun C => dv_zero _ _
    exact ⟨z _, Rat.le_refl, z _, z _, Rat.le_refl⟩
  | i + 1, hi => by
    have := next_ok hx (tot_ok h (i + 1) hi) (tot_ok h i (by omega)) (row_ok hx h i (by omega))
    rwa [show i * (2 * B) + 2 * B = (i + 1) * (2 * B) by rw [Nat.add_mul, Nat.one_mul]] at this
/-- how great it all may be -/
structure Lim (D E : Nat) : Prop where
  p : 0 < D * E
  l : D * E * 2 ^ 40 < 2 ^ 1900
theorem Lim.bd {D E B : Nat} {q : Rat} (L : Lim D E) (h : Dv (D * E) B q) (hB : B ≤ 2 ^ 40) : Bd 1900 q := by
  refine h.bd L.p ?_ ?_
  · have := L.l
    have := Nat.le_mul_of_pos_right (D * E) (show 0 < 2 ^ 40 by decide)
    omega
  · rw [Nat.mul_comm B]
    exact Nat.lt_of_le_of_lt (Nat.mul_le_mul_left _ hB) L.l
theorem Lim.bdL {D E B : Nat} {q : Rat} (L : Lim D E) (h : Dv D B q) (hB : B ≤ 2 ^ 40) : Bd 1900 q := L.bd (h.up (Nat.dvd_mul_right ..) (Nat.le_refl _)) hB
theorem Lim.bdR {D E B : Nat} {q : Rat} (L : Lim D E) (h : Dv E B q) (hB : B ≤ 2 ^ 40) : Bd 1900 q := L.bd (h.up (Nat.dvd_mul_left ..) (Nat.le_refl _)) hB
theorem ok_row {r : Row} (h1 : Bd 1900 r.now) (h2 : Bd 1900 r.inall) (h3 : Bd 1900 r.debt) : Ok 2 12100 (dRow r) :=
  (Ok.tup' (.cons' (ok_P (h1.mono (by decide))) (.cons' (ok_P (h2.mono (by decide))) (.cons' (ok_P (h3.mono (by decide))) .nil')))).mono (by decide) (Nat.le_of_ble_eq_true rfl)
theorem sh_row (r : Row) : Sh 2 (dRow r) := .tup (.cons (sh_P (n := 0) _) (.cons (sh_P (n := 0) _) (.cons (sh_P (n := 0) _) .nil)))
theorem eqv_refl_row (r : Row) : PyData.eqv (dRow r) (dRow r) = true := eqv_refl_tup fun d hd => by
  simp only [List.mem_cons, List.not_mem_nil, or_false] at hd
  rcases hd with rfl | rfl | rfl <;> exact eqv_refl_P _
def dRows (rs : List Row) : PyData := .tuple (rs.map dRow)
theorem sh_rows (rs : List Row) : Sh 3 (dRows rs) := .tup (.all fun d hd => by
  obtain ⟨r, _, rfl⟩ := List.mem_map.mp hd
  exact sh_row r)
theorem eqv_refl_rows (rs : List Row) : PyData.eqv (dRows rs) (dRows rs) = true := eqv_refl_tup fun d hd => by
  obtain ⟨r, _, rfl⟩ := List.mem_map.mp hd
  exact eqv_refl_row r
theorem rows_bd {D E B : Nat} {x : Rat} {qs : List Rat} (L : Lim D E) (hx : Shr E x) (h : ∀ q ∈ qs, Dv D B q) (hl : qs.length ≤ 122) (hB : B ≤ 2 ^ 30) : ∀ i, i ≤ qs.length → Bd 1900 (rowAt x qs i).now ∧ Bd 1900 (rowAt x qs i).inall ∧ Bd 1900 (rowAt x qs i).debt := fun i hi => by
  have r := row_ok hx h i hi
  have b : i * (2 * B) ≤ 2 ^ 40 := by
    have := Nat.mul_le_mul (show i ≤ 122 by omega) (show 2 * B ≤ 2 ^ 31 by omega)
    exact Nat.le_trans this (by decide)
  exact ⟨L.bd r.now (by omega), L.bd r.inall b, L.bd r.debt b⟩
theorem ok_rows {D E B : Nat} {x : Rat} {qs : List Rat} (L : Lim D E) (hx : Shr E x) (h : ∀ q ∈ qs, Dv D B q) (hl : qs.length ≤ 122) (hB : B ≤ 2 ^ 30) : Ok 3 1500000 (dRows (rowsTo x qs qs.length)) := by
  refine (Ok.tup (n := 2) (m := 12100) (k := 122) (.all fun d hd => ?_) ?_).mono (by decide) (by decide)
  · obtain ⟨r, hr, rfl⟩ := List.mem_map.mp hd
    obtain ⟨j, hj, rfl⟩ := List.mem_map.mp hr
    obtain ⟨b1, b2, b3⟩ := rows_bd L hx h hl hB (j + 1) (by have := List.mem_range.mp hj; omega)
    exact ok_row b1 b2 b3
  · rw [List.length_map, rowsTo_len]
    exact hl
/-! where it stands -/
section
variable {K : PySem.W.Frag} {H H' : Hp} {p : Addr} {q : Rat} {v : V} {qs : List Rat} {xs : List V}
theorem PartTp.td (h : Tp K H p [.int q.num, .int (q.den : Int)]) : TD K H (.ref p) (dP q) := .of h (.cons (.int _) (.cons (.int _) .nil))
theorem TD.partTp (h : TD K H v (dP q)) : ∃ p, v = .ref p ∧ Tp K H p [.int q.num, .int (q.den : Int)] := by
  obtain ⟨p, xs, rfl, h1, r⟩ := TD.inv h
  obtain ⟨x, y, rfl, h2, h3⟩ := r.inv2
  cases h2.inv_int
  cases h3.inv_int
  exact ⟨p, rfl, h1⟩
end
end Pm

namespace Pm
open PySem PySem.Spec PyProof.Rows L2
/-! ### for a, b in zip(list, tuple) -/
/-- a list and a tuple, walked together -/
def ItLT (K : PySem.W.Frag) (a b : Addr) : It where
  go := fun i H => ∃ (xs ys : List V) (x y : V), (SqL K H a xs ∧ SqT K H b ys) ∧ xs[i]? = some x ∧ ys[i]? = some y
  yld := fun i H v H' => ∃ T x y, (v = .ref T ∧ H T = none) ∧ H' = upd H T (.tup [x, y]) ∧ ∀ xs ys, SqL K H a xs → SqT K H b ys → xs[i]? = some x ∧ ys[i]? = some y
  stop := fun i H => ∃ xs ys : List V, (SqL K H a xs ∧ SqT K H b ys) ∧ i = xs.length ∧ i = ys.length
/-- how its cells stand ahead of turn i -/
structure LTs (z TI TO j1 j2 a b : Addr) (i : Nat) (h : Heap) : Prop where
  hz : IsZip h z TI TO .none
  hI : IsTupOf2 h TI (.ref j1) (.ref j2)
  hO : ∃ u v, IsTupOf2 h TO u v
  l1 : h.IsListIter j1 a i
  l2 : h.IsTupleIter j2 b i
theorem five {c z TI TO j1 j2 : Addr} {R : Addr → Prop} (h : c ∈ [z, TI, TO, j1, j2]) (a1 : R z) (a2 : R TI) (a3 : R TO) (a4 : R j1) (a5 : R j2) : R c := by
  simp only [List.mem_cons, List.not_mem_nil, or_false] at h
  rcases h with rfl | rfl | rfl | rfl | rfl <;> assumption
theorem LTs.some {z TI TO j1 j2 a b : Addr} {i : Nat} {h : Heap} (st : LTs z TI TO j1 j2 a b i h) : ∀ c ∈ [z, TI, TO, j1, j2], ∃ o, h.get? c = .some o ∧ ∀ m, o.data ≠ .cell m := by
  intro c hc
  obtain ⟨u, v, hO⟩ := st.hO
  obtain ⟨oa, ea, _, da⟩ := st.l1
  obtain ⟨ob, eb, _, db⟩ := st.l2
  exact five (R := fun c => ∃ o, h.get? c = .some o ∧ ∀ m, o.data ≠ .cell m) hc ⟨_, st.hz, fun _ q => nomatch q⟩ ⟨_, st.hI, fun _ q => nomatch q⟩ ⟨_, hO, fun _ q => nomatch q⟩ ⟨oa, ea, fun m q => by rw [da] at q; cases q⟩ ⟨ob, eb, fun m q => by rw [db] at q; cases q⟩
theorem turn_LT {P : Program} {w : World} {K : PySem.W.Frag} {es : List Expr} {kk : Nat} {tp : Pos} {a b z TI TO j1 j2 : Addr} (S : ZipSep2 z TI TO j1 j2 [j1, a] [j2, b]) (na : a ≠ j1) (nb : b ≠ j2) :
    Turn P w K (.Tuple es kk tp) (ItLT K a b) [z, TI, TO, j1, j2] z (LTs z TI TO j1 j2 a b) := by
  have nf : ∀ {c : Addr}, c ∉ [z, TI, TO, j1, j2] → (c ≠ z ∧ c ≠ TI) ∧ c ≠ TO ∧ c ≠ j1 ∧ c ≠ j2 := by
    intro c hc
    simp only [List.mem_cons, List.not_mem_nil, or_false, not_or] at hc
    exact ⟨⟨hc.1, hc.2.1⟩, hc.2.2.1, hc.2.2.2.1, hc.2.2.2.2⟩
  refine { mem := List.mem_cons_self .., obj := fun i h st => st.some, keep := fun i h h2 st kp => ?_, item := ?_, done := ?_, self := fun A i s Q E st q => wpAny_pyIter_zip st.hz q }
  · obtain ⟨u, v, hO⟩ := st.hO
    exact { hz := kp z (by simp) _ st.hz, hI := kp TI (by simp) _ st.hI, hO := ⟨u, v, kp TO (by simp) _ hO⟩, l1 := st.l1.at fun o q => kp j1 (by simp) o q, l2 := st.l2.at fun o q => kp j2 (by simp) o q }
  · intro X eP ew eK calm i pins s σ H E I fp st go
    cases eP
    cases ew
    cases eK
    obtain ⟨xs, ys, x, y, ⟨qa, qb⟩, hx, hy⟩ := go
    obtain ⟨us, ru, pu, _⟩ := I.list qa
    obtain ⟨vs, rv, pv, _⟩ := I.tuple qb
    obtain ⟨u, hu, r1⟩ := ru.get hx
    obtain ⟨v, hv, r2⟩ := rv.get hy
    obtain ⟨u0, v0, hO⟩ := st.hO
    have low : ∀ c ∈ [z, TI, TO, j1, j2], c < s.heap.objs.size := fun c hc => let ⟨_, e, _⟩ := st.some c hc; Heap.lt_size e
    have iu : i < us.toArray.size := by
      have := (List.getElem?_eq_some_iff.mp hu).1
      simpa using this
    have iv : i < vs.toArray.size := by
      have := (List.getElem?_eq_some_iff.mp hv).1
      simpa using this
    refine wpAny_pyNext_zipD2_item S (Draws.list (A := X.A.in1) (I.ok.hd calm) j1 a na us.toArray) (Draws.tuple (A := X.A.in1) (I.ok.hd calm) j2 b nb vs.toArray) st.hz st.hI hO ⟨st.l1, pu.isList⟩ ⟨st.l2, pv⟩ iu iv ?_
    intro u1 v1 h1 tk e1 e2 z1 O1 d1 d2 T1 sz kp
    obtain rfl : u1 = u := by
      have e3 : us[i]? = .some u1 := by simpa using e1
      exact Option.some.inj (e3.symm.trans hu)
    obtain rfl : v1 = v := by
      have e3 : vs[i]? = .some v1 := by simpa using e2
      exact Option.some.inj (e3.symm.trans hv)
    refine ⟨_, rfl, wpAny_letOwnedTupleGo_zip (s := { s with heap := h1, toks := tk }) z1 fun h2 z2 sb => ?_⟩
    have Tz : s.heap.objs.size ≠ z := fun e => absurd (low z (by simp)) (by rw [← e]; exact Nat.lt_irrefl _)
    have T2 := (sb.2 _ Tz).trans T1
    have fresh : H s.heap.objs.size = none := I.hok.fresh (Nat.le_refl _)
    have made : ObjOk X.prog X.w (upd H s.heap.objs.size (.tup [x, y])) h2 s.heap.objs.size (.tup [x, y]) := ⟨Nat.le_trans (Nat.le_refl 2) (by decide), [u1, v1], .cons r1 (.cons r2 .nil), ⟨_, T2, rfl, _, rfl⟩⟩
    have J := I.turnedNew (t' := tk) (ch := [z, TI, TO, j1, j2]) (T := s.heap.objs.size) (ob := .tup [x, y]) (h' := h2) (fun c o hc q => by
      obtain ⟨⟨c1, c2⟩, c3, c4, c5⟩ := nf hc
      exact (sb.2 c c1).trans (kp c o c1 c3 c4 c5 q)) fp (Nat.le_refl _) made
    refine ⟨.ref s.heap.objs.size, _, J, rfl, ⟨_, x, y, ⟨rfl, fresh⟩, rfl, fun l m hl hm => ?_⟩, ?_, fun c hc => ?_⟩
    · rw [I.list_inj hl qa, I.tuple_inj hm qb]
      exact ⟨hx, hy⟩
    · exact { hz := z2, hI := (sb.2 _ S.TIz).trans (kp TI _ S.TIz S.TITO S.TIi1 S.TIi2 st.hI), hO := ⟨u1, v1, (sb.2 _ S.TOz).trans O1⟩, l1 := d1.1.at fun o q => (sb.2 j1 (Ne.symm S.zi1)).trans q, l2 := d2.1.at fun o q => (sb.2 j2 (Ne.symm S.zi2)).trans q }
    · rw [upd_ne (Nat.ne_of_lt (low c hc))]
      exact (fp c hc).1
  · intro X eP ew eK calm i pins s σ H E I fp st en
    cases eP
    cases ew
    cases eK
    obtain ⟨xs, ys, ⟨qa, qb⟩, ex, ey⟩ := en
    obtain ⟨us, ru, pu, _⟩ := I.list qa
    obtain ⟨vs, rv, pv, _⟩ := I.tuple qb
    obtain ⟨u0, v0, hO⟩ := st.hO
    have k1 := ru.length
    have k2 := rv.length
    refine wpAny_pyNext_zipD2_end S (Draws.list (A := X.A.in1) (I.ok.hd calm) j1 a na us.toArray) (Draws.tuple (A := X.A.in1) (I.ok.hd calm) j2 b nb vs.toArray) st.hz st.hI hO ⟨st.l1, pu.isList⟩ ⟨st.l2, pv⟩ (by simp; omega) (by simp; omega) (.inl (by simp; omega)) ?_
    intro h1 tk kp
    refine ⟨rfl, I.turnedL (t' := tk) (ch := [z, TI, TO, j1, j2]) (fun c o hc q => ?_) fp⟩
    obtain ⟨⟨c1, c2⟩, c3, c4, c5⟩ := nf hc
    exact kp c o c1 c3 c4 c5 q
def iZipLT (K : PySem.W.Frag) (ta : TA) : TI := fun σ H R => ta σ H fun vs H1 => ∃ a b xs ys, vs = [.ref a, .ref b] ∧ (SqL K H1 a xs ∧ SqT K H1 b ys) ∧ R (ItLT K a b) H1
theorem pi_zipLT {X : Cx} {e f : Expr} {ta : TA} {p q tp : Pos} {es : List Expr} {kk : Nat} (hg : Gl X "zip") (hm : X.mg "zip" = none) (ha : PA X [e, f] ta)
    (hs : starEach [e, f] X.env = (false, eval e X.env) :: starEach [f] X.env := by rfl) (hpl : (backTo q (starEach [f] X.env)).any (·.1) = false := by rfl) :
    PI X (.Tuple es kk tp) (.Call (.Name "zip" p) [e, f] [] q) (iZipLT X.K ta) := by
  constructor
  intro pins s σ H R I h
  refine Call_ (ld_blt I hg hm boot_zip (callWith_type1 (thn (ha.run q pins s σ H _ I h) ?_) hs hpl))
  rintro ws s1 ⟨vs, H1, I1, r1, a, b, xs, ys, rfl, ⟨qa, qb⟩, want⟩
  cases r1 with
  | cons ra rr =>
    cases rr with
    | cons rb rr =>
      cases rr
      cases ra
      cases rb
      obtain ⟨us, ru, pu, _⟩ := I1.list qa
      obtain ⟨vs, rv, pv, _⟩ := I1.tuple qb
      have la : a < s1.heap.objs.size := pu.lt
      have lb : b < s1.heap.objs.size := by
        obtain ⟨o, ho, _⟩ := id pv
        exact Heap.lt_size ho
      refine zip_begins2 (begins_list a us.toArray) (begins_tuple b vs.toArray) pu.isList pv fun h2 hz hI hO e1 e2 sz kp => wpAny_pyIter_zip hz ?_
      have I2 : Inv X pins σ H1 { s1 with heap := h2 } := I1.kept (t' := s1.toks) kp
      have Z := zip_sep2 (N := s1.heap.objs.size) (fp1 := [a]) (fp2 := [b]) (by simpa using la) (by simpa using lb)
      refine ⟨s1.heap.objs.size + 4, [s1.heap.objs.size + 4, s1.heap.objs.size + 2, s1.heap.objs.size + 3, s1.heap.objs.size, s1.heap.objs.size + 1], _, _, H1, rfl, I2, turn_LT Z (Nat.ne_of_lt la) (Nat.ne_of_lt (Nat.lt_succ_of_lt lb)), { hz := hz, hI := hI, hO := ⟨_, _, hO⟩, l1 := ⟨_, e1, rfl, rfl⟩, l2 := ⟨_, e2, rfl, rfl⟩ }, fun c hc => ?_, want⟩
      have le : s1.heap.objs.size ≤ c := five (R := fun c => s1.heap.objs.size ≤ c) hc (Nat.le_add_right ..) (Nat.le_add_right ..) (Nat.le_add_right ..) (Nat.le_refl _) (Nat.le_add_right ..)
      exact I1.fpOk le (I1.hok.fresh le)
theorem k_piZLT (K : PySem.W.Frag) {X : Cx} {e f : Expr} {ta : TA} {p q tp : Pos} {es : List Expr} {kk : Nat} (hg : Gl X "zip") (hm : X.mg "zip" = none) (ha : PA X [e, f] ta)
    (hs : starEach [e, f] X.env = (false, eval e X.env) :: starEach [f] X.env := by rfl) (hpl : (backTo q (starEach [f] X.env)).any (·.1) = false := by rfl) (hK : X.K = K := by rfl) :
    PI X (.Tuple es kk tp) (.Call (.Name "zip" p) [e, f] [] q) (iZipLT K ta) := by subst hK; exact pi_zipLT hg hm ha hs hpl
section
variable {K : PySem.W.Frag} {σ : L2.St} {H : Hp} {ts : TS} {D : Ends} {g : TG} {tA : TA}
theorem i_iZLT {R : It → Hp → Prop} (h : tA σ H fun vs H1 => ∃ a b xs ys, vs = [.ref a, .ref b] ∧ (SqL K H1 a xs ∧ SqT K H1 b ys) ∧ R (ItLT K a b) H1) : iZipLT K tA σ H R := h
theorem i_itZLT {R : Addr → Addr → Prop} {a b : Addr} {xs ys : List V} (h1 : SqL K H a xs) (h2 : Tp K H b ys) (h : R a b) : ∃ a' b' xs ys, [V.ref a, V.ref b] = [.ref a', .ref b'] ∧ (SqL K H a' xs ∧ SqT K H b' ys) ∧ R a' b' := ⟨a, b, xs, ys, rfl, ⟨h1, h2.sq⟩, h⟩
theorem i_forZLT {a b : Addr} {xs ys : List V} (hl : xs.length = ys.length) (I : Nat → L2.St → Hp → Prop) (h0 : I 0 σ H) (hq : ∀ i σ H, i ≤ xs.length → I i σ H → SqL K H a xs ∧ Tp K H b ys)
    (hs : ∀ i x y σ' H0 T H', xs[i]? = some x → ys[i]? = some y → I i σ' H0 → New H0 T → Same H0 H' → TpH H' T [x, y] → g (.ref T) σ' H' fun σ2 H2 => ts { D with nx := I (i + 1), ct := I (i + 1), bk := D.nx } σ2 H2)
    (hd : ∀ σ' H', I xs.length σ' H' → D.nx σ' H') : ForI (ItLT K a b) g ts D σ H := by
  refine ⟨fun i m σ H => (m = xs.length - i ∧ i ≤ xs.length) ∧ I i σ H, ⟨_, ⟨rfl, Nat.zero_le _⟩, h0⟩, ?_⟩
  rintro i m σ' H' ⟨⟨rfl, hi⟩, hI⟩
  obtain ⟨q1, q2⟩ := hq i σ' H' hi hI
  by_cases c : i < xs.length
  · refine .inr ⟨⟨xs, ys, xs[i], ys[i]'(by omega), ⟨q1, q2.sq⟩, List.getElem?_eq_getElem c, List.getElem?_eq_getElem (by omega)⟩, fun σ2 H2 => I (i + 1) σ2 H2, fun σ2 H2 h2 => ⟨xs.length - (i + 1), by omega, ⟨rfl, by omega⟩, h2⟩, ?_⟩
    rintro v H2 ⟨T, x, y, ⟨rfl, nT⟩, rfl, hxy⟩
    obtain ⟨hx, hy⟩ := hxy xs ys q1 q2.sq
    exact hs i x y σ' H' T _ hx hy hI nT (same_new nT) ⟨upd_same⟩
  · have e : i = xs.length := by omega
    subst e
    exact .inl ⟨⟨xs, ys, ⟨q1, q2.sq⟩, rfl, hl⟩, hd σ' H' hI⟩
end
end Pm

namespace Pm
open PySem PySem.Spec PyProof.Rows L2
/-! ### for i, b in enumerate(tuple) -/
/-- an enumerate's cell, as it is made over the iterator at j -/
abbrev enO (j : Addr) : Obj := { cls := .type "enumerate", data := .fields #[.none, .bool false, .ref j, rawInt 0, .none, .none] }
theorem en_new {v : Value} {o : Obj} {P : Heap → Prop} (B : Begins v o P) : Meets (Builtin.«enumerate.__new__» ⟨[.type "enumerate", v], []⟩) (fun _ R s => P s.heap ∧
    R (.ok (.ret (.ref (s.heap.push o).objs.size))) { s with heap := (s.heap.push o).push (enO s.heap.objs.size) }) := by
  refine .of_wp fun prog w A R s hh => ?_
  obtain ⟨hp, g, d, tk, os⟩ := s
  obtain ⟨p1, want⟩ := hh
  have su := sub_enumerate
  have go : ∀ {A' : Around} {E : Value → Shared → Prop} {Q : Value → Shared → Prop}, Q (.ref hp.objs.size) ⟨hp.push o, g, d, tk, os⟩ → wpAny (model prog w) A' (pyIter v) Q E ⟨hp, g, d, tk, os⟩ := fun q => B.iter prog w _ _ _ _ p1 q
  wp_walk using go
  refine wpAny_stack_any fun st => wpAny_pure ?_
  split
  · rename_i cc _ _ _ _ _
    cases (cc == Value.type "enumerate")
    all_goals
      wp_walk using go
      exact ⟨_, rfl, want⟩
  · wp_walk using go
    exact ⟨_, rfl, want⟩
theorem call_en {prog : Program} {w : World} {A : Around} {E : Value → Shared → Prop} {s : Shared} {v : Value} {o : Obj} {P : Heap → Prop} {Q : Value → Shared → Prop} (B : Begins v o P) (p1 : P s.heap)
    (want : ∀ h2, IsEnum h2 (s.heap.objs.size + 1) s.heap.objs.size 0 .none → h2.get? s.heap.objs.size = some o → (∀ c x, s.heap.get? c = some x → h2.get? c = some x) → Q (.ref (s.heap.objs.size + 1)) { s with heap := h2 }) :
    wpAny (model prog w) A (call (.type "enumerate") [v]) Q E s := by
  refine callType_new F.called_enumerate (by decide) (F.typeCall_enumerate_1 _) (F.newCall_enumerate_1 _) (fun x => F.args_object_init_2 x _) F.entry_enumerate_new (en_new B) ⟨p1, ?_⟩
  have sz : (s.heap.push o).objs.size = s.heap.objs.size + 1 := Heap.size_push ..
  show _ ∧ _
  rw [sz]
  have made := Heap.get?_push_size (s.heap.push o) (o := enO s.heap.objs.size) rfl
  rw [sz] at made
  have en : IsEnum ((s.heap.push o).push (enO s.heap.objs.size)) (s.heap.objs.size + 1) s.heap.objs.size 0 .none := made
  exact ⟨⟨_, en, rfl⟩, want _ en (Heap.get?_push_of_some _ (Heap.get?_push_size _ B.free)) fun c x q => Heap.get?_push_of_some _ (Heap.get?_push_of_some _ q)⟩
/-- a tuple, walked with numbers -/
def ItET (K : PySem.W.Frag) (a : Addr) : It where
  go := fun i H => ∃ (xs : List V) (x : V), SqT K H a xs ∧ xs[i]? = some x
  yld := fun i H v H' => ∃ T x, (v = .ref T ∧ H T = none) ∧ H' = upd H T (.tup [.int (i : Nat), x]) ∧ ∀ xs, SqT K H a xs → xs[i]? = some x
  stop := fun i H => ∃ xs : List V, SqT K H a xs ∧ i = xs.length
structure ETs (e j a : Addr) (i : Nat) (h : Heap) : Prop where
  he : ∃ u, IsEnum h e j ((i : Nat) : Int) u
  l : h.IsTupleIter j a i
theorem turn_ET {P : Program} {w : World} {K : PySem.W.Frag} {es : List Expr} {kk : Nat} {tp : Pos} {a e j : Addr} (ne : e ≠ j) (na : a ≠ j) (nea : e ≠ a) :
    Turn P w K (.Tuple es kk tp) (ItET K a) [e, j] e (ETs e j a) := by
  have two : ∀ {c : Addr} {R : Addr → Prop}, c ∈ [e, j] → R e → R j → R c := by
    intro c R hc r1 r2
    simp only [List.mem_cons, List.not_mem_nil, or_false] at hc
    rcases hc with rfl | rfl <;> assumption
  have nf : ∀ {c : Addr}, c ∉ [e, j] → c ≠ e ∧ c ≠ j := by
    intro c hc
    simp only [List.mem_cons, List.not_mem_nil, or_false, not_or] at hc
    exact hc
  refine { mem := List.mem_cons_self .., obj := fun i h st c hc => ?_, keep := fun i h h2 st kp => ?_, item := ?_, done := ?_, self := fun A i s Q E st q => ?_ }
  · obtain ⟨u, hu⟩ := st.he
    obtain ⟨o, eo, _, dd⟩ := st.l
    exact two (R := fun c => ∃ o, h.get? c = some o ∧ ∀ m, o.data ≠ .cell m) hc ⟨_, hu, fun _ q => nomatch q⟩ ⟨o, eo, fun m q => by rw [dd] at q; cases q⟩
  · obtain ⟨u, hu⟩ := st.he
    exact { he := ⟨u, kp e (by simp) _ hu⟩, l := st.l.at fun o q => kp j (by simp) o q }
  · intro X eP ew eK calm i pins s σ H E I fp st go
    cases eP
    cases ew
    cases eK
    obtain ⟨xs, x, qa, hx⟩ := go
    obtain ⟨vs, rv, pv, _⟩ := I.tuple qa
    obtain ⟨v, hv, r2⟩ := rv.get hx
    obtain ⟨u0, hu0⟩ := st.he
    have le : e < s.heap.objs.size := Heap.lt_size hu0
    have lj : j < s.heap.objs.size := by
      obtain ⟨_, q, _⟩ := st.l
      exact Heap.lt_size q
    have iv : i < vs.toArray.size := by
      have := (List.getElem?_eq_some_iff.mp hv).1
      simpa using this
    refine wpAny_pyNext_enum_itemD (Draws.tuple (A := X.A.in1) (I.ok.hd calm) j a na vs.toArray) hu0 ⟨st.l, pv⟩ iv ne (by simp [ne, nea]) ?_
    intro v1 h1 tk e2 O1 d2 T1 sz kp
    obtain rfl : v1 = v := by
      have e3 : vs[i]? = some v1 := by simpa using e2
      exact Option.some.inj (e3.symm.trans hv)
    refine ⟨_, rfl, wpAny_letOwnedTupleGo_enum (s := { s with heap := h1, toks := tk + 1 }) O1 fun h2 z2 sb => ?_⟩
    have T2 := (sb.2 _ (Nat.ne_of_gt le)).trans T1
    have fresh : H s.heap.objs.size = none := I.hok.fresh (Nat.le_refl _)
    have made : ObjOk X.prog X.w (upd H s.heap.objs.size (.tup [.int (i : Nat), x])) h2 s.heap.objs.size (.tup [.int (i : Nat), x]) := ⟨Nat.le_trans (Nat.le_refl 2) (by decide), [.int i tk, v1], .cons ⟨_, rfl⟩ (.cons r2 .nil), ⟨_, T2, rfl, _, rfl⟩⟩
    have J := I.turnedNew (t' := tk + 1) (ch := [e, j]) (T := s.heap.objs.size) (ob := .tup [.int (i : Nat), x]) (h' := h2) (fun c o hc q => by
      obtain ⟨c1, c2⟩ := nf hc
      exact (sb.2 c c1).trans (kp c o c1 c2 q)) fp (Nat.le_refl _) made
    refine ⟨.ref s.heap.objs.size, _, J, rfl, ⟨_, x, ⟨rfl, fresh⟩, rfl, fun m hm => ?_⟩, ?_, fun c hc => ?_⟩
    · rw [I.tuple_inj hm qa]
      exact hx
    · have e5 : ((i + 1 : Nat) : Int) = (i : Int) + 1 := by omega
      exact { he := ⟨v1, by rw [e5]; exact z2⟩, l := d2.1.at fun o q => (sb.2 j (Ne.symm ne)).trans q }
    · rw [upd_ne (Nat.ne_of_lt (two (R := fun c => c < s.heap.objs.size) hc le lj))]
      exact (fp c hc).1
  · intro X eP ew eK calm i pins s σ H E I fp st en
    cases eP
    cases ew
    cases eK
    obtain ⟨xs, qa, ex⟩ := en
    obtain ⟨vs, rv, pv, _⟩ := I.tuple qa
    obtain ⟨u0, hu0⟩ := st.he
    have k1 := rv.length
    have k2 : i = vs.toArray.size := by simp; omega
    have D := Draws.tuple (prog := X.prog) (w := X.w) (A := X.A.in1) (I.ok.hd calm) j a na vs.toArray
    have st2 : s.heap.IsTupleIter j a vs.toArray.size ∧ s.heap.IsTuple a vs.toArray := ⟨by rw [← k2]; exact st.l, pv⟩
    refine wpAny_pyNext_enum_endD D hu0 st2 fun h1 eb => ⟨rfl, ?_⟩
    obtain ⟨f0, f1, f2, f3, f4, f5⟩ := fp j (by simp)
    exact I.turned (t' := s.toks) (fun c o hc q => eb c o hc q) f0 f1 f3 f4 f5
  · obtain ⟨u, hu⟩ := st.he
    exact wpAny_pyIter_enum hu q
def iEnT (K : PySem.W.Frag) (ta : TA) : TI := fun σ H R => ta σ H fun vs H1 => ∃ a xs, vs = [.ref a] ∧ SqT K H1 a xs ∧ R (ItET K a) H1
theorem pi_enT {X : Cx} {e : Expr} {ta : TA} {p q tp : Pos} {es : List Expr} {kk : Nat} (hg : Gl X "enumerate") (hm : X.mg "enumerate" = none) (ha : PA X [e] ta) (hs : starEach [e] X.env = [(false, eval e X.env)] := by rfl) :
    PI X (.Tuple es kk tp) (.Call (.Name "enumerate" p) [e] [] q) (iEnT X.K ta) := by
  constructor
  intro pins s σ H R I h
  refine Call_ (ld_blt I hg hm boot_enumerate (callWith_type1 (thn (ha.run q pins s σ H _ I h) ?_) hs rfl))
  rintro ws s1 ⟨vs, H1, I1, r1, a, xs, rfl, qa, want⟩
  cases r1 with
  | cons ra rr =>
    cases rr
    cases ra
    obtain ⟨us, ru, pv, _⟩ := I1.tuple qa
    have la : a < s1.heap.objs.size := by
      obtain ⟨o, ho, _⟩ := id pv
      exact Heap.lt_size ho
    refine call_en (begins_tuple a us.toArray) pv fun h2 he e1 kp => wpAny_pyIter_enum he ?_
    have I2 : Inv X pins σ H1 { s1 with heap := h2 } := I1.kept (t' := s1.toks) kp
    refine ⟨s1.heap.objs.size + 1, [s1.heap.objs.size + 1, s1.heap.objs.size], _, _, H1, rfl, I2, turn_ET (Nat.succ_ne_self _) (Nat.ne_of_lt la) (Ne.symm (Nat.ne_of_lt (Nat.lt_succ_of_lt la))), { he := ⟨_, he⟩, l := ⟨_, e1, rfl, rfl⟩ }, fun c hc => ?_, want⟩
    have low : s1.heap.objs.size ≤ c := by
      simp only [List.mem_cons, List.not_mem_nil, or_false] at hc
      rcases hc with rfl | rfl
      · exact Nat.le_add_right ..
      · exact Nat.le_refl _
    exact I1.fpOk low (I1.hok.fresh low)
theorem k_piET (K : PySem.W.Frag) {X : Cx} {e : Expr} {ta : TA} {p q tp : Pos} {es : List Expr} {kk : Nat} (hg : Gl X "enumerate") (hm : X.mg "enumerate" = none) (ha : PA X [e] ta) (hs : starEach [e] X.env = [(false, eval e X.env)] := by rfl) (hK : X.K = K := by rfl) :
    PI X (.Tuple es kk tp) (.Call (.Name "enumerate" p) [e] [] q) (iEnT K ta) := by subst hK; exact pi_enT hg hm ha hs
section
variable {K : PySem.W.Frag} {σ : L2.St} {H : Hp} {ts : TS} {D : Ends} {g : TG} {tA : TA}
theorem i_iET {R : It → Hp → Prop} (h : tA σ H fun vs H1 => ∃ a xs, vs = [.ref a] ∧ SqT K H1 a xs ∧ R (ItET K a) H1) : iEnT K tA σ H R := h
theorem i_itET {R : Addr → Prop} {a : Addr} {xs : List V} (h1 : Tp K H a xs) (h : R a) : ∃ b ys, [V.ref a] = [.ref b] ∧ SqT K H b ys ∧ R b := ⟨a, xs, rfl, h1.sq, h⟩
theorem i_forET {a : Addr} {xs : List V} (I : Nat → L2.St → Hp → Prop) (h0 : I 0 σ H) (hq : ∀ i σ H, i ≤ xs.length → I i σ H → Tp K H a xs)
    (hs : ∀ i x σ' H0 T H', xs[i]? = some x → I i σ' H0 → New H0 T → Same H0 H' → H' T = some (.tup [.int (i : Nat), x]) → g (.ref T) σ' H' fun σ2 H2 => ts { D with nx := I (i + 1), ct := I (i + 1), bk := D.nx } σ2 H2)
    (hd : ∀ σ' H', I xs.length σ' H' → D.nx σ' H') : ForI (ItET K a) g ts D σ H := by
  refine ⟨fun i m σ H => (m = xs.length - i ∧ i ≤ xs.length) ∧ I i σ H, ⟨_, ⟨rfl, Nat.zero_le _⟩, h0⟩, ?_⟩
  rintro i m σ' H' ⟨⟨rfl, hi⟩, hI⟩
  have q1 := hq i σ' H' hi hI
  by_cases c : i < xs.length
  · refine .inr ⟨⟨xs, xs[i], q1.sq, List.getElem?_eq_getElem c⟩, fun σ2 H2 => I (i + 1) σ2 H2, fun σ2 H2 h2 => ⟨xs.length - (i + 1), by omega, ⟨rfl, by omega⟩, h2⟩, ?_⟩
    rintro v H2 ⟨T, x, ⟨rfl, nT⟩, rfl, hx⟩
    exact hs i x σ' H' T _ (hx xs q1.sq) hI nT (same_new nT) upd_same
  · have e : i = xs.length := by omega
    subst e
    exact .inl ⟨⟨xs, q1.sq, rfl⟩, hd σ' H' hI⟩
end
end Pm

namespace Pm
open PySem PySem.Spec PyProof.Rows L2
/-! first, *rest = a list or a tuple -/
section
variable {X : Cx} {pins : List (Addr × Obj)} {s : Shared} {σ : L2.St} {H : Hp}
/-- the list of what is left, behind the walk, by whatever road -/
theorem star_new (I : Inv X pins σ H s) {h₂ : Heap} {tk : Nat} {xs : List V} {us : List Value} {Q : Value → Shared → Prop} (rv : Vals xs us) (hz : us.length ≤ 16383) (hk : ∀ b o, s.heap.get? b = some o → h₂.get? b = some o)
    (q : ∀ D s', H D = none → Inv X pins σ (upd H D (.lst xs)) s' → Q (.ref D) s') :
    wpAny (model X.prog X.w) X.A (newList us) Q X.xe { s with heap := h₂, toks := tk } := by
  have I1 : Inv X pins σ H { s with heap := h₂, toks := tk } := I.kept hk
  refine wpAny_newList ?_ (by rw [sizeLine_eq]; omega)
  exact q h₂.objs.size _ (I1.hok.fresh (Nat.le_refl _)) (I1.laid (t' := tk) (fun b u e => Heap.get?_push_of_some _ e) (Nat.le_refl _)
    (show ObjOk X.prog X.w _ _ _ (.lst xs) from ⟨by rw [sizeLine_eq]; have := rv.length; omega, us, 0, rv, Heap.get?_push_size _ rfl⟩))
/-- `first, *rest` of what is walked by I2 over `its`, the first value drawn -/
theorem star_end (I : Inv X pins σ H s) {z : V} {xs : List V} {its : List Value} {l IT : Addr} {T : String} {St : Nat → Heap → Prop} {h₁ : Heap} {Q : List Value → Shared → Prop} (rv : Vals (z :: xs) its) (hz : xs.length ≤ 16383)
    (hT : T = "str_ascii_iterator" ∨ T = "str_iterator" ∨ T = "list_iterator" ∨ T = "tuple_iterator") (W : Walks X.prog X.w X.A.in1 IT [IT, l] [IT] its.toArray.size (fun i v => its.toArray[i]? = some v) St)
    (ht : ∀ i (u : Shared), St i u.heap → u.TypeIs (.ref IT) T) (st : St 1 h₁) (i1 : IT < h₁.objs.size) (i2 : l < h₁.objs.size) (n1 : s.heap.get? IT = none) (hk : ∀ b o, s.heap.get? b = some o → h₁.get? b = some o)
    (q : ∀ uz D s', RelV z uz → H D = none → Inv X pins σ (upd H D (.lst xs)) s' → Q [uz, .ref D] s') :
    wpAny (model X.prog X.w) X.A (do
      let rest ← holding (its.toArray.toList.take 1) (collect (.ref IT))
      if rest.length < 2 - 1 - 1 then
        rule "unpack.star.too-few"
        raiseError "ValueError" s!"not enough values to unpack (expected at least {2 - 1}, got {1 + rest.length})"
      return (its.toArray.toList.take 1) ++ [← newList (rest.take (rest.length - (2 - 1 - 1)))] ++ rest.drop (rest.length - (2 - 1 - 1))) Q X.xe { s with heap := h₁ } := by
  obtain ⟨uz, us, rfl, rz, ru⟩ : ∃ uz us, its = uz :: us ∧ RelV z uz ∧ Vals xs us := by
    cases rv with
    | cons a b => exact ⟨_, _, rfl, a, b⟩
  have hl := ru.length
  have e0 : (uz :: us).toArray.toList = uz :: us := by simp
  refine wpAny_bind (wpAny_holding (PySem.W.kun_collect (s := { s with heap := h₁ }) hT W ht (k := 1) (by simp) st i1 i2 (fun h₂ tk hk2 => ?_) (by rw [sizeLine_eq]; simp; omega)))
  rw [e0]
  show wpAny _ _ (if us.length < 0 then _ else _) _ _ _
  rw [if_neg (Nat.not_lt_zero _)]
  show wpAny _ _ (newList (us.take (us.length - 0)) >>= fun d => pure ([uz] ++ [d] ++ us.drop (us.length - 0))) _ _ _
  rw [Nat.sub_zero, List.take_length, List.drop_length]
  have kk : ∀ b o, s.heap.get? b = some o → h₂.get? b = some o := fun b o e => hk2 b o (fun z => by rw [z] at e; rw [n1] at e; cases e) (hk b o e)
  exact wpAny_bind (star_new (s := s) (tk := tk) I ru (by omega) kk fun D s' hD I' => wpAny_pure (q uz D s' rz hD I'))
end
def gStar (K : PySem.W.Frag) (t : TGs) : TG := fun v σ H Q => ∃ a z xs, v = .ref a ∧ (SqL K H a (z :: xs) ∨ SqT K H a (z :: xs)) ∧ xs.length ≤ 16000 ∧ ∀ p, H p = none → t [z, .ref p] σ (upd H p (.lst xs)) Q
theorem pg_star {X : Cx} {pos : Pos} {e1 e2 : Expr} {sp : Pos} {k : Nat} {t : TGs} (hc : X.calm = true) (h : PGs X [e1, e2] t)
    (he : assignEach [e1, .Starred e2 sp] X.env = [(false, assign e1 X.env), (true, assign e2 X.env)] := by rfl) (he2 : (assignEach [e1, e2] X.env).map (·.2) = [assign e1 X.env, assign e2 X.env] := by rfl) : PG X (.Tuple [e1, .Starred e2 sp] k pos) (gStar X.K t) := by
  refine ⟨fun pins s σ H v u Q I r hw => ?_⟩
  obtain ⟨a, z, xs, e, hq, hl, hw⟩ := hw
  subst e
  cases r
  have fin : ∀ uz D s', RelV z uz → H D = none → Inv X pins σ (upd H D (.lst xs)) s' → wpAny (model X.prog X.w) X.A (assignInOrder [assign e1 X.env, assign e2 X.env] [uz, .ref D]) (fun _ s' => ∃ σ' H', Inv X pins σ' H' s' ∧ Q σ' H') X.xe s' := fun uz D s' rz hD I' => by
    have := h.run pins s' σ _ [z, .ref D] [uz, .ref D] Q I' (.cons rz (.cons rfl .nil)) (hw D hD)
    rwa [he2] at this
  have hh := I.ok.hd hc
  rw [PyProof.Rows.assign_Tuple]
  refine wpAny_bind (wpAny_standAt ?_)
  unfold unpack
  rw [he]
  show wpAny _ _ (holding _ (unpackItems _ 2 (some 1)) >>= fun us => assignInOrder [assign e1 X.env, assign e2 X.env] us) _ _ _
  refine wpAny_bind (wpAny_holding ?_)
  rcases hq with hq | hq
  · obtain ⟨its, rv, pl, hz⟩ := I.list hq
    have hl' : s.heap.IsList a its.toArray := by
      obtain ⟨o, m, e, c, d, q⟩ := pl
      exact ⟨o, e, c, m, q⟩
    have hlt : a < s.heap.objs.size := by obtain ⟨o, ho, _⟩ := hl'; exact Heap.lt_size ho
    have hne : a ≠ s.heap.objs.size := Nat.ne_of_lt hlt
    have hsz : its.toArray.size = xs.length + 1 := by have := rv.length; simp at this; simp; omega
    unfold unpackItems notIterableAtAll
    refine wpAny_bind (wpAny_bind (wpAny_specialOf hl'.typeIs slot_list_iter.lookup (wpAny_pure ?_)))
    rw [if_neg (by simp)]
    refine wpAny_bind (wpAny_holding (wpAny_pyIter_list hl' (wpAny_bind (wpAny_holding (PySem.W.kun_draw hne 1 0 _ _ ⟨_, Heap.get?_push_size _ rfl, rfl, rfl⟩ (hl'.push _) (by omega) fun h₁ t1 t2 => ?_)))))
    have hl₁ : h₁.IsList a its.toArray := (hl'.push _).extBut t2.extBut hne
    have hk : ∀ b o, s.heap.get? b = some o → h₁.get? b = some o := fun b o e => t2.extBut b o (Nat.ne_of_lt (Heap.lt_size e)) (Heap.get?_push_of_some _ e)
    rw [List.drop_zero, if_neg (by rw [List.length_take, List.toList_toArray, ← rv.length, List.length_cons]; omega)]
    have hit : h₁.IsListIter s.heap.objs.size a 1 := t1
    have i1 : s.heap.objs.size < h₁.objs.size := by obtain ⟨o, ho, _⟩ := hit; exact Heap.lt_size ho
    have i2 : a < h₁.objs.size := by obtain ⟨o, ho, _⟩ := hl₁; exact Heap.lt_size ho
    refine star_end I rv (by omega) (T := "list_iterator") (.inr (.inr (.inl rfl))) (Walks.list (A := X.A.in1) hh s.heap.objs.size a hne its.toArray) (fun j u st => st.1.typeIs) ⟨hit, hl₁⟩ i1 i2 (by cases e : s.heap.get? s.heap.objs.size with | none => rfl | some o => exact absurd (Heap.lt_size e) (Nat.lt_irrefl _)) hk fin
  · obtain ⟨its, rv, hl', hz⟩ := I.tuple hq
    have hlt : a < s.heap.objs.size := by obtain ⟨o, ho, _⟩ := hl'; exact Heap.lt_size ho
    have hne : a ≠ s.heap.objs.size := Nat.ne_of_lt hlt
    have hsz : its.toArray.size = xs.length + 1 := by have := rv.length; simp at this; simp; omega
    unfold unpackItems notIterableAtAll
    refine wpAny_bind (wpAny_bind (wpAny_specialOf hl'.typeIs slot_tuple_iter.lookup (wpAny_pure ?_)))
    rw [if_neg (by simp)]
    refine wpAny_bind (wpAny_holding (iter_tuple hl' (wpAny_bind (wpAny_holding (draw_tuple hne 1 0 _ _ ⟨_, Heap.get?_push_size _ rfl, rfl, rfl⟩ (hl'.push _) (by omega) fun h₁ t1 t2 => ?_)))))
    have hl₁ : IsTup h₁ a its.toArray := (hl'.push _).extBut t2.extBut hne
    have hk : ∀ b o, s.heap.get? b = some o → h₁.get? b = some o := fun b o e => t2.extBut b o (Nat.ne_of_lt (Heap.lt_size e)) (Heap.get?_push_of_some _ e)
    rw [List.drop_zero, if_neg (by rw [List.length_take, List.toList_toArray, ← rv.length, List.length_cons]; omega)]
    have hit : IsTupIter h₁ s.heap.objs.size a 1 := t1
    have i1 : s.heap.objs.size < h₁.objs.size := by obtain ⟨o, ho, _⟩ := hit; exact Heap.lt_size ho
    have i2 : a < h₁.objs.size := by obtain ⟨o, ho, _⟩ := hl₁; exact Heap.lt_size ho
    refine star_end I rv (by omega) (T := "tuple_iterator") (.inr (.inr (.inr rfl))) (Walks.tuple (A := X.A.in1) hh s.heap.objs.size a hne its.toArray) (fun j u st => st.1.typeIs) ⟨hit, hl₁⟩ i1 i2 (by cases e : s.heap.get? s.heap.objs.size with | none => rfl | some o => exact absurd (Heap.lt_size e) (Nat.lt_irrefl _)) hk fin
theorem k_gstar {X : Cx} {pos : Pos} {e1 e2 : Expr} {sp : Pos} {k : Nat} {t : TGs} (K : PySem.W.Frag) (hc : X.calm = true) (h : PGs X [e1, e2] t) (he : assignEach [e1, .Starred e2 sp] X.env = [(false, assign e1 X.env), (true, assign e2 X.env)] := by rfl)
    (he2 : (assignEach [e1, e2] X.env).map (·.2) = [assign e1 X.env, assign e2 X.env] := by rfl) (hK : X.K = K := by rfl) : PG X (.Tuple [e1, .Starred e2 sp] k pos) (gStar K t) := by subst hK; exact pg_star hc h he he2
section
variable {K : PySem.W.Frag} {σ : L2.St} {H : Hp} {Q : VK} {te : TE} {tt : TT} {g : TG} {v y : V} {vs : List Nat}
theorem i_gstar {a : Addr} {z : V} {xs : List V} {t : TGs} {N : L2.St → Hp → Prop} (h1 : SqL K H a (z :: xs) ∨ Tp K H a (z :: xs)) (hl : xs.length ≤ 16000) (h : ∀ p H', New H p → Same H H' → H' p = some (.lst xs) → t [z, .ref p] σ H' N) : gStar K t (.ref a) σ H N :=
  ⟨a, z, xs, rfl, h1.imp id Tp.sq, hl, fun p hp => h p _ hp (same_new hp) upd_same⟩
/-! repr of whatever is data -/
def rReprV (K : PySem.W.Frag) : List V → Hp → VK → Prop := fun xs H Q => ∃ (v : V) (d : PyData), xs = [v] ∧ Dp K H v d ∧ d.showable = true ∧ d.hasDict = false ∧ d.depth ≤ 60 ∧ d.shown.length ≤ sizeLine ∧ Q (.str d.shown) H
theorem call_reprV {X : Cx} {k : Nat} (hG : X.A.guards = some []) (hr : Room k X.A) : CallR X (.builtin "repr") (rReprV X.K) := by
  intro pins s σ H xs us Q I r h
  obtain ⟨v, d, rfl, hd, hs, hn, hdp, hz, q⟩ := h
  cases hd with
  | non =>
    obtain ⟨u, rfl, ru⟩ := vals1 r
    cases ru
    exact PySem.P.repr_of_none ⟨.str _, H, I.tok _, ⟨_, rfl⟩, by simpa only [PyData.shown] using q⟩
  | bl b =>
    obtain ⟨u, rfl, ru⟩ := vals1 r
    cases ru
    exact PySem.P.repr_of_bool ⟨.str _, H, I.tok _, ⟨_, rfl⟩, by simpa only [PyData.shown] using q⟩
  | int i =>
    obtain ⟨u, rfl, t, rfl⟩ := vals1 r
    exact PySem.P.repr_of_int (by simpa [PyData.showable] using hs) ⟨.str _, H, I.tok _, ⟨_, rfl⟩, by simpa only [PyData.shown] using q⟩
  | str x =>
    obtain ⟨u, rfl, t, rfl⟩ := vals1 r
    exact PySem.P.repr_of_str ⟨.str _, H, I.tok _, ⟨_, rfl⟩, by simpa only [PyData.shown] using q⟩ (by simpa only [PyData.shown] using hz)
  | lst a b => exact call_reprD hG hr pins s σ H _ us Q I r ⟨_, _, rfl, .lst a b, hs, hn, hdp, hz, q⟩
  | tup a b => exact call_reprD hG hr pins s σ H _ us Q I r ⟨_, _, rfl, .tup a b, hs, hn, hdp, hz, q⟩
theorem k_reprV {X : Cx} {k : Nat} (K : PySem.W.Frag) (hG : X.A.guards = some []) (hr : Room k X.A) (hK : X.K = K := by rfl) : CallR X (.builtin "repr") (rReprV K) := by subst hK; exact call_reprV hG hr
theorem i_reprV {d : PyData} {n m : Nat} (h1 : Dp K H v d) (h2 : Ok n m d) (hn : n ≤ 60) (hm : m ≤ 16000000) (h : Q (.str d.shown) H) : rReprV K [v] H Q := ⟨v, d, rfl, h1, h2.sh, h2.noDict, Nat.le_trans h2.dp hn, Nat.le_trans (Nat.le_trans h2.ln hm) (by decide), h⟩
theorem Ok.str {z : Str} {m : Nat} (e : PyData.strOk z = true) (h : (PyData.str z).shown.length ≤ m) : Ok 0 m (.str z) := ⟨by simp only [PyData.showable], by simp only [PyData.canLay0, e], by simp only [PyData.depth]; omega, h⟩
/-! comprehensions that change what stands -/
theorem i_lcG {a : Addr} {xs : List V} (I : Addr → Nat → Hp → Prop) (h0 : ∀ A, New H A → I A 0 (upd H A (.lst []))) (hq : ∀ A i H', New H A → I A i H' → SqL K H' a xs)
    (hs : ∀ A i x H', New H A → xs[i]? = some x → i < xs.length → I A i H' → g x (wipe σ vs) H' fun σ2 H2 => wipe σ2 vs = wipe σ vs ∧ tt σ2 H2 fun b H3 =>
      if b = true then te σ2 H3 fun y H4 => ∃ acc, H4 A = some (.lst acc) ∧ acc.length < sizeLine ∧ I A (i + 1) (upd H4 A (.lst (acc ++ [y]))) else I A (i + 1) H3)
    (h : ∀ A H', New H A → I A xs.length H' → Q (.ref A) H') : LcI (Itl K a) g tt te vs Q σ H := by
  intro A hA
  exact lc_list (a := a) (xs := xs) (fun i H' => I A i H') (h0 A hA) (fun i H' _ p => hq A i H' hA p) (fun i x H' hx p => hs A i x H' hA hx (List.getElem?_eq_some_iff.mp hx).1 p) fun H' p => h A H' hA p
theorem i_lcGT {a : Addr} {xs : List V} (I : Addr → Nat → Hp → Prop) (h0 : ∀ A, New H A → I A 0 (upd H A (.lst []))) (hq : ∀ A i H', New H A → I A i H' → Tp K H' a xs)
    (hs : ∀ A i x H', New H A → xs[i]? = some x → i < xs.length → I A i H' → g x (wipe σ vs) H' fun σ2 H2 => wipe σ2 vs = wipe σ vs ∧ tt σ2 H2 fun b H3 =>
      if b = true then te σ2 H3 fun y H4 => ∃ acc, H4 A = some (.lst acc) ∧ acc.length < sizeLine ∧ I A (i + 1) (upd H4 A (.lst (acc ++ [y]))) else I A (i + 1) H3)
    (h : ∀ A H', New H A → I A xs.length H' → Q (.ref A) H') : LcI (Itt K a) g tt te vs Q σ H := by
  intro A hA
  exact lc_tup (a := a) (xs := xs) (fun i H' => I A i H') (h0 A hA) (fun i H' _ p => (hq A i H' hA p).sq) (fun i x H' hx p => hs A i x H' hA hx (List.getElem?_eq_some_iff.mp hx).1 p) fun H' p => h A H' hA p
theorem i_lcGR {lo : Int} {n : Nat} (I : Addr → Nat → Hp → Prop) (h0 : ∀ A, New H A → I A 0 (upd H A (.lst [])))
    (hs : ∀ A i H', New H A → i < n → I A i H' → g (.int (lo + i)) (wipe σ vs) H' fun σ2 H2 => wipe σ2 vs = wipe σ vs ∧ tt σ2 H2 fun b H3 =>
      if b = true then te σ2 H3 fun y H4 => ∃ acc, H4 A = some (.lst acc) ∧ acc.length < sizeLine ∧ I A (i + 1) (upd H4 A (.lst (acc ++ [y]))) else I A (i + 1) H3)
    (h : ∀ A H', New H A → I A n H' → Q (.ref A) H') : LcI (Itr lo n) g tt te vs Q σ H := by
  intro A hA
  exact lc_range (fun i H' => I A i H') (h0 A hA) (fun i H' hi p => hs A i H' hA hi p) fun H' p => h A H' hA p
theorem i_acc {A : Addr} {H4 : Hp} {acc : List V} {I : Hp → Prop} (h : H4 A = some (.lst acc)) (hl : acc.length ≤ 100000) (k : ∀ H', Fx A A H4 H' → H' A = some (.lst (acc ++ [y])) → I H') : ∃ acc, H4 A = some (.lst acc) ∧ acc.length < sizeLine ∧ I (upd H4 A (.lst (acc ++ [y]))) :=
  ⟨acc, h, Nat.lt_of_le_of_lt hl (by decide), k _ (fx_upd h) upd_same⟩
theorem i_popAt {p : Addr} {xs : List V} {j : Int} (h1 : H p = some (.lst xs)) (j0 : 0 ≤ j) (j1 : j < xs.length) (hl : xs.length ≤ 100000) (h : ∀ (k : Nat) (y : V) H', k = j.toNat → xs[k]? = some y → Fx p p H H' → H' p = some (.lst (xs.eraseIdx k)) → Q y H') : rPopAt (.ref p) [.int j] H Q :=
  ⟨p, xs, j, j.toNat, xs[j.toNat]'(by omega), rfl, rfl, h1, by omega, by omega, by
    obtain ⟨k, rfl⟩ : ∃ k : Nat, j = k := ⟨j.toNat, by omega⟩
    exact seqIndex_of (by omega) (by omega), List.getElem?_eq_getElem (by omega), h _ _ _ rfl (List.getElem?_eq_getElem (by omega)) (fx_upd h1) upd_same⟩
end
/-! a loop over a list or a tuple -/
def iSeq (K : PySem.W.Frag) (tl : TE) : TI := fun σ H R => tl σ H fun x H1 => ∃ a, x = .ref a ∧ (((∃ xs, SqL K H1 a xs) ∧ R (Itl K a) H1) ∨ ((∃ xs, SqT K H1 a xs) ∧ R (Itt K a) H1))
theorem pi_seq {X : Cx} {tg l : Expr} {tl : TE} (hl : PE X l tl) : PI X tg l (iSeq X.K tl) := ⟨fun pins s σ H R I h => thn (hl.run pins s σ H _ I h) fun v s1 ⟨x, H1, I1, r1, a, e, q⟩ => by
  subst e
  cases r1
  have kp : ∀ o, Inv X pins σ H1 { s1 with heap := s1.heap.push o, toks := s1.toks } := fun o => I1.kept fun b u e => Heap.get?_push_of_some _ e
  have fp : ∀ b ∈ [s1.heap.objs.size], FpOk X pins H1 b := fun b hb => by
    obtain rfl := List.mem_singleton.mp hb
    exact I1.fpOk (Nat.le_refl _) (I1.hok.fresh (Nat.le_refl _))
  rcases q with ⟨⟨xs, hq⟩, q⟩ | ⟨⟨xs, hq⟩, q⟩
  · obtain ⟨its, rv, p, hz⟩ := I1.list hq
    exact wpAny_pyIter_list p.isList ⟨_, [_], _, _, H1, rfl, kp _, turn_list a _, ⟨_, Heap.get?_push_size _ rfl, rfl, rfl⟩, fp, q⟩
  · obtain ⟨its, rv, p, hz⟩ := I1.tuple hq
    exact wpAny_pyIter_tuple (show s1.heap.IsTuple a its.toArray from p) ⟨_, [_], _, _, H1, rfl, kp _, turn_tuple a _, ⟨_, Heap.get?_push_size _ rfl, rfl, rfl⟩, fp, q⟩⟩
theorem k_piS {X : Cx} (K : PySem.W.Frag) {tg l : Expr} {tl : TE} (hl : PE X l tl) (hK : X.K = K := by rfl) : PI X tg l (iSeq K tl) := by subst hK; exact pi_seq hl
/-- a list (false) or a tuple (true) -/
def SqV (K : PySem.W.Frag) (H : Hp) (p : Addr) (t : Bool) (xs : List V) : Prop := if t = true then Tp K H p xs else SqL K H p xs
section
variable {K : PySem.W.Frag} {σ : L2.St} {H H' : Hp} {Q : VK} {D : Ends} {g : TG} {ts : TS} {a p : Addr} {t : Bool} {xs : List V}
theorem SqV.same (h : SqV K H p t xs) (e : Same H H') : SqV K H' p t xs := by
  cases t
  · exact b_L e h
  · exact Tp.mono e h
theorem SqV.or (h : SqV K H p t xs) : SqL K H p xs ∨ Tp K H p xs := by
  cases t
  · exact .inl h
  · exact .inr h
theorem i_lenV (h1 : SqV K H p t xs) (h : Q (.int xs.length) H) : rLenU K [.ref p] H Q := ⟨p, xs, rfl, h1.or.imp id Tp.sq, h⟩
theorem i_iS {R : It → Hp → Prop} {tl : TE} (h : tl σ H fun x H1 => ∃ a, x = .ref a ∧ (((∃ xs, SqL K H1 a xs) ∧ R (Itl K a) H1) ∨ ((∃ xs, SqT K H1 a xs) ∧ R (Itt K a) H1))) : iSeq K tl σ H R := h
theorem i_forS (h1 : SqV K H a t xs) (I : Nat → L2.St → Hp → Prop) (h0 : I 0 σ H) (hl : ∀ i σ H, i ≤ xs.length → I i σ H → SqV K H a t xs)
    (hs : ∀ i x σ' H', xs[i]? = some x → I i σ' H' → g x σ' H' fun σ2 H2 => ts { D with nx := I (i + 1), ct := I (i + 1), bk := D.nx } σ2 H2)
    (hd : ∀ σ' H', I xs.length σ' H' → D.nx σ' H') : ∃ b, V.ref a = .ref b ∧ (((∃ xs, SqL K H b xs) ∧ ForI (Itl K b) g ts D σ H) ∨ ((∃ xs, SqT K H b xs) ∧ ForI (Itt K b) g ts D σ H)) := by
  refine ⟨a, rfl, ?_⟩
  cases t
  · exact .inl ⟨⟨xs, h1⟩, i_forL (xs := xs) I h0 hl hs hd⟩
  · exact .inr ⟨⟨xs, Tp.sq h1⟩, i_forT (xs := xs) I h0 hl hs hd⟩
end
/-! methods within a comprehension -/
theorem k_bm {X : Cx} {o e : Expr} {es : List Expr} {to : TE} {t : TA} {name : Str} {apos cpos : Pos} {T id : String} {r : V → List V → Hp → VK → Prop} (K : PySem.W.Frag) (pa : PlainAttrs T) (slot : Slot T name id) (hty : typeOf (.builtin id) = pure (.type "method_descriptor")) (hm : MtR X id r) (ho : PE X o to) (ha : PA X (e :: es) t)
    (hbase : attributeBase o name X.env (eval o X.env) = eval o X.env := by rfl)
    (hfew : ((backTo cpos (starEach (e :: es) X.env)).all (fun x => !x.1) && (backToKw cpos (keywordEach [] X.env)).all (fun x => x.1.isSome) && decide ((e :: es).length + ([] : List Keyword).length + (if ([] : List Keyword).isEmpty then 0 else 1) < 30)) = true := by rfl)
    (hline : (apos.endLine == cpos.line) = true := by rfl) (hs : starEach (e :: es) X.env = (false, eval e X.env) :: starEach es X.env := by rfl) (hplain : (backTo cpos (starEach es X.env)).any (·.1) = false := by rfl) (hK : X.K = K := by rfl) :
    PE X (.Call (.Attribute o name apos) (e :: es) [] cpos) (tBM K T r to t) := by subst hK; exact pe_bm pa slot hty hm ho ha hbase hfew hline hs hplain
theorem k_bm0 {X : Cx} {o : Expr} {to : TE} {name : Str} {apos cpos : Pos} {T id : String} {r : V → List V → Hp → VK → Prop} (K : PySem.W.Frag) (pa : PlainAttrs T) (slot : Slot T name id) (hty : typeOf (.builtin id) = pure (.type "method_descriptor")) (hm : MtR X id r) (ho : PE X o to)
    (hbase : attributeBase o name X.env (eval o X.env) = eval o X.env := by rfl) (hline : (apos.endLine == cpos.line) = true := by rfl) (hK : X.K = K := by rfl) : PE X (.Call (.Attribute o name apos) [] [] cpos) (tBM0 K T r to) := by subst hK; exact pe_bm0 pa slot hty hm ho hbase hline
theorem eqv_list_empty (ds : List PyData) : PyData.eqv (.list ds) (.list []) = decide (ds = []) := by
  cases ds <;> simp [PyData.eqv, PyData.eqvAll]
end Pm

namespace Pm
open PySem PySem.Spec PyProof.Rows L2
/-! l.count(x): flat items -/
def rCntF (K : PySem.W.Frag) : V → List V → Hp → VK → Prop := fun x xs H Q => ∃ (p : Addr) (ys : List V) (y : V), x = .ref p ∧ xs = [y] ∧ SqL K H p ys ∧ flatV y = true ∧ ys.all flatV = true ∧ Q (.int (ys.countP fun z => eqV z y)) H
theorem count_flat {y : V} {uy : Value} : ∀ {ys : List V} {its : List Value}, Vals ys its → ys.all flatV = true → its.countP (eqU y) = ys.countP fun z => eqV z y
  | [], [], .nil, _ => rfl
  | z :: ys, u :: its, .cons a b, f => by
    simp only [List.all_cons, Bool.and_eq_true] at f
    rw [List.countP_cons, List.countP_cons, count_flat (uy := uy) b f.2, eqU_of a f.1]
theorem mt_countF {X : Cx} : MtR X "list.count" (rCntF X.K) := fun pins s σ H x xs v us Q I rx rxs ⟨a, ys, y, e1, e2, hs, fy, fys, q⟩ => by
  subst e1 e2
  cases rx
  obtain ⟨uy, rfl, ry⟩ := rxs.one
  obtain ⟨its, rv, ⟨⟨cls, dd, data, sl⟩, n, ho, hc, hdn, hd⟩, hlen⟩ := I.list hs
  obtain rfl : cls = .type "list" := hc
  obtain rfl : data = .seq its.toArray n := hd
  refine call_meets PySem.F.slot_list_count ⟨_, ho, rfl⟩ PySem.F.entry_list_count (PySem.F.args_list_count_2 _ _) (SeqAt.list_countAt a its.toArray n dd sl uy (eqU y)) ⟨ho, fun u' hu' => mem_eqAt ry fy rv fys u' (by simpa using hu'), .int _, H, I.tok _, ⟨s.toks, ?_⟩, q⟩
  have e : its.toArray.toList.countP (eqU y) = ys.countP fun z => eqV z y := by rw [List.toList_toArray]; exact count_flat (uy := uy) rv fys
  exact congrArg (fun m : Nat => Value.int (m : Int) s.toks) e
theorem k_countF {X : Cx} (K : PySem.W.Frag) (hK : X.K = K := by rfl) : MtR X "list.count" (rCntF K) := by subst hK; exact mt_countF
theorem k_indexF {X : Cx} (K : PySem.W.Frag) (hK : X.K = K := by rfl) : MtR X "list.index" (rIndex K) := by subst hK; exact mt_index
section
variable {K : PySem.W.Frag} {H : Hp} {Q : VK}
theorem i_countF {p : Addr} {ys : List V} {y : V} {n : Nat} (h : SqL K H p ys) (f : flatV y = true) (g : ys.all flatV = true) (e : (ys.countP fun z => eqV z y) = n) (k : Q (.int (n : Nat)) H) : rCntF K (.ref p) [y] H Q := ⟨p, ys, y, rfl, rfl, h, f, g, by rw [e]; exact k⟩
theorem i_indexF {p : Addr} {ys : List V} {y z : V} {j : Nat} (h : SqL K H p ys) (f : flatV y = true) (g : ys.all flatV = true) (e : ys[j]? = some z) (e2 : eqV z y = true) (e3 : ∀ (m : Nat) (z' : V), m < j → ys[m]? = some z' → eqV z' y = false) (k : Q (.int (j : Nat)) H) : rIndex K (.ref p) [y] H Q := ⟨p, ys, y, j, z, rfl, rfl, h, f, g, e, e2, e3, k⟩
theorem i_insert {p : Addr} {xs : List V} {i : Int} {y : V} (h : H p = some (.lst xs)) (hl : xs.length ≤ 100000) (i0 : 0 ≤ i) (i1 : i < 1000000) (k : ∀ H', Fx p p H H' → H' p = some (.lst (xs.take i.toNat ++ [y] ++ xs.drop i.toNat)) → Q .non H') : ∃ (l : Addr) (xs : List V) (i_1 : Int) (y_1 : V), V.ref p = .ref l ∧ [V.int i, y] = [.int i_1, y_1] ∧ H l = some (.lst xs) ∧ xs.length < sizeLine ∧ 0 ≤ i_1 ∧ i_1 < 2 ^ 63 ∧ Q .non (upd H l (.lst (xs.take i_1.toNat ++ [y_1] ++ xs.drop i_1.toNat))) :=
  ⟨p, xs, i, y, rfl, rfl, h, Nat.lt_of_le_of_lt hl (by decide), i0, by omega, k _ (fx_upd h) upd_same⟩
end
end Pm

namespace Pm
open PySem PySem.Spec PyProof.Rows L2
/-! ### broken lines: knots, a slope behind the last -/
structure Ln where
  ks : List (Rat × Rat)
  sl : Rat
def dK (k : Rat × Rat) : PyData := .tuple [dP k.1, dP k.2]
def dL (l : Ln) : PyData := .tuple [.tuple (l.ks.map dK), dP l.sl]
def kAt (ks : List (Rat × Rat)) (i : Nat) : Rat × Rat := ks.getD i (0, 0)
theorem kAt_of {ks : List (Rat × Rat)} {i : Nat} {k : Rat × Rat} (h : ks[i]? = some k) : kAt ks i = k := by simp [kAt, List.getD_eq_getElem?_getD, h]
theorem kAt_get {ks : List (Rat × Rat)} {i : Nat} (h : i < ks.length) : ks[i]? = some (kAt ks i) := by simp [kAt, List.getD_eq_getElem?_getD, List.getElem?_eq_getElem h]
theorem kAt_mem {ks : List (Rat × Rat)} {i : Nat} (h : i < ks.length) : kAt ks i ∈ ks := List.mem_of_getElem? (kAt_get h)
/-- the slope behind the knot at a place -/
def slAt (l : Ln) (i : Nat) : Rat := if i + 1 < l.ks.length then ((kAt l.ks (i + 1)).2 - (kAt l.ks i).2) / ((kAt l.ks (i + 1)).1 - (kAt l.ks i).1) else l.sl
def yAt (l : Ln) (i : Nat) (x : Rat) : Rat := (kAt l.ks i).2 + slAt l i * (x - (kAt l.ks i).1)
/-- how many knots are no greater -/
def cnt (ks : List (Rat × Rat)) (x : Rat) : Nat := (ks.filter fun k => !decide (x < k.1)).length
def yOf (l : Ln) (x : Rat) : Rat := yAt l (cnt l.ks x - 1) x
/-- a line that begins at nought and rises, of numbers of so many bits -/
structure LnB (n : Nat) (l : Ln) : Prop where
  b : ∀ k ∈ l.ks, Bd n k.1 ∧ Bd n k.2
  s : Bd n l.sl
  r : ∀ i, i + 1 < l.ks.length → (kAt l.ks i).1 < (kAt l.ks (i + 1)).1
  f : 0 < l.ks.length ∧ (kAt l.ks 0).1 = 0
  len : l.ks.length ≤ 5000
theorem LnB.up {n m : Nat} {l : Ln} (h : LnB n l) (e : n ≤ m) : LnB m l := { h with b := fun k hk => ⟨(h.b k hk).1.mono e, (h.b k hk).2.mono e⟩, s := h.s.mono e }
theorem LnB.mono_ {n : Nat} {l : Ln} (h : LnB n l) : ∀ {i j : Nat}, i ≤ j → j < l.ks.length → (kAt l.ks i).1 ≤ (kAt l.ks j).1
  | i, 0, hij, _ => by obtain rfl : i = 0 := by omega
                       exact Rat.le_refl
  | i, j + 1, hij, hj => by
    by_cases c : i = j + 1
    · rw [c]; exact Rat.le_refl
    · have a := h.mono_ (i := i) (j := j) (by omega) (by omega)
      have b := h.r j hj
      grind
theorem LnB.ne {n : Nat} {l : Ln} (h : LnB n l) {i : Nat} (hi : i + 1 < l.ks.length) : (kAt l.ks (i + 1)).1 - (kAt l.ks i).1 ≠ 0 := by have := h.r i hi; grind
theorem LnB.slope {n : Nat} {l : Ln} (h : LnB n l) {i : Nat} (hi : i < l.ks.length) : Bd (4 * n + 2) (slAt l i) := by
  unfold slAt
  split
  · rename_i c
    have a := h.b _ (kAt_mem c)
    have b := h.b _ (kAt_mem hi)
    exact (bd_div (bd_sub a.2 b.2) (bd_sub a.1 b.1) (h.ne c)).mono (by omega)
  · exact h.s.mono (by omega)
theorem cnt_le (ks : List (Rat × Rat)) (x : Rat) : cnt ks x ≤ ks.length := List.length_filter_le ..
theorem cnt_yes {ks : List (Rat × Rat)} {x : Rat} {i : Nat} {k : Rat × Rat} (h : ks[i]? = some k) (c : ¬ x < k.1) : cnt (ks.take (i + 1)) x = cnt (ks.take i) x + 1 := by
  unfold cnt
  rw [List.take_add_one, h]
  simp [c]
theorem cnt_no {ks : List (Rat × Rat)} {x : Rat} {i : Nat} {k : Rat × Rat} (h : ks[i]? = some k) (c : x < k.1) : cnt (ks.take (i + 1)) x = cnt (ks.take i) x := by
  unfold cnt
  rw [List.take_add_one, h]
  simp [c]
theorem cnt_all {n : Nat} {l : Ln} (b : LnB n l) {x : Rat} : ∀ {i : Nat}, i < l.ks.length → ¬ x < (kAt l.ks i).1 → cnt (l.ks.take (i + 1)) x = i + 1
  | 0, hi, c => by
    rw [cnt_yes (kAt_get hi) c]
    simp [cnt]
  | i + 1, hi, c => by
    have r := b.r i hi
    rw [cnt_yes (kAt_get hi) c, cnt_all b (by omega) (by grind)]
theorem cnt_one {n : Nat} {l : Ln} (b : LnB n l) {x : Rat} (h : 0 ≤ x) : 1 ≤ cnt l.ks x := by
  obtain ⟨h0, e⟩ := b.f
  have a : ¬ x < (kAt l.ks 0).1 := by rw [e]; grind
  unfold cnt
  exact List.length_pos_iff.mpr fun z => by
    have := List.filter_eq_nil_iff.mp z (kAt l.ks 0) (kAt_mem h0)
    simp [a] at this
/-! ### a line, drawn -/
def dO : Option Rat → PyData
  | none => .none
  | some q => dP q
theorem eqv_PO (q : Rat) (o : Option Rat) : PyData.eqv (dP q) (dO o) = decide (some q = o) := by
  cases o with
  | none => simp [dO, dP, PyData.eqv]
  | some r =>
    rw [show dO (some r) = dP r from rfl, eqv_P]
    simp
theorem sh_O (o : Option Rat) : Sh 1 (dO o) := by
  cases o with
  | none => exact .none
  | some q => exact sh_P q
theorem last_getD {ss : List Rat} (h : 0 < ss.length) : ss.getLast? = some (ss.getD (ss.length - 1) 0) := by
  rw [List.getLast?_eq_getElem?, List.getD_eq_getElem?_getD, List.getElem?_eq_getElem (by omega)]
  rfl
theorem atI_end {xs : List V} {v : V} (h : xs[xs.length - 1]? = some v) : atI xs (-1) = some v := by
  obtain ⟨hl, e⟩ := List.getElem?_eq_some_iff.mp h
  have ne : xs ≠ [] := List.length_pos_iff.mp (by omega)
  have z := List.dropLast_concat_getLast ne
  rw [← z, L2.atI_last, List.getLast_eq_getElem]
  exact congrArg some e
theorem divInt_pos {a b : Int} (ha : 0 < a) (hb : 0 < b) : 0 < Rat.divInt a b := by
  have b0 : (0 : Rat) < (b : Rat) := by exact_mod_cast hb
  have a0 : (0 : Rat) < (a : Rat) := by exact_mod_cast ha
  have e : Rat.divInt a b * (b : Rat) = (a : Rat) := by
    rw [Rat.divInt_eq_div]
    exact Rat.div_mul_cancel (by grind)
  generalize Rat.divInt a b = q at *
  generalize (b : Rat) = d at *
  generalize (a : Rat) = c at *
  rcases (Rat.le_total : 0 ≤ q ∨ q ≤ 0) with h | h
  · by_cases z : q = 0
    · subst z
      grind
    · grind
  · have := Rat.mul_nonneg (show (0 : Rat) ≤ -q by grind) (show (0 : Rat) ≤ d by grind)
    grind
theorem fdiv_big {f p : Int} {n : Nat} (hp : 0 < p) (h : f.natAbs < 2 ^ n) : (f.fdiv p).natAbs < 2 ^ n := by
  rw [Int.fdiv_eq_ediv_of_nonneg _ (Int.le_of_lt hp)]
  exact Nat.lt_of_le_of_lt (Int.natAbs_ediv_le_natAbs _ _) h
/-- cut down to a number's multiples -/
theorem cut_mul {f p : Int} (h : 0 < p) : f - p < f.fdiv p * p ∧ f.fdiv p * p ≤ f := by
  rw [Int.fdiv_eq_ediv_of_nonneg f (by omega)]
  have a := Int.mul_ediv_add_emod f p
  have b := Int.emod_nonneg f (show p ≠ 0 by omega)
  have c := Int.emod_lt_of_pos f h
  rw [Int.mul_comm] at a
  omega
/-- the slopes of the knots so far, and their rise -/
structure Drw (ks : List (Rat × Rat)) (ss : List Rat) : Prop where
  f : 0 < ks.length ∧ (kAt ks 0).1 = 0
  r : ∀ i, i + 1 < ks.length → (kAt ks i).1 < (kAt ks (i + 1)).1
  s : ∀ i, i + 1 < ks.length → i < ss.length ∧ (kAt ks (i + 1)).2 = (kAt ks i).2 + ss.getD i 0 * ((kAt ks (i + 1)).1 - (kAt ks i).1)
  u : ∀ i, i + 1 < ss.length → ss.getD i 0 ≠ ss.getD (i + 1) 0
theorem kAt_left {ks : List (Rat × Rat)} {k : Rat × Rat} {i : Nat} (h : i < ks.length) : kAt (ks ++ [k]) i = kAt ks i := by simp [kAt, List.getD_eq_getElem?_getD, List.getElem?_append_left h]
theorem kAt_right {ks : List (Rat × Rat)} {k : Rat × Rat} : kAt (ks ++ [k]) ks.length = k := by simp [kAt, List.getD_eq_getElem?_getD]
theorem getD_left {ss : List Rat} {q : Rat} {i : Nat} (h : i < ss.length) : (ss ++ [q]).getD i 0 = ss.getD i 0 := by simp [List.getD_eq_getElem?_getD, List.getElem?_append_left h]
theorem getD_right {ss : List Rat} {q : Rat} : (ss ++ [q]).getD ss.length 0 = q := by simp [List.getD_eq_getElem?_getD]
theorem Drw.slope {ks : List (Rat × Rat)} {ss : List Rat} (h : Drw ks ss) {q : Rat} (c : some q ≠ ss.getLast?) : Drw ks (ss ++ [q]) := by
  refine ⟨h.f, h.r, fun i hi => ?_, fun i hi => ?_⟩
  · obtain ⟨a, b⟩ := h.s i hi
    exact ⟨by simp; omega, by rw [getD_left a]; exact b⟩
  · simp at hi
    by_cases e : i + 1 < ss.length
    · rw [getD_left e, getD_left (by omega)]
      exact h.u i e
    · have e2 : ss.length = i + 1 := by omega
      rw [← e2, getD_right, getD_left (by omega)]
      rw [last_getD (by omega), e2] at c
      exact fun z => c (by rw [← z]; rfl)
theorem Drw.knot {ks : List (Rat × Rat)} {ss : List Rat} (h : Drw ks ss) (hl : ks.length = ss.length) {q t : Rat} (t0 : 0 < t) {a b : Rat} (hk : kAt ks (ks.length - 1) = (a, b)) (hq : ss.getD (ss.length - 1) 0 = q) : Drw (ks ++ [(a + t, b + q * t)]) ss := by
  have k0 := h.f.1
  refine ⟨⟨by simp, by rw [kAt_left k0]; exact h.f.2⟩, fun i hi => ?_, fun i hi => ?_, h.u⟩
  · simp at hi
    by_cases e : i + 1 < ks.length
    · rw [kAt_left e, kAt_left (by omega)]
      exact h.r i e
    · have e2 : i + 1 = ks.length := by omega
      rw [e2, kAt_right, kAt_left (by omega), show i = ks.length - 1 by omega, hk]
      grind
  · simp at hi
    by_cases e : i + 1 < ks.length
    · rw [kAt_left e, kAt_left (by omega)]
      exact h.s i e
    · have e2 : i + 1 = ks.length := by omega
      refine ⟨by omega, ?_⟩
      rw [e2, kAt_right, kAt_left (by omega), show i = ks.length - 1 by omega, hk, show ks.length - 1 = ss.length - 1 by omega, hq]
      grind
/-- the line that was drawn -/
theorem Drw.line {ks : List (Rat × Rat)} {ss : List Rat} (h : Drw ks ss) (hl : ks.length = ss.length) {q : Rat} (hq : ss.getD (ss.length - 1) 0 = q) {i : Nat} (hi : i < ks.length) : slAt ⟨ks, q⟩ i = ss.getD i 0 := by
  unfold slAt
  show (if i + 1 < ks.length then _ else q) = _
  split
  · rename_i c
    obtain ⟨_, a⟩ := h.s i c
    have b := h.r i c
    show ((kAt ks (i + 1)).2 - (kAt ks i).2) / ((kAt ks (i + 1)).1 - (kAt ks i).1) = _
    rw [a, show (kAt ks i).2 + ss.getD i 0 * ((kAt ks (i + 1)).1 - (kAt ks i).1) - (kAt ks i).2 = ss.getD i 0 * ((kAt ks (i + 1)).1 - (kAt ks i).1) by grind]
    generalize ss.getD i 0 = u at *
    generalize e : (kAt ks (i + 1)).1 - (kAt ks i).1 = d at *
    have d0 : d ≠ 0 := by grind
    rw [Rat.div_def, Rat.mul_assoc, Rat.mul_inv_cancel _ d0, Rat.mul_one]
  · rename_i c
    rw [← hq, show i = ss.length - 1 by omega]
/-- a drawn line: all its numbers over a small bottom, unlike slopes -/
structure LnD (D : Nat) (l : Ln) : Prop where
  d0 : 0 < D
  d1 : D ≤ 24000
  b : ∀ k ∈ l.ks, Dv D (2 ^ 23) k.1 ∧ Dv D (2 ^ 23) k.2
  s : Dv D (2 ^ 14) l.sl
  r : ∀ i, i + 1 < l.ks.length → (kAt l.ks i).1 < (kAt l.ks (i + 1)).1
  f : 0 < l.ks.length ∧ (kAt l.ks 0).1 = 0
  u : ∀ i, i + 1 < l.ks.length → slAt l i ≠ slAt l (i + 1)
  sa : ∀ i, i < l.ks.length → Dv D (2 ^ 14) (slAt l i)
  len : l.ks.length ≤ 60
theorem dv22 {D B : Nat} {q : Rat} (d0 : 0 < D) (d1 : D ≤ 24000) (hB : B ≤ 2 ^ 23) (h : Dv D B q) : Bd 40 q := h.bd d0 (by omega) (by
  have := Nat.mul_le_mul hB d1
  omega)
theorem LnD.ln {D : Nat} {l : Ln} (h : LnD D l) : LnB 40 l := ⟨fun k hk => ⟨dv22 h.d0 h.d1 (by decide) (h.b k hk).1, dv22 h.d0 h.d1 (by decide) (h.b k hk).2⟩, dv22 h.d0 h.d1 (by decide) h.s, h.r, h.f, Nat.le_trans h.len (by decide)⟩
theorem divInt_lt0 {a b : Int} (ha : a < 0) (hb : 0 < b) : Rat.divInt a b < 0 := by
  have b0 : (0 : Rat) < (b : Rat) := by exact_mod_cast hb
  have a0 : (a : Rat) < 0 := by exact_mod_cast ha
  have e : Rat.divInt a b * (b : Rat) = (a : Rat) := by
    rw [Rat.divInt_eq_div]
    exact Rat.div_mul_cancel (by grind)
  generalize Rat.divInt a b = q at *
  generalize (b : Rat) = d at *
  generalize (a : Rat) = c at *
  rcases (Rat.le_total : 0 ≤ q ∨ q ≤ 0) with h | h
  · have := Rat.mul_nonneg h (show (0 : Rat) ≤ d by grind)
    grind
  · by_cases z : q = 0
    · subst z
      grind
    · grind
theorem divInt_ge0 {a b : Int} (ha : 0 ≤ a) (hb : 0 < b) : 0 ≤ Rat.divInt a b := by
  rcases (by omega : a = 0 ∨ 0 < a) with rfl | h
  · rw [Rat.zero_divInt]
    exact Rat.le_refl
  · have := divInt_pos h hb
    grind

/-! ### lines by their lists -/
abbrev Kn := Rat × Rat
def rise (p k : Kn) : Rat := (k.2 - p.2) / (k.1 - p.1)
def fs (p : Kn) (rest : List Kn) (s : Rat) : Rat := match rest with
  | [] => s
  | k :: _ => rise p k
def val (p : Kn) : List Kn → Rat → Rat → Rat
  | [], s, x => p.2 + s * (x - p.1)
  | k :: r, s, x => if x < k.1 then p.2 + rise p k * (x - p.1) else val k r s x
/-- the slope to the right of x -/
def sr (p : Kn) : List Kn → Rat → Rat → Rat
  | [], s, _ => s
  | k :: r, s, x => if x < k.1 then rise p k else sr k r s x
def Up (p : Kn) : List Kn → Prop
  | [] => True
  | k :: r => p.1 < k.1 ∧ Up k r
/-- the knots behind p at which it goes not straight on -/
def nrm (p : Kn) : List Kn → Rat → List Kn
  | [], _ => []
  | k :: r, s => if rise p k = fs k r s then nrm p r s else k :: nrm k r s
def Nml (p : Kn) : List Kn → Rat → Prop
  | [], _ => True
  | k :: r, s => rise p k ≠ fs k r s ∧ Nml k r s
theorem Up.skip {p k : Kn} {r : List Kn} (h : Up p (k :: r)) : Up p r := by
  obtain ⟨h1, h2⟩ := h
  cases r with
  | nil => trivial
  | cons k2 r => exact ⟨by have := h2.1; grind, h2.2⟩
theorem Up.lt {k : Kn} : ∀ {p : Kn} {r : List Kn}, Up p r → k ∈ r → p.1 < k.1
  | p, k0 :: r, h, hk => by
    rcases List.mem_cons.mp hk with rfl | hk
    · exact h.1
    · have := Up.lt h.2 hk
      have := h.1
      grind
theorem rise_mul {p k : Kn} (h : p.1 < k.1) : rise p k * (k.1 - p.1) = k.2 - p.2 := by
  unfold rise
  exact Rat.div_mul_cancel (by grind)
theorem rise_eq {p k : Kn} {c : Rat} (h : p.1 < k.1) (e : k.2 - p.2 = c * (k.1 - p.1)) : rise p k = c := by
  have d0 : k.1 - p.1 ≠ 0 := by grind
  unfold rise
  rw [e, Rat.div_def, Rat.mul_assoc, Rat.mul_inv_cancel _ d0, Rat.mul_one]
theorem rise_two {p k k2 : Kn} (h : p.1 < k.1) (h2 : k.1 < k2.1) (e : rise p k = rise k k2) : rise p k2 = rise p k := by
  have a := rise_mul h
  have b := rise_mul h2
  rw [← e] at b
  refine rise_eq (by grind) ?_
  generalize rise p k = c at *
  grind
theorem val_at {k : Kn} {s : Rat} : ∀ {p : Kn} {r : List Kn}, Up p r → k ∈ p :: r → val p r s k.1 = k.2
  | p, [], _, hk => by
    obtain rfl := List.mem_singleton.mp hk
    unfold val
    grind
  | p, k0 :: r, h, hk => by
    unfold val
    rcases List.mem_cons.mp hk with rfl | hk
    · rw [if_pos h.1]
      grind
    · have e : ¬ k.1 < k0.1 := by
        rcases List.mem_cons.mp hk with rfl | hk
        · grind
        · have := Up.lt h.2 hk
          grind
      rw [if_neg e]
      exact val_at h.2 hk
theorem val_step {s u v : Rat} : ∀ {p : Kn} {r : List Kn}, Up p r → p.1 ≤ u → u ≤ v → (∀ k ∈ r, ¬ (u < k.1 ∧ k.1 < v)) → val p r s v = val p r s u + sr p r s u * (v - u)
  | p, [], _, _, _, _ => by
    unfold val sr
    grind
  | p, k0 :: r, h, hp, huv, hn => by
    have c0 := hn k0 (List.mem_cons_self ..)
    unfold val sr
    by_cases c : u < k0.1
    · rw [if_pos c, if_pos c]
      by_cases c2 : v < k0.1
      · rw [if_pos c2]
        grind
      · rw [if_neg c2]
        have e : v = k0.1 := by grind
        rw [e, val_at h.2 (List.mem_cons_self ..)]
        have := rise_mul h.1
        grind
    · rw [if_neg c, if_neg c, if_neg (by grind)]
      exact val_step h.2 (by grind) huv fun k hk => hn k (List.mem_cons_of_mem _ hk)
theorem sr_end {s u : Rat} : ∀ {p : Kn} {r : List Kn}, (∀ k ∈ r, ¬ u < k.1) → sr p r s u = s
  | p, [], _ => rfl
  | p, k0 :: r, h => by
    unfold sr
    rw [if_neg (h k0 (List.mem_cons_self ..))]
    exact sr_end fun k hk => h k (List.mem_cons_of_mem _ hk)
/-! what straightening keeps -/
theorem up_nrm {s : Rat} : ∀ {p : Kn} {r : List Kn}, Up p r → Up p (nrm p r s)
  | p, [], _ => trivial
  | p, k :: r, h => by
    unfold nrm
    split
    · exact up_nrm h.skip
    · exact ⟨h.1, up_nrm h.2⟩
theorem mem_nrm {s : Rat} {x : Kn} : ∀ {p : Kn} {r : List Kn}, x ∈ nrm p r s → x ∈ r
  | p, [], h => h
  | p, k :: r, h => by
    unfold nrm at h
    split at h
    · exact List.mem_cons_of_mem _ (mem_nrm h)
    · rcases List.mem_cons.mp h with rfl | h
      · exact List.mem_cons_self ..
      · exact List.mem_cons_of_mem _ (mem_nrm h)
theorem fs_nrm {s : Rat} : ∀ {p : Kn} {r : List Kn}, Up p r → fs p (nrm p r s) s = fs p r s
  | p, [], _ => rfl
  | p, k :: r, h => by
    unfold nrm
    split
    · rename_i e
      rw [fs_nrm h.skip]
      cases r with
      | nil => exact e.symm
      | cons k2 r => exact rise_two h.1 h.2.1 e
    · rfl
theorem val_skip {s x : Rat} {p k : Kn} {r : List Kn} (h : Up p (k :: r)) (e : rise p k = fs k r s) : val p r s x = val p (k :: r) s x := by
  have a := rise_mul h.1
  cases r with
  | nil =>
    have e : rise p k = s := e
    show p.2 + s * (x - p.1) = if x < k.1 then p.2 + rise p k * (x - p.1) else k.2 + s * (x - k.1)
    rw [e] at a ⊢
    split <;> grind
  | cons k2 r =>
    have e : rise p k = rise k k2 := e
    have e2 := rise_two h.1 h.2.1 e
    have l2 : k.1 < k2.1 := h.2.1
    show (if x < k2.1 then p.2 + rise p k2 * (x - p.1) else val k2 r s x) = if x < k.1 then p.2 + rise p k * (x - p.1) else if x < k2.1 then k.2 + rise k k2 * (x - k.1) else val k2 r s x
    rw [e2, ← e]
    by_cases c : x < k.1
    · rw [if_pos (show x < k2.1 by grind), if_pos c]
    · rw [if_neg c]
      split <;> grind
theorem val_nrm {s x : Rat} : ∀ {p : Kn} {r : List Kn}, Up p r → val p (nrm p r s) s x = val p r s x
  | p, [], _ => rfl
  | p, k :: r, h => by
    unfold nrm
    split
    · rename_i e
      rw [val_nrm h.skip]
      exact val_skip h e
    · show (if x < k.1 then _ else val k (nrm k r s) s x) = if x < k.1 then _ else val k r s x
      rw [val_nrm h.2]
theorem nml_nrm {s : Rat} : ∀ {p : Kn} {r : List Kn}, Up p r → Nml p (nrm p r s) s
  | p, [], _ => trivial
  | p, k :: r, h => by
    unfold nrm
    split
    · exact nml_nrm h.skip
    · rename_i e
      exact ⟨by rw [fs_nrm h.2]; exact e, nml_nrm h.2⟩
/-- all slopes are so -/
def SlP (P : Rat → Prop) (p : Kn) : List Kn → Rat → Prop
  | [], s => P s
  | k :: r, s => P (rise p k) ∧ SlP P k r s
theorem SlP.fs {P : Rat → Prop} {p : Kn} {r : List Kn} {s : Rat} (h : SlP P p r s) : P (fs p r s) := by
  cases r with
  | nil => exact h
  | cons k r => exact h.1
theorem SlP.end_ {P : Rat → Prop} {s : Rat} : ∀ {p : Kn} {r : List Kn}, SlP P p r s → P s
  | p, [], h => h
  | p, k :: r, h => SlP.end_ h.2
theorem SlP.skip {P : Rat → Prop} {p k : Kn} {r : List Kn} {s : Rat} (h : SlP P p (k :: r) s) (u : Up p (k :: r)) (e : rise p k = Pm.fs k r s) : SlP P p r s := by
  cases r with
  | nil => exact h.2
  | cons k2 r => exact ⟨by rw [rise_two u.1 u.2.1 e]; exact h.1, h.2.2⟩
theorem SlP.nrm {P : Rat → Prop} {s : Rat} : ∀ {p : Kn} {r : List Kn}, Up p r → SlP P p r s → SlP P p (nrm p r s) s
  | p, [], _, h => h
  | p, k :: r, u, h => by
    unfold Pm.nrm
    split
    · rename_i e
      exact SlP.nrm u.skip (h.skip u e)
    · exact ⟨h.1, SlP.nrm u.2 h.2⟩
theorem SlP.sr {P : Rat → Prop} {s x : Rat} : ∀ {p : Kn} {r : List Kn}, SlP P p r s → P (sr p r s x)
  | p, [], h => h
  | p, k :: r, h => by
    unfold Pm.sr
    split
    · exact h.1
    · exact SlP.sr h.2
theorem SlP.mono {P Q : Rat → Prop} {s : Rat} (i : ∀ q, P q → Q q) : ∀ {p : Kn} {r : List Kn}, SlP P p r s → SlP Q p r s
  | p, [], h => i _ h
  | p, k :: r, h => ⟨i _ h.1, SlP.mono i h.2⟩
/-! by places -/
theorem slAt_zero {p : Kn} {r : List Kn} {s : Rat} : slAt ⟨p :: r, s⟩ 0 = fs p r s := by
  cases r with
  | nil => simp [slAt, fs]
  | cons k r => simp [slAt, fs, kAt, rise]
theorem slAt_succ {p k : Kn} {r : List Kn} {s : Rat} {i : Nat} : slAt ⟨p :: k :: r, s⟩ (i + 1) = slAt ⟨k :: r, s⟩ i := by
  simp [slAt, kAt]
theorem SlP.at {P : Rat → Prop} {s : Rat} : ∀ {p : Kn} {r : List Kn} {i : Nat}, SlP P p r s → i < (p :: r).length → P (slAt ⟨p :: r, s⟩ i)
  | p, r, 0, h, _ => by rw [slAt_zero]; exact h.fs
  | p, [], i + 1, _, hi => absurd hi (by simp)
  | p, k :: r, i + 1, h, hi => by rw [slAt_succ]; exact SlP.at h.2 (by simpa using hi)
theorem SlP.of {P : Rat → Prop} {s : Rat} : ∀ {p : Kn} {r : List Kn}, (∀ i, i < (p :: r).length → P (slAt ⟨p :: r, s⟩ i)) → SlP P p r s
  | p, [], h => by have := h 0 (by simp); rwa [slAt_zero] at this
  | p, k :: r, h => ⟨by have := h 0 (by simp); rwa [slAt_zero] at this, SlP.of fun i hi => by have := h (i + 1) (by simpa using hi); rwa [slAt_succ] at this⟩
theorem Nml.at {s : Rat} : ∀ {p : Kn} {r : List Kn} {i : Nat}, Nml p r s → i + 1 < (p :: r).length → slAt ⟨p :: r, s⟩ i ≠ slAt ⟨p :: r, s⟩ (i + 1)
  | p, [], i, _, hi => absurd hi (by simp)
  | p, k :: r, 0, h, _ => by rw [slAt_zero, slAt_succ, slAt_zero]; exact h.1
  | p, k :: r, i + 1, h, hi => by rw [slAt_succ, slAt_succ]; exact Nml.at h.2 (by simpa using hi)
theorem Nml.of {s : Rat} : ∀ {p : Kn} {r : List Kn}, (∀ i, i + 1 < (p :: r).length → slAt ⟨p :: r, s⟩ i ≠ slAt ⟨p :: r, s⟩ (i + 1)) → Nml p r s
  | p, [], _ => trivial
  | p, k :: r, h => ⟨by have := h 0 (by simp); rwa [slAt_zero, slAt_succ, slAt_zero] at this, Nml.of fun i hi => by have := h (i + 1) (by simpa using hi); rwa [slAt_succ, slAt_succ] at this⟩
theorem Up.at : ∀ {p : Kn} {r : List Kn} {i : Nat}, Up p r → i + 1 < (p :: r).length → (kAt (p :: r) i).1 < (kAt (p :: r) (i + 1)).1
  | p, [], i, _, hi => absurd hi (by simp)
  | p, k :: r, 0, h, _ => by simpa [kAt] using h.1
  | p, k :: r, i + 1, h, hi => by simpa [kAt] using Up.at (i := i) h.2 (by simpa using hi)
theorem Up.of : ∀ {p : Kn} {r : List Kn}, (∀ i, i + 1 < (p :: r).length → (kAt (p :: r) i).1 < (kAt (p :: r) (i + 1)).1) → Up p r
  | p, [], _ => trivial
  | p, k :: r, h => ⟨by simpa [kAt] using h 0 (by simp), Up.of fun i hi => by simpa [kAt] using h (i + 1) (by simpa using hi)⟩
theorem cnt_cons {p : Kn} {r : List Kn} {x : Rat} (h : ¬ x < p.1) : cnt (p :: r) x = cnt r x + 1 := by simp [cnt, h]
theorem cnt_zero {x : Rat} {r : List Kn} (h : ∀ k ∈ r, x < k.1) : cnt r x = 0 := by
  unfold cnt
  rw [List.length_eq_zero_iff, List.filter_eq_nil_iff]
  intro k hk
  simp [h k hk]
theorem yAt_succ {p k : Kn} {r : List Kn} {s x : Rat} {i : Nat} : yAt ⟨p :: k :: r, s⟩ (i + 1) x = yAt ⟨k :: r, s⟩ i x := by
  unfold yAt
  rw [slAt_succ]
  simp [kAt]
theorem yOf_val {s x : Rat} : ∀ {p : Kn} {r : List Kn}, Up p r → p.1 ≤ x → yOf ⟨p :: r, s⟩ x = val p r s x
  | p, [], _, h => by
    have c : ¬ x < p.1 := by grind
    unfold yOf
    rw [cnt_cons c]
    show yAt _ 0 x = _
    unfold yAt
    rw [slAt_zero]
    rfl
  | p, k :: r, u, h => by
    have c : ¬ x < p.1 := by grind
    unfold yOf val
    rw [cnt_cons c]
    split
    · rename_i c2
      rw [cnt_zero fun z hz => by
        rcases List.mem_cons.mp hz with rfl | hz
        · exact c2
        · have := Up.lt u.2 hz
          grind]
      show yAt _ 0 x = _
      unfold yAt
      rw [slAt_zero]
      rfl
    · rename_i c2
      rw [← yOf_val u.2 (by grind), cnt_cons c2]
      show yAt _ (cnt r x + 1) x = _
      rw [yAt_succ]
      unfold yOf
      rw [cnt_cons c2]
      rfl
/-- a line of numbers of so many bits: x, y, slopes -/
structure LnG (a b c : Nat) (l : Ln) : Prop where
  b : ∀ k ∈ l.ks, Bd a k.1 ∧ Bd b k.2
  s : ∀ i, i < l.ks.length → Bd c (slAt l i)
  r : ∀ i, i + 1 < l.ks.length → (kAt l.ks i).1 < (kAt l.ks (i + 1)).1
  f : 0 < l.ks.length ∧ (kAt l.ks 0).1 = 0
  len : l.ks.length ≤ 5000
theorem LnG.up {a b c a' b' c' : Nat} {l : Ln} (h : LnG a b c l) (e1 : a ≤ a') (e2 : b ≤ b') (e3 : c ≤ c') : LnG a' b' c' l := { h with b := fun k hk => ⟨(h.b k hk).1.mono e1, (h.b k hk).2.mono e2⟩, s := fun i hi => (h.s i hi).mono e3 }
theorem LnG.sl {a b c : Nat} {l : Ln} (h : LnG a b c l) : Bd c l.sl := by
  have z := h.s (l.ks.length - 1) (by have := h.f.1; omega)
  unfold slAt at z
  rwa [if_neg (by have := h.f.1; omega)] at z
/-- its list -/
theorem LnG.list {a b c : Nat} {l : Ln} (h : LnG a b c l) : ∃ p r, l = ⟨p :: r, l.sl⟩ ∧ p.1 = 0 ∧ Up p r ∧ SlP (Bd c) p r l.sl := by
  obtain ⟨ks, s⟩ := l
  have h0 := h.f
  cases ks with
  | nil => exact absurd h0.1 (by simp)
  | cons p r => exact ⟨p, r, rfl, h0.2, Up.of h.r, SlP.of h.s⟩
theorem LnG.of {a b c : Nat} {p : Kn} {r : List Kn} {s : Rat} (h0 : p.1 = 0) (u : Up p r) (z : SlP (Bd c) p r s) (k : ∀ x ∈ p :: r, Bd a x.1 ∧ Bd b x.2) (hl : (p :: r).length ≤ 5000) : LnG a b c ⟨p :: r, s⟩ :=
  ⟨k, fun i hi => z.at hi, fun i hi => u.at hi, ⟨by simp, h0⟩, hl⟩
theorem LnD.lng {D : Nat} {l : Ln} (h : LnD D l) : LnG 40 40 40 l := ⟨h.ln.b, fun i hi => dv22 h.d0 h.d1 (by decide) (h.sa i hi), h.r, h.f, Nat.le_trans h.len (by decide)⟩
/-- unlike slopes -/
def Nm (l : Ln) : Prop := ∀ i, i + 1 < l.ks.length → slAt l i ≠ slAt l (i + 1)
/-- the normal line of some knots -/
def nline (p : Kn) (r : List Kn) (s : Rat) : Ln := ⟨p :: nrm p r s, s⟩
theorem nline_len : ∀ (p : Kn) (r : List Kn) (s : Rat), (nrm p r s).length ≤ r.length
  | p, [], _ => by simp [nrm]
  | p, k :: r, s => by
    unfold nrm
    split
    · have := nline_len p r s
      simp
      omega
    · have := nline_len k r s
      simpa using this
theorem nline_ln {a b c : Nat} {p : Kn} {r : List Kn} {s : Rat} (h0 : p.1 = 0) (u : Up p r) (z : SlP (Bd c) p r s) (k : ∀ x ∈ p :: r, Bd a x.1 ∧ Bd b x.2) (hl : (p :: r).length ≤ 5000) : LnG a b c (nline p r s) :=
  LnG.of h0 (up_nrm u) (z.nrm u) (fun x hx => by
    rcases List.mem_cons.mp hx with rfl | hx
    · exact k _ (List.mem_cons_self ..)
    · exact k x (List.mem_cons_of_mem _ (mem_nrm hx))) (by have := nline_len p r s; simp at hl ⊢; omega)
theorem nline_nm {p : Kn} {r : List Kn} {s : Rat} (u : Up p r) : Nm (nline p r s) := fun i hi => (nml_nrm u).at hi
theorem nline_y {p : Kn} {r : List Kn} {s x : Rat} (u : Up p r) (h : p.1 ≤ x) : yOf (nline p r s) x = val p r s x := by
  unfold nline
  rw [yOf_val (up_nrm u) h, val_nrm u]
theorem LnG.mono_ {a b c : Nat} {l : Ln} (h : LnG a b c l) : ∀ {i j : Nat}, i ≤ j → j < l.ks.length → (kAt l.ks i).1 ≤ (kAt l.ks j).1
  | i, 0, hij, _ => by obtain rfl : i = 0 := by omega
                       exact Rat.le_refl
  | i, j + 1, hij, hj => by
    by_cases c : i = j + 1
    · rw [c]; exact Rat.le_refl
    · have a := h.mono_ (i := i) (j := j) (by omega) (by omega)
      have b := h.r j hj
      grind
theorem LnG.ne {a b c : Nat} {l : Ln} (h : LnG a b c l) {i : Nat} (hi : i + 1 < l.ks.length) : (kAt l.ks (i + 1)).1 - (kAt l.ks i).1 ≠ 0 := by have := h.r i hi; grind
theorem cnt_allG {a b c : Nat} {l : Ln} (h : LnG a b c l) {x : Rat} : ∀ {i : Nat}, i < l.ks.length → ¬ x < (kAt l.ks i).1 → cnt (l.ks.take (i + 1)) x = i + 1
  | 0, hi, e => by
    rw [cnt_yes (kAt_get hi) e]
    simp [cnt]
  | i + 1, hi, e => by
    have r := h.r i hi
    rw [cnt_yes (kAt_get hi) e, cnt_allG h (by omega) (by grind)]
theorem cnt_oneG {a b c : Nat} {l : Ln} (h : LnG a b c l) {x : Rat} (h0 : 0 ≤ x) : 1 ≤ cnt l.ks x := by
  obtain ⟨p, r, e, z, _⟩ := h.list
  rw [e, cnt_cons (by grind)]
  omega
theorem LnG.yo {a b c m : Nat} {l : Ln} (h : LnG a b c l) {x : Rat} (bx : Bd m x) : Bd (a + b + c + m + 5) (yOf l x) := by
  have := cnt_le l.ks x
  have := h.f.1
  have hi : cnt l.ks x - 1 < l.ks.length := by omega
  have z := h.b _ (kAt_mem hi)
  exact (bd_add z.2 (bd_mul (h.s _ hi) (bd_sub bx z.1))).mono (by omega)
theorem LnG.nn {a b c : Nat} {l : Ln} (h : LnG a b c l) {k : Kn} (hk : k ∈ l.ks) : 0 ≤ k.1 := by
  obtain ⟨j, hj, rfl⟩ := List.getElem_of_mem hk
  have z := h.mono_ (i := 0) (j := j) (by omega) hj
  rwa [h.f.2, kAt_of (List.getElem?_eq_getElem hj)] at z
/-- the value goes straight to the next knot -/
theorem LnG.step {a b c : Nat} {l : Ln} (h : LnG a b c l) {u : Rat} (u0 : 0 ≤ u) : ∃ g, Bd c g ∧ ((∀ k ∈ l.ks, ¬ u < k.1) → g = l.sl) ∧ ∀ v, u ≤ v → (∀ k ∈ l.ks, ¬ (u < k.1 ∧ k.1 < v)) → yOf l v = yOf l u + g * (v - u) := by
  obtain ⟨p, r, e, z, up, sl⟩ := h.list
  refine ⟨sr p r l.sl u, sl.sr, fun g => sr_end fun k hk => g k (by rw [e]; exact List.mem_cons_of_mem _ hk), fun v hv g => ?_⟩
  rw [e, yOf_val up (by grind), yOf_val up (by grind)]
  exact val_step up (by grind) hv fun k hk => g k (by rw [e]; exact List.mem_cons_of_mem _ hk)
/-! rising rows of numbers -/
def insR (x : Rat) : List Rat → List Rat
  | [] => [x]
  | a :: r => if a < x then a :: insR x r else if a = x then a :: r else x :: a :: r
def Ris (a : Rat) : List Rat → Prop
  | [] => True
  | b :: r => a < b ∧ Ris b r
def RisL : List Rat → Prop
  | [] => True
  | a :: r => Ris a r
theorem mem_insR {x y : Rat} : ∀ {r : List Rat}, y ∈ insR x r ↔ y = x ∨ y ∈ r
  | [] => by simp [insR]
  | a :: r => by
    unfold insR
    split
    · rw [List.mem_cons, mem_insR (r := r), List.mem_cons]
      grind
    · split
      · rename_i e
        rw [List.mem_cons]
        grind
      · simp
theorem ris_insR {x : Rat} : ∀ {a : Rat} {r : List Rat}, Ris a r → a < x → Ris a (insR x r)
  | a, [], _, c => ⟨c, trivial⟩
  | a, b :: r, h, c => by
    unfold insR
    split
    · rename_i e
      exact ⟨h.1, ris_insR h.2 e⟩
    · split
      · exact h
      · rename_i e1 e2
        exact ⟨c, by grind, h.2⟩
theorem risL_insR {x : Rat} {r : List Rat} (h : RisL r) : RisL (insR x r) := by
  cases r with
  | nil => trivial
  | cons a r =>
    unfold insR
    split
    · rename_i e
      exact ris_insR h e
    · split
      · exact h
      · exact ⟨by grind, h⟩
theorem Ris.lt {y : Rat} : ∀ {a : Rat} {r : List Rat}, Ris a r → y ∈ r → a < y
  | a, b :: r, h, hy => by
    rcases List.mem_cons.mp hy with rfl | hy
    · exact h.1
    · have := Ris.lt h.2 hy
      have := h.1
      grind
/-- how many are less -/
def lessN (x : Rat) (r : List Rat) : Nat := (r.filter fun a => decide (a < x)).length
theorem lessN_le (x : Rat) (r : List Rat) : lessN x r ≤ r.length := List.length_filter_le ..
theorem lessN_zero {x a : Rat} {r : List Rat} (h : Ris a r) (c : ¬ a < x) : lessN x r = 0 := by
  unfold lessN
  rw [List.length_eq_zero_iff, List.filter_eq_nil_iff]
  intro y hy
  have := h.lt hy
  simp
  grind
theorem RisL.tail {a : Rat} {r : List Rat} (h : RisL (a :: r)) : RisL r := by
  cases r with
  | nil => trivial
  | cons b r => exact h.2
/-- put in at its place -/
theorem insR_place {x : Rat} : ∀ {r : List Rat}, RisL r → (if lessN x r = r.length ∨ r[lessN x r]? ≠ some x then r.take (lessN x r) ++ [x] ++ r.drop (lessN x r) else r) = insR x r
  | [], _ => by simp [lessN, insR]
  | a :: r, h => by
    unfold insR
    by_cases c : a < x
    · rw [if_pos c, ← insR_place h.tail]
      have e : lessN x (a :: r) = lessN x r + 1 := by simp [lessN, c]
      rw [e]
      simp only [List.length_cons, Nat.add_right_cancel_iff, List.getElem?_cons_succ, List.take_succ_cons, List.drop_succ_cons, List.cons_append]
      split <;> rfl
    · have e : lessN x (a :: r) = 0 := by
        have z : lessN x (a :: r) = lessN x r := by simp [lessN, c]
        rw [z]
        exact lessN_zero h c
      rw [if_neg c, e]
      by_cases c2 : a = x
      · simp [c2]
      · simp [c2]
end Pm

namespace Pm
open PySem PySem.Spec PyProof.Rows L2
/-! ### a line through the points of a function that goes straight between them -/
def Itp (P : Rat → Prop) (f : Rat → Rat) (p : Kn) : List Kn → Rat → Prop
  | [], s => p.2 = f p.1 ∧ P s ∧ ∀ w, p.1 ≤ w → f w = f p.1 + s * (w - p.1)
  | k :: r, s => p.2 = f p.1 ∧ p.1 < k.1 ∧ (∃ g, P g ∧ ∀ w, p.1 ≤ w → w ≤ k.1 → f w = f p.1 + g * (w - p.1)) ∧ Itp P f k r s
theorem Itp.y {P : Rat → Prop} {f : Rat → Rat} {p : Kn} {r : List Kn} {s : Rat} (h : Itp P f p r s) : p.2 = f p.1 := by
  cases r with
  | nil => exact h.1
  | cons k r => exact h.1
theorem Itp.up {P : Rat → Prop} {f : Rat → Rat} {s : Rat} : ∀ {p : Kn} {r : List Kn}, Itp P f p r s → Up p r
  | p, [], _ => trivial
  | p, k :: r, h => ⟨h.2.1, Itp.up h.2.2.2⟩
theorem Itp.rise {P : Rat → Prop} {f : Rat → Rat} {s : Rat} {p k : Kn} {r : List Kn} (h : Itp P f p (k :: r) s) : ∃ g, P g ∧ rise p k = g ∧ ∀ w, p.1 ≤ w → w ≤ k.1 → f w = f p.1 + g * (w - p.1) := by
  obtain ⟨h1, h2, ⟨g, h3, h4⟩, h5⟩ := h
  refine ⟨g, h3, rise_eq h2 ?_, h4⟩
  have := h4 k.1 (by grind) Rat.le_refl
  rw [h5.y, h1]
  grind
theorem Itp.sl {P : Rat → Prop} {f : Rat → Rat} {s : Rat} : ∀ {p : Kn} {r : List Kn}, Itp P f p r s → SlP P p r s
  | p, [], h => h.2.1
  | p, k :: r, h => by
    obtain ⟨g, h3, h4, _⟩ := h.rise
    exact ⟨by rw [h4]; exact h3, Itp.sl h.2.2.2⟩
theorem Itp.val {P : Rat → Prop} {f : Rat → Rat} {s x : Rat} : ∀ {p : Kn} {r : List Kn}, Itp P f p r s → p.1 ≤ x → val p r s x = f x
  | p, [], h, hx => by
    unfold Pm.val
    rw [h.2.2 x hx, h.1]
  | p, k :: r, h, hx => by
    unfold Pm.val
    obtain ⟨g, h3, h4, h5⟩ := h.rise
    split
    · rename_i c
      rw [h4, h5 x hx (by grind), h.1]
    · exact Itp.val h.2.2.2 (by grind)
theorem itp_of {P : Rat → Prop} {f : Rat → Rat} {s : Rat} : ∀ {a : Rat} {r : List Rat}, Ris a r → (∀ u ∈ a :: r, ∃ g, P g ∧ ((∀ q ∈ a :: r, ¬ u < q) → g = s) ∧ ∀ v, u ≤ v → (∀ q ∈ a :: r, ¬ (u < q ∧ q < v)) → f v = f u + g * (v - u)) →
    Itp P f (a, f a) (r.map fun x => (x, f x)) s
  | a, [], _, h => by
    obtain ⟨g, g1, g2, g3⟩ := h a (List.mem_cons_self ..)
    have e : g = s := g2 fun q hq => by
      obtain rfl := List.mem_singleton.mp hq
      grind
    subst e
    exact ⟨rfl, g1, fun w hw => g3 w hw fun q hq => by
      obtain rfl := List.mem_singleton.mp hq
      grind⟩
  | a, b :: r, ri, h => by
    obtain ⟨g, g1, _, g3⟩ := h a (List.mem_cons_self ..)
    refine ⟨rfl, ri.1, ⟨g, g1, fun w hw hwb => g3 w hw fun q hq => ?_⟩, itp_of ri.2 fun u hu => ?_⟩
    · show ¬ (a < q ∧ q < w)
      have hwb : w ≤ b := hwb
      rcases List.mem_cons.mp hq with rfl | hq
      · grind
      · rcases List.mem_cons.mp hq with rfl | hq
        · grind
        · have := ri.2.lt hq
          grind
    · have ub : a < u := by
        rcases List.mem_cons.mp hu with rfl | hu
        · exact ri.1
        · have := ri.2.lt hu
          have := ri.1
          grind
      obtain ⟨g, g1, g2, g3⟩ := h u (List.mem_cons_of_mem _ hu)
      refine ⟨g, g1, fun z => g2 fun q hq => ?_, fun v hv z => g3 v hv fun q hq => ?_⟩
      · rcases List.mem_cons.mp hq with rfl | hq
        · grind
        · exact z q hq
      · rcases List.mem_cons.mp hq with rfl | hq
        · grind
        · exact z q hq
/-- a normal line that is a function, s its slope behind -/
structure LnF (a b c n : Nat) (f : Rat → Rat) (s : Rat) (l : Ln) : Prop where
  g : LnG a b c l
  nm : Nm l
  y : ∀ x, 0 ≤ x → yOf l x = f x
  e : l.sl = s
  le : l.ks.length ≤ n
theorem nline_f {a b c n : Nat} {f : Rat → Rat} {s : Rat} {p : Kn} {r : List Kn} (h : Itp (Bd c) f p r s) (h0 : p.1 = 0) (k : ∀ x ∈ p :: r, Bd a x.1 ∧ Bd b x.2) (hl : (p :: r).length ≤ n) (hn : n ≤ 5000) : LnF a b c n f s (nline p r s) :=
  ⟨nline_ln h0 h.up h.sl k (Nat.le_trans hl hn), nline_nm h.up, fun x hx => by rw [nline_y h.up (by grind), h.val (by grind)], rfl, by
    have := nline_len p r s
    show (p :: nrm p r s).length ≤ n
    simp at hl ⊢
    omega⟩
/-- a drawn one is such -/
theorem LnD.fn {D : Nat} {l : Ln} (h : LnD D l) : LnF 40 40 40 60 (yOf l) l.sl l := ⟨h.lng, h.u, fun _ _ => rfl, rfl, h.len⟩
theorem LnF.up {a b c n a' b' c' n' : Nat} {f : Rat → Rat} {s : Rat} {l : Ln} (h : LnF a b c n f s l) (e1 : a ≤ a') (e2 : b ≤ b') (e3 : c ≤ c') (e4 : n ≤ n') : LnF a' b' c' n' f s l := ⟨h.g.up e1 e2 e3, h.nm, h.y, h.e, Nat.le_trans h.le e4⟩
/-- all x of knots of two lines, rising: they begin at nought -/
theorem xs_head {l1 l2 : Ln} {a b c a' b' c' : Nat} (g1 : LnG a b c l1) (g2 : LnG a' b' c' l2) {qs : List Rat} (hr : RisL qs) (hm : ∀ x, x ∈ qs ↔ (∃ k ∈ l1.ks, k.1 = x) ∨ ∃ k ∈ l2.ks, k.1 = x) : ∃ r, qs = 0 :: r ∧ Ris 0 r ∧ ∀ q ∈ qs, 0 ≤ q := by
  have nn : ∀ q ∈ qs, 0 ≤ q := fun q hq => by
    rcases (hm q).mp hq with ⟨k, hk, rfl⟩ | ⟨k, hk, rfl⟩
    · exact g1.nn hk
    · exact g2.nn hk
  have z : (0 : Rat) ∈ qs := (hm 0).mpr (.inl ⟨_, kAt_mem g1.f.1, g1.f.2⟩)
  cases qs with
  | nil => cases z
  | cons q r =>
    have e : q = 0 := by
      rcases List.mem_cons.mp z with e | z
      · exact e.symm
      · have a1 := Ris.lt (show Ris q r from hr) z
        have a2 := nn q (List.mem_cons_self ..)
        grind
    subst e
    exact ⟨r, rfl, hr, nn⟩
theorem sum_itp {l1 l2 : Ln} {a b c a' b' c' : Nat} (g1 : LnG a b c l1) (g2 : LnG a' b' c' l2) {r : List Rat} (hr : Ris 0 r) (hm : ∀ x, x ∈ 0 :: r ↔ (∃ k ∈ l1.ks, k.1 = x) ∨ ∃ k ∈ l2.ks, k.1 = x) (nn : ∀ q ∈ 0 :: r, 0 ≤ q) :
    Itp (Bd (c + c' + 1)) (fun x => yOf l1 x + yOf l2 x) (0, yOf l1 0 + yOf l2 0) (r.map fun x => (x, yOf l1 x + yOf l2 x)) (l1.sl + l2.sl) := by
  refine itp_of (f := fun x => yOf l1 x + yOf l2 x) hr fun u hu => ?_
  obtain ⟨p1, b1, e1, s1⟩ := g1.step (nn u hu)
  obtain ⟨p2, b2, e2, s2⟩ := g2.step (nn u hu)
  refine ⟨p1 + p2, bd_add b1 b2, fun z => ?_, fun v hv z => ?_⟩
  · rw [e1 fun k hk => z _ ((hm _).mpr (.inl ⟨k, hk, rfl⟩)), e2 fun k hk => z _ ((hm _).mpr (.inr ⟨k, hk, rfl⟩))]
  · show yOf l1 v + yOf l2 v = yOf l1 u + yOf l2 u + _
    rw [s1 v hv fun k hk => z _ ((hm _).mpr (.inl ⟨k, hk, rfl⟩)), s2 v hv fun k hk => z _ ((hm _).mpr (.inr ⟨k, hk, rfl⟩))]
    grind
/-- so many times it -/
theorem times_itp {a b c d : Nat} {s q : Rat} (bq : Bd d q) : ∀ {p : Kn} {r : List Kn}, Up p r → SlP (Bd c) p r s → Itp (Bd (c + d)) (fun x => val p r s x * q) (p.1, p.2 * q) (r.map fun k => (k.1, k.2 * q)) (s * q)
  | p, [], u, h => by
    refine ⟨show p.2 * q = val p [] s p.1 * q by rw [val_at u (List.mem_cons_self ..)], bd_mul h bq, fun w hw => ?_⟩
    show (p.2 + s * (w - p.1)) * q = (p.2 + s * (p.1 - p.1)) * q + s * q * (w - p.1)
    grind
  | p, k :: r, u, h => by
    refine ⟨show p.2 * q = val p (k :: r) s p.1 * q by rw [val_at u (List.mem_cons_self ..)], u.1, ⟨rise p k * q, bd_mul h.1 bq, fun w hw hw2 => ?_⟩, ?_⟩
    · have z := val_step (s := s) u (u := p.1) (v := w) Rat.le_refl hw fun k2 hk2 => by
        have hw2 : w ≤ k.1 := hw2
        rcases List.mem_cons.mp hk2 with rfl | hk2
        · grind
        · have := Up.lt u.2 hk2
          grind
      have e : sr p (k :: r) s p.1 = rise p k := if_pos u.1
      show val p (k :: r) s w * q = val p (k :: r) s p.1 * q + rise p k * q * (w - p.1)
      rw [z, e]
      grind
    · have ih := times_itp (a := a) (b := b) bq u.2 h.2
      refine itp_ext (fun x hx => ?_) ih
      have hx : k.1 ≤ x := hx
      show val k r s x * q = val p (k :: r) s x * q
      have e : val p (k :: r) s x = val k r s x := if_neg (by grind)
      rw [e]
where
  itp_ext {P : Rat → Prop} {f g : Rat → Rat} {s : Rat} : ∀ {p : Kn} {r : List Kn}, (∀ x, p.1 ≤ x → f x = g x) → Itp P f p r s → Itp P g p r s
    | p, [], e, h => ⟨by rw [h.1, e _ Rat.le_refl], h.2.1, fun w hw => by rw [← e w hw, ← e p.1 Rat.le_refl]; exact h.2.2 w hw⟩
    | p, k :: r, e, h => ⟨by rw [h.1, e _ Rat.le_refl], h.2.1, let ⟨g0, h3, h4⟩ := h.2.2.1; ⟨g0, h3, fun w hw hw2 => by rw [← e w hw, ← e p.1 Rat.le_refl]; exact h4 w hw hw2⟩, itp_ext (fun x hx => e x (by have := h.2.1; grind)) h.2.2.2⟩
/-! one normal form alone -/
/-- up to where the first piece goes -/
def Till (r : List Kn) (x : Rat) : Prop := match r with
  | [] => True
  | k :: _ => x ≤ k.1
theorem val_fs {p : Kn} {r : List Kn} {s x : Rat} (u : Up p r) (t : Till r x) : val p r s x = p.2 + fs p r s * (x - p.1) := by
  cases r with
  | nil => rfl
  | cons k r =>
    have t : x ≤ k.1 := t
    unfold val fs
    split
    · rfl
    · have e : x = k.1 := by grind
      have := rise_mul u.1
      rw [e, val_at u.2 (List.mem_cons_self ..)]
      show k.2 = p.2 + rise p k * (k.1 - p.1)
      rw [this]
      grind
theorem till_some {p : Kn} {r : List Kn} (u : Up p r) {b : Rat} (h : p.1 < b) : ∃ e, p.1 < e ∧ e ≤ b ∧ Till r e := by
  cases r with
  | nil => exact ⟨b, h, Rat.le_refl, trivial⟩
  | cons k r =>
    by_cases c : b ≤ k.1
    · exact ⟨b, h, Rat.le_refl, c⟩
    · exact ⟨k.1, u.1, by grind, Rat.le_refl⟩
/-- behind a knot it goes on otherwise than by c -/
theorem not_on {p k : Kn} {t : List Kn} {s c b : Rat} (u : Up p (k :: t)) (n : Nml p (k :: t) s) (h : k.1 < b) (f : ∀ x, p.1 ≤ x → x ≤ b → val p (k :: t) s x = p.2 + c * (x - p.1)) : False := by
  have e1 : rise p k = c := rise_eq u.1 (by
    have := f k.1 (by have := u.1; grind) (by grind)
    rw [val_at u (List.mem_cons_of_mem _ (List.mem_cons_self ..))] at this
    grind)
  obtain ⟨e, h1, h2, h3⟩ := till_some u.2 h
  have a := f e (by have := u.1; grind) h2
  have v : val p (k :: t) s e = val k t s e := if_neg (by grind)
  rw [v, val_fs u.2 h3] at a
  have b1 := f k.1 (by have := u.1; grind) (by grind)
  rw [val_at u (List.mem_cons_of_mem _ (List.mem_cons_self ..))] at b1
  have z : (fs k t s - c) * (e - k.1) = 0 := by
    generalize fs k t s = g at *
    grind
  rcases Rat.mul_eq_zero.mp z with y | y
  · exact n.1 (by rw [e1]; grind)
  · grind
theorem val_tail {p k : Kn} {t : List Kn} {s x : Rat} (h : k.1 ≤ x) : val p (k :: t) s x = val k t s x := if_neg (by grind)
theorem nml_one {s s' : Rat} : ∀ {p p' : Kn} {r r' : List Kn}, Up p r → Nml p r s → Up p' r' → Nml p' r' s' → p.1 = p'.1 → (∀ x, p.1 ≤ x → val p r s x = val p' r' s' x) → p = p' ∧ r = r' ∧ s = s'
  | p, p', r, r', u, n, u', n', e, f => by
    have ep : p = p' := by
      have a := f p.1 Rat.le_refl
      rw [val_at u (List.mem_cons_self ..), e, val_at u' (List.mem_cons_self ..)] at a
      exact Prod.ext e a
    subst ep
    match r, r', u, n, u', n', f with
    | [], [], _, _, _, _, f =>
      have a := f (p.1 + 1) (by grind)
      have a : p.2 + s * (p.1 + 1 - p.1) = p.2 + s' * (p.1 + 1 - p.1) := a
      exact ⟨rfl, rfl, by grind⟩
    | [], k :: t, _, _, u', n', f =>
      exact (not_on u' n' (c := s) (b := k.1 + 1) (by grind) fun x hx _ => (f x hx).symm).elim
    | k :: t, [], u, n, _, _, f =>
      exact (not_on u n (c := s') (b := k.1 + 1) (by grind) fun x hx _ => f x hx).elim
    | k :: t, k' :: t', u, n, u', n', f =>
      have c1 : ¬ k.1 < k'.1 := fun c => not_on u n (c := rise p k') (b := k'.1) c fun x hx hb => by
        rw [f x hx]
        exact val_fs u' hb
      have c2 : ¬ k'.1 < k.1 := fun c => not_on u' n' (c := rise p k) (b := k.1) c fun x hx hb => by
        rw [← f x hx]
        exact val_fs u hb
      have ek : k.1 = k'.1 := by grind
      have ih := nml_one u.2 n.2 u'.2 n'.2 ek fun x hx => by
        have a := f x (by have := u.1; grind)
        rwa [val_tail hx, val_tail (by rw [← ek]; exact hx)] at a
      exact ⟨rfl, by rw [ih.1, ih.2.1], ih.2.2⟩
theorem LnF.one {a b c n a' b' c' n' : Nat} {f : Rat → Rat} {s s' : Rat} {l l' : Ln} (h : LnF a b c n f s l) (h' : LnF a' b' c' n' f s' l') : l = l' := by
  obtain ⟨p, r, e, p0, u, sl⟩ := h.g.list
  obtain ⟨p', r', e', p0', u', sl'⟩ := h'.g.list
  have nm := h.nm
  have nm' := h'.nm
  have y := h.y
  have y' := h'.y
  rw [e] at nm y
  rw [e'] at nm' y'
  obtain ⟨a1, a2, a3⟩ := nml_one u (Nml.of nm) u' (Nml.of nm') (by rw [p0, p0']) fun x hx => by
    have a := y x (by grind)
    have b := y' x (by grind)
    rw [yOf_val u hx] at a
    rw [yOf_val u' (by grind)] at b
    rw [a, b]
  rw [e, e', a1, a2, a3]
end Pm

namespace Pm
open PySem PySem.Spec PyProof.Rows L2
/-! ### where two lines cross, the greater of two -/
/-- where it crosses between a and b -/
def crPt (g : Rat → Rat) (a b : Rat) : Rat := a + g a / (g a - g b) * (b - a)
/-- behind the rising row a, r: g goes on by d -/
def crs (g : Rat → Rat) (d : Rat) : Rat → List Rat → List Rat
  | a, [] => if g a * d < 0 then [a - g a / d] else []
  | a, b :: r => (if g a * g b < 0 then [crPt g a b] else []) ++ crs g d b r
theorem neg_mul_lt {a b : Rat} (h : a * b < 0) : (0 < a ∧ b < 0) ∨ (a < 0 ∧ 0 < b) := by
  rcases (Rat.le_total : 0 ≤ a ∨ a ≤ 0) with c | c <;> rcases (Rat.le_total : 0 ≤ b ∨ b ≤ 0) with d | d
  · have := Rat.mul_nonneg c d
    grind
  · left
    constructor
    · by_cases e : a = 0
      · subst e; grind
      · grind
    · by_cases e : b = 0
      · subst e; grind
      · grind
  · right
    constructor
    · by_cases e : a = 0
      · subst e; grind
      · grind
    · by_cases e : b = 0
      · subst e; grind
      · grind
  · have := Rat.mul_nonneg (show (0 : Rat) ≤ -a by grind) (show (0 : Rat) ≤ -b by grind)
    grind
theorem div_mul_self {a b : Rat} (h : b ≠ 0) : a / b * b = a := Rat.div_mul_cancel h
/-- the zero of a straight piece lies where its sign turns -/
theorem zero_in {a s u v z gu gv : Rat} (hu : gu = a + s * u) (hv : gv = a + s * v) (hz : a + s * z = 0) (h : gu * gv < 0) (huv : u < v) : u < z ∧ z < v := by
  rcases neg_mul_lt h with ⟨h1, h2⟩ | ⟨h1, h2⟩
  · have s0 : s < 0 := by
      rcases (Rat.le_total : 0 ≤ s ∨ s ≤ 0) with c | c
      · have := Rat.mul_nonneg c (show (0 : Rat) ≤ v - u by grind)
        grind
      · by_cases e : s = 0
        · subst e; grind
        · grind
    constructor
    · rcases (Rat.le_total : z ≤ u ∨ u ≤ z) with c | c
      · have := Rat.mul_nonneg (show (0 : Rat) ≤ -s by grind) (show (0 : Rat) ≤ u - z by grind)
        grind
      · by_cases e : z = u
        · subst e; grind
        · grind
    · rcases (Rat.le_total : z ≤ v ∨ v ≤ z) with c | c
      · by_cases e : z = v
        · subst e; grind
        · grind
      · have := Rat.mul_nonneg (show (0 : Rat) ≤ -s by grind) (show (0 : Rat) ≤ z - v by grind)
        grind
  · have s0 : 0 < s := by
      rcases (Rat.le_total : 0 ≤ s ∨ s ≤ 0) with c | c
      · by_cases e : s = 0
        · subst e; grind
        · grind
      · have := Rat.mul_nonneg (show (0 : Rat) ≤ -s by grind) (show (0 : Rat) ≤ v - u by grind)
        grind
    constructor
    · rcases (Rat.le_total : z ≤ u ∨ u ≤ z) with c | c
      · have := Rat.mul_nonneg (show (0 : Rat) ≤ s by grind) (show (0 : Rat) ≤ u - z by grind)
        grind
      · by_cases e : z = u
        · subst e; grind
        · grind
    · rcases (Rat.le_total : z ≤ v ∨ v ≤ z) with c | c
      · by_cases e : z = v
        · subst e; grind
        · grind
      · have := Rat.mul_nonneg (show (0 : Rat) ≤ s by grind) (show (0 : Rat) ≤ z - v by grind)
        grind
/-- straight between the points of a row, and behind them by d -/
def Str8 (g : Rat → Rat) (d : Rat) : Rat → List Rat → Prop
  | a, [] => ∀ w, a ≤ w → g w = g a + d * (w - a)
  | a, b :: r => a < b ∧ (∃ s, ∀ w, a ≤ w → w ≤ b → g w = g a + s * (w - a)) ∧ Str8 g d b r
theorem crPt_eq {g : Rat → Rat} {a b s : Rat} (hab : a < b) (h : g b = g a + s * (b - a)) (hn : g a * g b < 0) : crPt g a b = a - g a / s ∧ s ≠ 0 := by
  have s0 : s ≠ 0 := by
    rintro rfl
    have e : g b = g a := by grind
    rw [e] at hn
    rcases neg_mul_lt hn with ⟨_, _⟩ | ⟨_, _⟩ <;> grind
  refine ⟨?_, s0⟩
  have d0 : b - a ≠ 0 := by grind
  unfold crPt
  have e1 : g a - g b = (-s) * (b - a) := by grind
  have e2 : (-s) * (b - a) ≠ 0 := fun z => by
    rcases Rat.mul_eq_zero.mp z with y | y <;> grind
  have e3 : g a / (g a - g b) * (b - a) = -(g a / s) := by
    rw [e1]
    have a1 := div_mul_self (a := g a) e2
    have a2 := div_mul_self (a := g a) s0
    generalize g a / (-s * (b - a)) = p at *
    generalize g a / s = q at *
    have : s * (p * (b - a) + q) = 0 := by grind
    rcases Rat.mul_eq_zero.mp this with y | y
    · exact absurd y s0
    · grind
  rw [e3]
  grind
theorem crs_all {g : Rat → Rat} {d u v : Rat} : ∀ {a : Rat} {r : List Rat}, Str8 g d a r → a ≤ u → u < v → (∀ q ∈ r, ¬ (u < q ∧ q < v)) → g u * g v < 0 → ∃ z ∈ crs g d a r, u < z ∧ z < v
  | a, [], h, hu, huv, _, hn => by
    have e1 := h u hu
    have e2 := h v (by grind)
    have d0 : d ≠ 0 := by
      rintro rfl
      have e : g v = g u := by grind
      rw [e] at hn
      rcases neg_mul_lt hn with ⟨_, _⟩ | ⟨_, _⟩ <;> grind
    have z := zero_in (a := g a - d * a) (s := d) (u := u) (v := v) (z := a - g a / d) (by grind) (by grind) (by
      have := div_mul_self (a := g a) d0
      generalize g a / d = q at *
      grind) hn huv
    refine ⟨_, ?_, z⟩
    unfold crs
    rw [if_pos]
    · exact List.mem_singleton.mpr rfl
    · have z1 := z.1
      rcases neg_mul_lt hn with ⟨h1, h2⟩ | ⟨h1, h2⟩
      · have d1 : d < 0 := by
          rcases (Rat.le_total : 0 ≤ d ∨ d ≤ 0) with c | c
          · have := Rat.mul_nonneg c (show (0 : Rat) ≤ v - u by grind)
            grind
          · grind
        have g1 : 0 < g a := by
          have := Rat.mul_nonneg (show (0 : Rat) ≤ -d by grind) (show (0 : Rat) ≤ u - a by grind)
          grind
        have := Rat.mul_pos g1 (show 0 < -d by grind)
        grind
      · have d1 : 0 < d := by
          rcases (Rat.le_total : 0 ≤ d ∨ d ≤ 0) with c | c
          · grind
          · have := Rat.mul_nonneg (show (0 : Rat) ≤ -d by grind) (show (0 : Rat) ≤ v - u by grind)
            grind
        have g1 : g a < 0 := by
          have := Rat.mul_nonneg (show (0 : Rat) ≤ d by grind) (show (0 : Rat) ≤ u - a by grind)
          grind
        have := Rat.mul_pos (show 0 < -g a by grind) d1
        grind
  | a, b :: r, h, hu, huv, hq, hn => by
    obtain ⟨hab, ⟨s, hs⟩, hr⟩ := h
    by_cases c : b ≤ u
    · obtain ⟨z, hz, h1⟩ := crs_all hr c huv (fun q hq' => hq q (List.mem_cons_of_mem _ hq')) hn
      exact ⟨z, List.mem_append_right _ hz, h1⟩
    · have vb : v ≤ b := by
        have := hq b (List.mem_cons_self ..)
        grind
      have e1 := hs u hu (by grind)
      have e2 := hs v (by grind) vb
      have e3 := hs b (by grind) Rat.le_refl
      have s0 : s ≠ 0 := by
        rintro rfl
        have e : g v = g u := by grind
        rw [e] at hn
        rcases neg_mul_lt hn with ⟨_, _⟩ | ⟨_, _⟩ <;> grind
      have z := zero_in (a := g a - s * a) (s := s) (u := u) (v := v) (z := a - g a / s) (by grind) (by grind) (by
        have := div_mul_self (a := g a) s0
        generalize g a / s = q at *
        grind) hn huv
      have hab2 : g a * g b < 0 := by
        rcases neg_mul_lt hn with ⟨h1, h2⟩ | ⟨h1, h2⟩
        · have d1 : s < 0 := by
            rcases (Rat.le_total : 0 ≤ s ∨ s ≤ 0) with c | c
            · have := Rat.mul_nonneg c (show (0 : Rat) ≤ v - u by grind)
              grind
            · grind
          have g1 : 0 < g a := by
            have := Rat.mul_nonneg (show (0 : Rat) ≤ -s by grind) (show (0 : Rat) ≤ u - a by grind)
            grind
          have g2 : g b < 0 := by
            have := Rat.mul_nonneg (show (0 : Rat) ≤ -s by grind) (show (0 : Rat) ≤ b - v by grind)
            grind
          have := Rat.mul_pos g1 (show 0 < -g b by grind)
          grind
        · have d1 : 0 < s := by
            rcases (Rat.le_total : 0 ≤ s ∨ s ≤ 0) with c | c
            · grind
            · have := Rat.mul_nonneg (show (0 : Rat) ≤ -s by grind) (show (0 : Rat) ≤ v - u by grind)
              grind
          have g1 : g a < 0 := by
            have := Rat.mul_nonneg (show (0 : Rat) ≤ s by grind) (show (0 : Rat) ≤ u - a by grind)
            grind
          have g2 : 0 < g b := by
            have := Rat.mul_nonneg (show (0 : Rat) ≤ s by grind) (show (0 : Rat) ≤ b - v by grind)
            grind
          have := Rat.mul_pos (show 0 < -g a by grind) g2
          grind
      refine ⟨crPt g a b, List.mem_append_left _ ?_, ?_⟩
      · rw [if_pos hab2]
        exact List.mem_singleton.mpr rfl
      · rw [(crPt_eq hab e3 hab2).1]
        exact z
theorem neg_div {a d : Rat} (h : a * d < 0) : a / d < 0 := by
  have d0 : d ≠ 0 := by rintro rfl; grind
  have e := div_mul_self (a := a) d0
  generalize a / d = q at *
  rcases neg_mul_lt h with ⟨h1, h2⟩ | ⟨h1, h2⟩
  · rcases (Rat.le_total : 0 ≤ q ∨ q ≤ 0) with c | c
    · have := Rat.mul_nonneg c (show (0 : Rat) ≤ -d by grind)
      grind
    · by_cases z : q = 0
      · subst z; grind
      · grind
  · rcases (Rat.le_total : 0 ≤ q ∨ q ≤ 0) with c | c
    · have := Rat.mul_nonneg c (show (0 : Rat) ≤ d by grind)
      grind
    · by_cases z : q = 0
      · subst z; grind
      · grind
/-- its slopes and points are of so many bits -/
def StrB (n : Nat) (g : Rat → Rat) (d : Rat) : Rat → List Rat → Prop
  | _, [] => Bd n d
  | a, b :: r => (∃ s, Bd n s ∧ ∀ w, a ≤ w → w ≤ b → g w = g a + s * (w - a)) ∧ StrB n g d b r
theorem crs_mem {g : Rat → Rat} {d : Rat} {n m k : Nat} {z : Rat} : ∀ {a : Rat} {r : List Rat}, Str8 g d a r → StrB n g d a r → (∀ q ∈ a :: r, Bd m q ∧ Bd k (g q)) → z ∈ crs g d a r → a < z ∧ Bd (m + k + n + 1) z
  | a, [], _, sb, hb, hz => by
    unfold crs at hz
    split at hz
    · rename_i c
      obtain rfl := List.mem_singleton.mp hz
      obtain ⟨b1, b2⟩ := hb a (List.mem_cons_self ..)
      have d0 : d ≠ 0 := by rintro rfl; grind
      have := neg_div c
      exact ⟨by grind, (bd_sub b1 (bd_div b2 sb d0)).mono (by omega)⟩
    · cases hz
  | a, b :: r, h, sb, hb, hz => by
    obtain ⟨hab, _, hr⟩ := h
    obtain ⟨⟨s, bs, hs⟩, sr⟩ := sb
    unfold crs at hz
    rcases List.mem_append.mp hz with hz | hz
    · split at hz
      · rename_i c
        obtain rfl := List.mem_singleton.mp hz
        obtain ⟨b1, b2⟩ := hb a (List.mem_cons_self ..)
        obtain ⟨e, s0⟩ := crPt_eq hab (hs b (by grind) Rat.le_refl) c
        rw [e]
        have z := zero_in (a := g a - s * a) (s := s) (u := a) (v := b) (z := a - g a / s) (by grind) (by have := hs b (by grind) Rat.le_refl; grind) (by
          have := div_mul_self (a := g a) s0
          generalize g a / s = q at *
          grind) c hab
        exact ⟨z.1, (bd_sub b1 (bd_div b2 bs s0)).mono (by omega)⟩
      · cases hz
    · have := crs_mem hr sr (fun q hq => hb q (List.mem_cons_of_mem _ hq)) hz
      exact ⟨by grind, this.2⟩
theorem crs_len (g : Rat → Rat) (d : Rat) : ∀ (a : Rat) (r : List Rat), (crs g d a r).length ≤ r.length + 1
  | a, [] => by
    unfold crs
    split <;> simp
  | a, b :: r => by
    unfold crs
    have := crs_len g d b r
    rw [List.length_append]
    split <;> simp <;> omega
/-- the gap of two lines -/
def gapOf (l1 l2 : Ln) (x : Rat) : Rat := yOf l1 x - yOf l2 x
theorem gap_str {l1 l2 : Ln} {a b c : Nat} (g1 : LnG a b c l1) (g2 : LnG a b c l2) : ∀ {p : Rat} {r : List Rat}, 0 ≤ p → Ris p r → (∀ k ∈ l1.ks, k.1 ≤ p ∨ k.1 ∈ r) → (∀ k ∈ l2.ks, k.1 ≤ p ∨ k.1 ∈ r) → Str8 (gapOf l1 l2) (l1.sl - l2.sl) p r ∧ StrB (c + c + 1) (gapOf l1 l2) (l1.sl - l2.sl) p r
  | p, [], h0, _, k1, k2 => by
    obtain ⟨s1, b1, e1, f1⟩ := g1.step h0
    obtain ⟨s2, b2, e2, f2⟩ := g2.step h0
    have e1 := e1 fun k hk => (by rcases k1 k hk with h | h; { grind }; { cases h })
    have e2 := e2 fun k hk => (by rcases k2 k hk with h | h; { grind }; { cases h })
    subst e1 e2
    refine ⟨fun w hw => ?_, bd_sub b1 b2⟩
    unfold gapOf
    rw [f1 w hw fun k hk => (by rcases k1 k hk with h | h; { grind }; { cases h }), f2 w hw fun k hk => (by rcases k2 k hk with h | h; { grind }; { cases h })]
    grind
  | p, q :: r, h0, hr, k1, k2 => by
    obtain ⟨s1, b1, _, f1⟩ := g1.step h0
    obtain ⟨s2, b2, _, f2⟩ := g2.step h0
    have pq := hr.1
    have st : ∀ w, p ≤ w → w ≤ q → gapOf l1 l2 w = gapOf l1 l2 p + (s1 - s2) * (w - p) := fun w hw hw2 => by
      have no : ∀ x, x ≤ p ∨ x ∈ q :: r → ¬ (p < x ∧ x < w) := fun x hx => by
        rcases hx with h | h
        · grind
        · rcases List.mem_cons.mp h with rfl | h
          · grind
          · have := hr.2.lt h
            grind
      unfold gapOf
      rw [f1 w hw fun k hk => no _ (k1 k hk), f2 w hw fun k hk => no _ (k2 k hk)]
      grind
    have up : ∀ x, x ≤ p ∨ x ∈ q :: r → x ≤ q ∨ x ∈ r := fun x hx => by
      rcases hx with h | h
      · left; grind
      · rcases List.mem_cons.mp h with rfl | h
        · left; exact Rat.le_refl
        · exact .inr h
    obtain ⟨i1, i2⟩ := gap_str g1 g2 (p := q) (by grind) hr.2 (fun k hk => up _ (k1 k hk)) fun k hk => up _ (k2 k hk)
    exact ⟨⟨pq, ⟨_, st⟩, i1⟩, ⟨_, bd_sub b1 b2, st⟩, i2⟩
def mx (x y : Rat) : Rat := if x < y then y else x
/-- the greater of two lines through all knots and all crossings -/
theorem most_itp {l1 l2 : Ln} {a b c : Nat} (g1 : LnG a b c l1) (g2 : LnG a b c l2) {r : List Rat} (hr : Ris 0 r) (k1 : ∀ k ∈ l1.ks, k.1 ∈ 0 :: r) (k2 : ∀ k ∈ l2.ks, k.1 ∈ 0 :: r) (nn : ∀ q ∈ 0 :: r, 0 ≤ q)
    (C : ∀ u v, 0 ≤ u → u < v → (∀ q ∈ 0 :: r, ¬ (u < q ∧ q < v)) → ¬ gapOf l1 l2 u * gapOf l1 l2 v < 0) :
    Itp (Bd c) (fun x => mx (yOf l1 x) (yOf l2 x)) (0, mx (yOf l1 0) (yOf l2 0)) (r.map fun x => (x, mx (yOf l1 x) (yOf l2 x))) (mx l1.sl l2.sl) := by
  refine itp_of (f := fun x => mx (yOf l1 x) (yOf l2 x)) hr fun u hu => ?_
  obtain ⟨p1, b1, e1, s1⟩ := g1.step (nn u hu)
  obtain ⟨p2, b2, e2, s2⟩ := g2.step (nn u hu)
  have sg : ∀ v, u ≤ v → (∀ q ∈ 0 :: r, ¬ (u < q ∧ q < v)) → yOf l1 v = yOf l1 u + p1 * (v - u) ∧ yOf l2 v = yOf l2 u + p2 * (v - u) := fun v hv z => ⟨s1 v hv fun k hk => z _ (k1 k hk), s2 v hv fun k hk => z _ (k2 k hk)⟩
  have C' : ∀ v, u < v → (∀ q ∈ 0 :: r, ¬ (u < q ∧ q < v)) → ¬ (yOf l1 u - yOf l2 u) * (yOf l1 v - yOf l2 v) < 0 := fun v hv z => C u v (nn u hu) hv z
  generalize yOf l1 u = A at *
  generalize yOf l2 u = B at *
  -- the one that is taken
  have last : (∀ q ∈ 0 :: r, ¬ u < q) → ∀ v, u < v → ¬ (A - B) * ((A - B) + (p1 - p2) * (v - u)) < 0 := fun z v hv => by
    have a1 := sg v (by grind) fun q hq => by have := z q hq; grind
    have a2 := C' v hv fun q hq => by have := z q hq; grind
    rw [a1.1, a1.2] at a2
    have e : A + p1 * (v - u) - (B + p2 * (v - u)) = (A - B) + (p1 - p2) * (v - u) := by grind
    rwa [e] at a2
  rcases (Rat.le_total : A ≤ B ∨ B ≤ A) with c | c
  · by_cases d : A = B
    · subst d
      refine ⟨mx p1 p2, by unfold mx; split <;> assumption, fun z => ?_, fun v hv z => ?_⟩
      · rw [e1 fun k hk => z _ (k1 k hk), e2 fun k hk => z _ (k2 k hk)]
      · obtain ⟨a1, a2⟩ := sg v hv z
        show mx (yOf l1 v) (yOf l2 v) = mx A A + _
        rw [a1, a2]
        unfold mx
        by_cases e : p1 < p2
        · rw [if_pos e]
          by_cases f : u = v
          · subst f; split <;> split <;> grind
          · have := Rat.mul_pos (show 0 < p2 - p1 by grind) (show 0 < v - u by grind)
            rw [if_pos (by grind)]
            split <;> grind
        · rw [if_neg e]
          have := Rat.mul_nonneg (show 0 ≤ p1 - p2 by grind) (show 0 ≤ v - u by grind)
          rw [if_neg (by grind)]
          split <;> grind
    · have AB : A < B := by grind
      refine ⟨p2, b2, fun z => ?_, fun v hv z => ?_⟩
      · rw [e2 fun k hk => z _ (k2 k hk), ← e1 fun k hk => z _ (k1 k hk), ← e2 fun k hk => z _ (k2 k hk)]
        unfold mx
        by_cases e : p1 < p2
        · rw [if_pos e]
        · rw [if_neg e]
          by_cases f : p1 = p2
          · rw [f]
          · exfalso
            have h0 : 0 < p1 - p2 := by grind
            have h1 := last z (u + 2 * ((B - A) / (p1 - p2))) (by
              have := Rat.div_mul_cancel (a := B - A) (show p1 - p2 ≠ 0 by grind)
              have q0 : 0 < (B - A) / (p1 - p2) := by
                generalize (B - A) / (p1 - p2) = q at *
                rcases (Rat.le_total : 0 ≤ q ∨ q ≤ 0) with y | y
                · by_cases w : q = 0
                  · subst w; grind
                  · grind
                · have := Rat.mul_nonneg (show (0 : Rat) ≤ -q by grind) (show (0 : Rat) ≤ p1 - p2 by grind)
                  grind
              grind)
            have e3 := Rat.div_mul_cancel (a := B - A) (show p1 - p2 ≠ 0 by grind)
            generalize (B - A) / (p1 - p2) = q at *
            have e4 : A - B + (p1 - p2) * (u + 2 * q - u) = B - A := by grind
            rw [e4] at h1
            have := Rat.mul_pos (show 0 < B - A by grind) (show 0 < B - A by grind)
            grind
      · obtain ⟨a1, a2⟩ := sg v hv z
        show mx (yOf l1 v) (yOf l2 v) = mx A B + _
        have le : yOf l1 v ≤ yOf l2 v := by
          by_cases f : u = v
          · subst f; grind
          · have := C' v (by grind) z
            rcases (Rat.le_total : yOf l1 v ≤ yOf l2 v ∨ yOf l2 v ≤ yOf l1 v) with y | y
            · exact y
            · by_cases w : yOf l1 v = yOf l2 v
              · grind
              · have := Rat.mul_pos (show 0 < B - A by grind) (show 0 < yOf l1 v - yOf l2 v by grind)
                grind
        unfold mx
        rw [if_pos AB, ← a2]
        split <;> grind
  · by_cases d : A = B
    · subst d
      refine ⟨mx p1 p2, by unfold mx; split <;> assumption, fun z => ?_, fun v hv z => ?_⟩
      · rw [e1 fun k hk => z _ (k1 k hk), e2 fun k hk => z _ (k2 k hk)]
      · obtain ⟨a1, a2⟩ := sg v hv z
        show mx (yOf l1 v) (yOf l2 v) = mx A A + _
        rw [a1, a2]
        unfold mx
        by_cases e : p1 < p2
        · rw [if_pos e]
          by_cases f : u = v
          · subst f; split <;> split <;> grind
          · have := Rat.mul_pos (show 0 < p2 - p1 by grind) (show 0 < v - u by grind)
            rw [if_pos (by grind)]
            split <;> grind
        · rw [if_neg e]
          have := Rat.mul_nonneg (show 0 ≤ p1 - p2 by grind) (show 0 ≤ v - u by grind)
          rw [if_neg (by grind)]
          split <;> grind
    · have AB : B < A := by grind
      refine ⟨p1, b1, fun z => ?_, fun v hv z => ?_⟩
      · rw [e1 fun k hk => z _ (k1 k hk), ← e1 fun k hk => z _ (k1 k hk), ← e2 fun k hk => z _ (k2 k hk)]
        unfold mx
        by_cases e : p1 < p2
        · exfalso
          have h1 := last z (u + 2 * ((A - B) / (p2 - p1))) (by
            have := Rat.div_mul_cancel (a := A - B) (show p2 - p1 ≠ 0 by grind)
            have q0 : 0 < (A - B) / (p2 - p1) := by
              generalize (A - B) / (p2 - p1) = q at *
              rcases (Rat.le_total : 0 ≤ q ∨ q ≤ 0) with y | y
              · by_cases w : q = 0
                · subst w; grind
                · grind
              · have := Rat.mul_nonneg (show (0 : Rat) ≤ -q by grind) (show (0 : Rat) ≤ p2 - p1 by grind)
                grind
            grind)
          have e3 := Rat.div_mul_cancel (a := A - B) (show p2 - p1 ≠ 0 by grind)
          generalize (A - B) / (p2 - p1) = q at *
          have e4 : A - B + (p1 - p2) * (u + 2 * q - u) = B - A := by grind
          rw [e4] at h1
          have := Rat.mul_pos (show 0 < A - B by grind) (show 0 < A - B by grind)
          grind
        · rw [if_neg e]
      · obtain ⟨a1, a2⟩ := sg v hv z
        show mx (yOf l1 v) (yOf l2 v) = mx A B + _
        have le : yOf l2 v ≤ yOf l1 v := by
          by_cases f : u = v
          · subst f; grind
          · have := C' v (by grind) z
            rcases (Rat.le_total : yOf l1 v ≤ yOf l2 v ∨ yOf l2 v ≤ yOf l1 v) with y | y
            · by_cases w : yOf l1 v = yOf l2 v
              · grind
              · have := Rat.mul_pos (show 0 < A - B by grind) (show 0 < yOf l2 v - yOf l1 v by grind)
                grind
            · exact y
        unfold mx
        rw [if_neg (show ¬ A < B by grind), ← a1]
        split <;> grind
end Pm

namespace Pm
open PySem PySem.Spec PyProof.Rows L2
/-! ### a line put into a line -/
/-- the slope to the left of x -/
def slf (p : Kn) : List Kn → Rat → Rat → Rat
  | [], s, _ => s
  | k :: r, s, x => if x ≤ k.1 then rise p k else slf k r s x
theorem SlP.slf {P : Rat → Prop} {s x : Rat} : ∀ {p : Kn} {r : List Kn}, SlP P p r s → P (slf p r s x)
  | p, [], h => h
  | p, k :: r, h => by
    unfold Pm.slf
    split
    · exact h.1
    · exact SlP.slf h.2
theorem val_left {s u v : Rat} : ∀ {p : Kn} {r : List Kn}, Up p r → p.1 ≤ v → v ≤ u → (∀ k ∈ r, ¬ (v < k.1 ∧ k.1 < u)) → val p r s v = val p r s u + slf p r s u * (v - u)
  | p, [], _, _, _, _ => by
    unfold val slf
    grind
  | p, k0 :: r, h, hp, hvu, hn => by
    have c0 := hn k0 (List.mem_cons_self ..)
    by_cases c : u ≤ k0.1
    · have tu : Till (k0 :: r) u := c
      have tv : Till (k0 :: r) v := by show v ≤ k0.1; grind
      rw [val_fs h tu, val_fs h tv]
      unfold slf fs
      rw [if_pos c]
      grind
    · have hv : k0.1 ≤ v := by grind
      rw [val_tail hv, val_tail (show k0.1 ≤ u by grind)]
      unfold slf
      rw [if_neg c]
      exact val_left h.2 hv hvu fun k hk => hn k (List.mem_cons_of_mem _ hk)
theorem LnG.left {a b c : Nat} {l : Ln} (h : LnG a b c l) {u : Rat} (u0 : 0 ≤ u) : ∃ g, Bd c g ∧ ∀ v, 0 ≤ v → v ≤ u → (∀ k ∈ l.ks, ¬ (v < k.1 ∧ k.1 < u)) → yOf l v = yOf l u + g * (v - u) := by
  obtain ⟨p, r, e, z, up, sl⟩ := h.list
  refine ⟨slf p r l.sl u, sl.slf, fun v v0 hv g => ?_⟩
  rw [e, yOf_val up (by grind), yOf_val up (by grind)]
  exact val_left up (by grind) hv fun k hk => g k (by rw [e]; exact List.mem_cons_of_mem _ hk)
/-- nowhere below nought -/
def PosL (l : Ln) : Prop := 0 ≤ l.sl ∧ ∀ k ∈ l.ks, 0 ≤ k.2
theorem val_pos {s x : Rat} : ∀ {p : Kn} {r : List Kn}, Up p r → 0 ≤ s → (∀ k ∈ p :: r, 0 ≤ k.2) → p.1 ≤ x → 0 ≤ val p r s x
  | p, [], _, hs, hk, hx => by
    have a := hk p (List.mem_cons_self ..)
    have := Rat.mul_nonneg hs (show 0 ≤ x - p.1 by grind)
    show 0 ≤ p.2 + s * (x - p.1)
    grind
  | p, k :: r, h, hs, hk, hx => by
    have a := hk p (List.mem_cons_self ..)
    have b := hk k (List.mem_cons_of_mem _ (List.mem_cons_self ..))
    unfold val
    split
    · rename_i c
      have e := rise_mul h.1
      have l := h.1
      rcases (Rat.le_total : 0 ≤ rise p k ∨ rise p k ≤ 0) with d | d
      · have := Rat.mul_nonneg d (show 0 ≤ x - p.1 by grind)
        grind
      · have := Rat.mul_nonneg (show 0 ≤ -rise p k by grind) (show 0 ≤ k.1 - x by grind)
        generalize rise p k = g at *
        grind
    · exact val_pos h.2 hs (fun z hz => hk z (List.mem_cons_of_mem _ hz)) (by grind)
theorem PosL.y {a b c : Nat} {l : Ln} (g : LnG a b c l) (h : PosL l) {x : Rat} (x0 : 0 ≤ x) : 0 ≤ yOf l x := by
  obtain ⟨p, r, e, z, up, sl⟩ := g.list
  have h1 := h.2
  rw [e] at h1 ⊢
  rw [yOf_val up (by grind)]
  exact val_pos up h.1 h1 (by grind)
/-- between knots the inner one comes to a knot of the outer one at told places alone -/
def Comes (lo li : Ln) (ms : List Rat) : Prop := ∀ u v, 0 ≤ u → u < v → (∀ k ∈ li.ks, ¬ (u < k.1 ∧ k.1 < v)) → ∀ k ∈ lo.ks, (yOf li u < k.1 ∧ k.1 < yOf li v) ∨ (yOf li v < k.1 ∧ k.1 < yOf li u) → ∃ z ∈ ms, u < z ∧ z < v
theorem put_itp {lo li : Ln} {a b c a' b' c' : Nat} (go : LnG a b c lo) (gi : LnG a' b' c' li) (ps : PosL li) {r : List Rat} (hr : Ris 0 r) (k1 : ∀ k ∈ li.ks, k.1 ∈ 0 :: r) (nn : ∀ q ∈ 0 :: r, 0 ≤ q) {ms : List Rat} (cm : Comes lo li ms) (hms : ∀ m ∈ ms, m ∈ 0 :: r) :
    Itp (Bd (c + c')) (fun x => yOf lo (yOf li x)) (0, yOf lo (yOf li 0)) (r.map fun x => (x, yOf lo (yOf li x))) (lo.sl * li.sl) := by
  refine itp_of (f := fun x => yOf lo (yOf li x)) hr fun u hu => ?_
  have u0 := nn u hu
  have y0 := ps.y gi u0
  obtain ⟨g, bg, eg, sg⟩ := gi.step u0
  have no : ∀ v, u ≤ v → (∀ q ∈ 0 :: r, ¬ (u < q ∧ q < v)) → yOf li v = yOf li u + g * (v - u) ∧ 0 ≤ yOf li v ∧ ∀ k ∈ lo.ks, ¬ ((yOf li u < k.1 ∧ k.1 < yOf li v) ∨ (yOf li v < k.1 ∧ k.1 < yOf li u)) := fun v hv z => by
    refine ⟨sg v hv fun k hk => z _ (k1 k hk), ps.y gi (by grind), fun k hk c => ?_⟩
    have uv : u < v := by
      by_cases e : u = v
      · subst e; grind
      · grind
    obtain ⟨w, hw, h1⟩ := cm u v u0 uv (fun k hk => z _ (k1 k hk)) k hk c
    exact z w (hms w hw) h1
  by_cases g0 : 0 ≤ g
  · obtain ⟨p, bp, ep, sp⟩ := go.step y0
    refine ⟨p * g, bd_mul bp bg, fun z => ?_, fun v hv z => ?_⟩
    · have e := eg fun k hk => z _ (k1 k hk)
      rw [← e]
      by_cases gz : g = 0
      · rw [gz]; grind
      · rw [ep fun k hk c => ?_]
        have gp : 0 < g := by grind
        have d0 := Rat.div_mul_cancel (a := k.1 - yOf li u) (show g ≠ 0 from gz)
        have q0 : 0 < (k.1 - yOf li u) / g := by
          generalize (k.1 - yOf li u) / g = q at *
          rcases (Rat.le_total : 0 ≤ q ∨ q ≤ 0) with y | y
          · by_cases w : q = 0
            · subst w; grind
            · grind
          · have := Rat.mul_nonneg (show (0 : Rat) ≤ -q by grind) g0
            grind
        have nv := no (u + 2 * ((k.1 - yOf li u) / g)) (by grind) fun q hq => by have := z q hq; grind
        refine nv.2.2 k hk (.inl ⟨c, ?_⟩)
        rw [nv.1]
        generalize (k.1 - yOf li u) / g = q at *
        grind
    · obtain ⟨n1, n2, n3⟩ := no v hv z
      have le : yOf li u ≤ yOf li v := by
        have := Rat.mul_nonneg g0 (show 0 ≤ v - u by grind)
        grind
      show yOf lo (yOf li v) = yOf lo (yOf li u) + _
      rw [sp _ le fun k hk c => n3 k hk (.inl c), n1]
      grind
  · obtain ⟨p, bp, sp⟩ := go.left y0
    refine ⟨p * g, bd_mul bp bg, fun z => ?_, fun v hv z => ?_⟩
    · have e := eg fun k hk => z _ (k1 k hk)
      have := ps.1
      rw [← e] at this
      exact absurd this g0
    · obtain ⟨n1, n2, n3⟩ := no v hv z
      have le : yOf li v ≤ yOf li u := by
        have := Rat.mul_nonneg (show 0 ≤ -g by grind) (show 0 ≤ v - u by grind)
        grind
      show yOf lo (yOf li v) = yOf lo (yOf li u) + _
      rw [sp _ n2 le fun k hk c => n3 k hk (.inr c), n1]
      grind
/-- where it comes to t, from a knot on -/
def hitPt (k : Kn) (s t : Rat) : Rat := k.1 + (t - k.2) / s
/-- the places of one piece: behind the knot at i -/
def hitIn (li : Ln) (i : Nat) (z : Rat) : Bool := decide ((kAt li.ks i).1 < z) && (decide (li.ks.length ≤ i + 1) || decide (z < (kAt li.ks (i + 1)).1))
def hits (lo li : Ln) (i : Nat) : List Rat := if slAt li i = 0 then [] else ((lo.ks.map fun k => hitPt (kAt li.ks i) (slAt li i) k.1).filter fun z => hitIn li i z)
theorem val_at_place {s x : Rat} : ∀ {p : Kn} {r : List Kn} {i : Nat}, Up p r → i < (p :: r).length → (kAt (p :: r) i).1 ≤ x → (i + 1 < (p :: r).length → x ≤ (kAt (p :: r) (i + 1)).1) → val p r s x = (kAt (p :: r) i).2 + slAt ⟨p :: r, s⟩ i * (x - (kAt (p :: r) i).1)
  | p, [], 0, _, _, _, _ => by
    rw [slAt_zero]
    rfl
  | p, [], i + 1, _, hi, _, _ => absurd hi (by simp)
  | p, k :: r, 0, u, _, h1, h2 => by
    rw [slAt_zero]
    exact val_fs u (h2 (by simp))
  | p, k :: r, i + 1, u, hi, h1, h2 => by
    rw [slAt_succ]
    have e1 : kAt (p :: k :: r) (i + 1) = kAt (k :: r) i := by simp [kAt]
    have e2 : kAt (p :: k :: r) (i + 1 + 1) = kAt (k :: r) (i + 1) := by simp [kAt]
    rw [e1] at h1 ⊢
    rw [e2] at h2
    have hk : k.1 ≤ x := by
      have := (LnG.of_mono u.2 (i := i) (by simpa using hi))
      grind
    rw [val_tail hk]
    exact val_at_place u.2 (by simpa using hi) h1 fun h => h2 (by simpa using h)
where
  LnG.of_mono : ∀ {p : Kn} {r : List Kn} {i : Nat}, Up p r → i < (p :: r).length → p.1 ≤ (kAt (p :: r) i).1
    | p, r, 0, _, _ => by simp [kAt]
    | p, [], i + 1, _, hi => absurd hi (by simp)
    | p, k :: r, i + 1, u, hi => by
      have a := LnG.of_mono u.2 (i := i) (by simpa using hi)
      have e1 : kAt (p :: k :: r) (i + 1) = kAt (k :: r) i := by simp [kAt]
      rw [e1]
      have := u.1
      grind
/-- the piece in which u lies -/
theorem place_of : ∀ {p : Kn} {r : List Kn} {u : Rat}, Up p r → p.1 ≤ u → ∃ i, i < (p :: r).length ∧ (kAt (p :: r) i).1 ≤ u ∧ (i + 1 < (p :: r).length → u < (kAt (p :: r) (i + 1)).1)
  | p, [], u, _, h => ⟨0, by simp, by simpa [kAt] using h, fun h => absurd h (by simp)⟩
  | p, k :: r, u, up, h => by
    by_cases c : k.1 ≤ u
    · obtain ⟨i, h1, h2, h3⟩ := place_of up.2 c
      refine ⟨i + 1, by simpa using h1, by simpa [kAt] using h2, fun h => ?_⟩
      have := h3 (by simpa using h)
      simpa [kAt] using this
    · exact ⟨0, by simp, by simpa [kAt] using h, fun _ => by simp [kAt]; grind⟩
theorem hits_all {lo li : Ln} {a b c : Nat} (gi : LnG a b c li) {u v : Rat} (u0 : 0 ≤ u) (huv : u < v) (hq : ∀ k ∈ li.ks, ¬ (u < k.1 ∧ k.1 < v)) {k : Kn} (hk : k ∈ lo.ks) (h : (yOf li u < k.1 ∧ k.1 < yOf li v) ∨ (yOf li v < k.1 ∧ k.1 < yOf li u)) : ∃ i, i < li.ks.length ∧ ∃ z ∈ hits lo li i, u < z ∧ z < v := by
  obtain ⟨p, r, e, z0, up, sl⟩ := gi.list
  obtain ⟨i, h1, h2, h3⟩ := place_of up (show p.1 ≤ u by grind)
  have e1 : li.ks = p :: r := by rw [e]
  rw [← e1] at h1 h2 h3
  have vb : i + 1 < li.ks.length → v ≤ (kAt li.ks (i + 1)).1 := fun hi => by
    have := hq _ (kAt_mem hi)
    have := h3 hi
    grind
  have yu : yOf li u = (kAt li.ks i).2 + slAt li i * (u - (kAt li.ks i).1) := by
    have := val_at_place (s := li.sl) up (i := i) (x := u) (by rw [← e1]; exact h1) (by rw [← e1]; exact h2) (by rw [← e1]; intro hi; have := h3 hi; grind)
    rw [← yOf_val up (by grind), ← e, ← e1] at this
    exact this
  have yv : yOf li v = (kAt li.ks i).2 + slAt li i * (v - (kAt li.ks i).1) := by
    have := val_at_place (s := li.sl) up (i := i) (x := v) (by rw [← e1]; exact h1) (by rw [← e1]; grind) (by rw [← e1]; exact vb)
    rw [← yOf_val up (by grind), ← e, ← e1] at this
    exact this
  have s0 : slAt li i ≠ 0 := fun z => by
    rw [z] at yu yv
    grind
  have d0 := Rat.div_mul_cancel (a := k.1 - (kAt li.ks i).2) s0
  have zz : u < hitPt (kAt li.ks i) (slAt li i) k.1 ∧ hitPt (kAt li.ks i) (slAt li i) k.1 < v := by
    have hn : (yOf li u - k.1) * (yOf li v - k.1) < 0 := by
      rcases h with ⟨c1, c2⟩ | ⟨c1, c2⟩
      · have := Rat.mul_pos (show 0 < k.1 - yOf li u by grind) (show 0 < yOf li v - k.1 by grind)
        grind
      · have := Rat.mul_pos (show 0 < yOf li u - k.1 by grind) (show 0 < k.1 - yOf li v by grind)
        grind
    refine zero_in (a := (kAt li.ks i).2 - slAt li i * (kAt li.ks i).1 - k.1) (s := slAt li i) (gu := yOf li u - k.1) (gv := yOf li v - k.1) (by rw [yu]; grind) (by rw [yv]; grind) ?_ hn huv
    unfold hitPt
    generalize (k.1 - (kAt li.ks i).2) / slAt li i = q at *
    grind
  refine ⟨i, h1, _, ?_, zz⟩
  unfold hits
  rw [if_neg s0]
  refine List.mem_filter.mpr ⟨List.mem_map.mpr ⟨k, hk, rfl⟩, ?_⟩
  unfold hitIn
  rw [Bool.and_eq_true, Bool.or_eq_true, decide_eq_true_iff, decide_eq_true_iff, decide_eq_true_iff]
  refine ⟨by grind, ?_⟩
  by_cases c : i + 1 < li.ks.length
  · right
    have := vb c
    grind
  · left
    omega
theorem hits_mem {lo li : Ln} {a b c a' b' c' : Nat} (go : LnG a b c lo) (gi : LnG a' b' c' li) {i : Nat} (hi : i < li.ks.length) {z : Rat} (hz : z ∈ hits lo li i) : 0 < z ∧ Bd (a' + (a + b' + 1 + c') + 1) z := by
  unfold hits at hz
  split at hz
  · cases hz
  · rename_i s0
    obtain ⟨h1, h2⟩ := List.mem_filter.mp hz
    obtain ⟨k, hk, rfl⟩ := List.mem_map.mp h1
    unfold hitIn at h2
    rw [Bool.and_eq_true, decide_eq_true_iff] at h2
    have n0 := gi.nn (kAt_mem hi)
    refine ⟨by have := h2.1; grind, ?_⟩
    have bk := gi.b _ (kAt_mem hi)
    exact (bd_add bk.1 (bd_div (bd_sub (go.b k hk).1 bk.2) (gi.s i hi) s0)).mono (by omega)
theorem hits_len (lo li : Ln) (i : Nat) : (hits lo li i).length ≤ lo.ks.length := by
  unfold hits
  split
  · simp
  · refine Nat.le_trans (List.length_filter_le ..) ?_
    simp
end Pm

namespace Pm
open PySem PySem.Spec PyProof.Rows L2
/-! ### where a line is first at least a goal -/
def fst (g a h : Rat) : List Kn → Rat → Option Rat
  | [], s => if 0 < s then some (a + (g - h) / s) else none
  | k :: r, s => if k.2 < g then fst g k.1 k.2 r s else some (a + (g - h) / rise (a, h) k)
def afterK (ks : List Kn) (o : Rat) : List Kn := ks.filter fun k => decide (o < k.1)
def fstAt (l : Ln) (g o : Rat) : Option Rat := if yOf l o < g then fst g o (yOf l o) (afterK l.ks o) l.sl else some o
theorem quo_mul {x s : Rat} (h : 0 < s) : x / s * s = x := Rat.div_mul_cancel (by grind)
theorem quo_pos {x s : Rat} (h : 0 < s) (hx : 0 < x) : 0 < x / s := by
  have e := quo_mul (x := x) h
  rcases (by grind : 0 < x / s ∨ x / s ≤ 0) with c | c
  · exact c
  · have : 0 ≤ (-(x / s)) * s := Rat.mul_nonneg (by grind) (by grind)
    grind
theorem quo_le {x s b : Rat} (h : 0 < s) (hx : x ≤ b * s) : x / s ≤ b := by
  have e := quo_mul (x := x) h
  rcases (by grind : x / s ≤ b ∨ b < x / s) with c | c
  · exact c
  · have : 0 < (x / s - b) * s := Rat.mul_pos (by grind) h
    grind
theorem fst_ok {g s : Rat} : ∀ {r : List Kn} {a h : Rat}, Up (a, h) r → h < g → match fst g a h r s with
    | none => (∀ k ∈ r, k.2 < g) ∧ s ≤ 0
    | some f => a ≤ f ∧ val (a, h) r s f = g ∧ ∀ k ∈ r, k.1 < f → k.2 < g
  | [], a, h, _, hg => by
    unfold fst
    by_cases c : 0 < s
    · rw [if_pos c]
      have p := quo_pos c (show 0 < g - h by grind)
      have e := quo_mul (x := g - h) c
      refine ⟨by grind, ?_, by simp⟩
      show h + s * (a + (g - h) / s - a) = g
      grind
    · rw [if_neg c]
      exact ⟨by simp, by grind⟩
  | k :: r, a, h, u, hg => by
    unfold fst
    have u1 : a < k.1 := u.1
    by_cases c : k.2 < g
    · rw [if_pos c]
      have ih := fst_ok (s := s) (show Up (k.1, k.2) r from u.2) c
      cases e : fst g k.1 k.2 r s with
      | none =>
        rw [e] at ih
        refine ⟨fun x hx => ?_, ih.2⟩
        rcases List.mem_cons.mp hx with rfl | hx
        · exact c
        · exact ih.1 x hx
      | some f =>
        rw [e] at ih
        obtain ⟨i1, i2, i3⟩ := ih
        refine ⟨by grind, by rw [val_tail i1]; exact i2, fun x hx hf => ?_⟩
        rcases List.mem_cons.mp hx with rfl | hx
        · exact c
        · exact i3 x hx hf
    · rw [if_neg c]
      have rm : rise (a, h) k * (k.1 - a) = k.2 - h := rise_mul (p := (a, h)) u1
      have rp : 0 < rise (a, h) k := by
        rcases (by grind : 0 < rise (a, h) k ∨ rise (a, h) k ≤ 0) with d | d
        · exact d
        · have : 0 ≤ (-(rise (a, h) k)) * (k.1 - a) := Rat.mul_nonneg (by grind) (by grind)
          grind
      have p := quo_pos rp (show 0 < g - h by grind)
      have e := quo_mul (x := g - h) rp
      have le : (g - h) / rise (a, h) k ≤ k.1 - a := quo_le rp (by grind)
      refine ⟨by grind, ?_, fun x hx hf => ?_⟩
      · by_cases d : a + (g - h) / rise (a, h) k < k.1
        · rw [val_fs u (show Till (k :: r) (a + (g - h) / rise (a, h) k) from by show a + (g - h) / rise (a, h) k ≤ k.1; grind)]
          show h + rise (a, h) k * (a + (g - h) / rise (a, h) k - a) = g
          grind
        · have e2 : a + (g - h) / rise (a, h) k = k.1 := by grind
          rw [e2, val_at u (List.mem_cons_of_mem _ (List.mem_cons_self ..))]
          have : (g - h) / rise (a, h) k = k.1 - a := by grind
          rw [this] at e
          grind
      · rcases List.mem_cons.mp hx with rfl | hx
        · grind
        · have := Up.lt u.2 hx
          grind
theorem after_all {r : List Kn} {o : Rat} (h : ∀ k ∈ r, o < k.1) : afterK r o = r := by
  unfold afterK
  exact List.filter_eq_self.mpr fun k hk => decide_eq_true (h k hk)
theorem after_cut {s o : Rat} : ∀ {p : Kn} {r : List Kn}, Up p r → p.1 ≤ o → Up (o, val p r s o) (afterK r o) ∧ ∀ x, o ≤ x → val (o, val p r s o) (afterK r o) s x = val p r s x
  | p, [], _, hp => ⟨trivial, fun x hx => by
    show p.2 + s * (o - p.1) + s * (x - o) = p.2 + s * (x - p.1)
    grind⟩
  | p, k :: r, u, hp => by
    by_cases c : o < k.1
    · have e : afterK (k :: r) o = k :: r := after_all fun x hx => by
        rcases List.mem_cons.mp hx with rfl | hx
        · exact c
        · have := Up.lt u.2 hx
          grind
      rw [e]
      have v0 : val p (k :: r) s o = p.2 + rise p k * (o - p.1) := if_pos c
      have rm := rise_mul (p := p) (k := k) u.1
      have rr : rise (o, val p (k :: r) s o) k = rise p k := rise_eq (p := (o, val p (k :: r) s o)) c (by
        show k.2 - val p (k :: r) s o = rise p k * (k.1 - o)
        rw [v0]
        grind)
      refine ⟨⟨c, u.2⟩, fun x hx => ?_⟩
      unfold val
      rw [rr]
      by_cases d : x < k.1
      · rw [if_pos d, if_pos d]
        show val p (k :: r) s o + rise p k * (x - o) = _
        rw [v0]
        grind
      · rw [if_neg d, if_neg d]
    · have e : afterK (k :: r) o = afterK r o := by
        unfold afterK
        rw [List.filter_cons_of_neg (by simpa using c)]
      have ko : k.1 ≤ o := by grind
      rw [e, val_tail ko]
      obtain ⟨i1, i2⟩ := after_cut (s := s) u.2 ko
      exact ⟨i1, fun x hx => by rw [i2 x hx, val_tail (show k.1 ≤ x by grind)]⟩
theorem mem_after {ks : List Kn} {o : Rat} {k : Kn} : k ∈ afterK ks o ↔ k ∈ ks ∧ o < k.1 := by
  unfold afterK
  rw [List.mem_filter]
  simp
theorem fstAt_ok {a b c : Nat} {l : Ln} (gl : LnG a b c l) {g o : Rat} (o0 : 0 ≤ o) : match fstAt l g o with
    | none => (yOf l o < g) ∧ (∀ k ∈ l.ks, o < k.1 → yOf l k.1 < g) ∧ l.sl ≤ 0
    | some f => o ≤ f ∧ g ≤ yOf l f ∧ (f = o ∨ (yOf l f = g ∧ yOf l o < g ∧ ∀ k ∈ l.ks, o ≤ k.1 → k.1 < f → yOf l k.1 < g)) := by
  unfold fstAt
  by_cases c : yOf l o < g
  · rw [if_pos c]
    obtain ⟨p, r, e, p0, u, z⟩ := gl.list
    have po : p.1 ≤ o := by grind
    have ey : ∀ x, 0 ≤ x → yOf l x = val p r l.sl x := fun x hx => by
      have := yOf_val (s := l.sl) (x := x) u (by grind)
      rw [← this, ← e]
    have eks : l.ks = p :: r := by rw [e]
    have ea : afterK l.ks o = afterK r o := by
      rw [eks]
      unfold afterK
      rw [List.filter_cons_of_neg (by simp; grind)]
    obtain ⟨u2, v2⟩ := after_cut (s := l.sl) u po
    rw [ey o o0] at c ⊢
    rw [ea]
    have yk : ∀ k ∈ l.ks, yOf l k.1 = k.2 := fun k hk => by
      rw [ey _ (gl.nn hk)]
      exact val_at u (by rw [← eks]; exact hk)
    have mr : ∀ k ∈ l.ks, o < k.1 → k ∈ afterK r o := fun k hk h => by
      rw [← ea]
      exact mem_after.mpr ⟨hk, h⟩
    have ih := fst_ok (g := g) (s := l.sl) u2 c
    cases ef : fst g o (val p r l.sl o) (afterK r o) l.sl with
    | none =>
      rw [ef] at ih
      exact ⟨c, fun k hk h => by rw [yk k hk]; exact ih.1 k (mr k hk h), ih.2⟩
    | some f =>
      rw [ef] at ih
      obtain ⟨i1, i2, i3⟩ := ih
      have ef : yOf l f = g := by rw [ey f (by grind), ← v2 f i1, i2]
      refine ⟨i1, by grind, .inr ⟨ef, c, fun k hk h1 h2 => ?_⟩⟩
      rcases (by grind : o < k.1 ∨ k.1 = o) with h | h
      · rw [yk k hk]
        exact i3 k (mr k hk h) h2
      · rw [h, ey o o0]
        exact c
  · rw [if_neg c]
    exact ⟨by grind, by grind, .inl rfl⟩
theorem fst_bd {g s : Rat} {A B C G : Nat} (hg : Bd G g) (hs : Bd C s) : ∀ {r : List Kn} {a h : Rat}, Up (a, h) r → h < g → Bd A a → Bd B h → (∀ k ∈ r, Bd A k.1 ∧ Bd B k.2) → ∀ f, fst g a h r s = some f → Bd (3 * A + 3 * B + C + G + 6) f
  | [], a, h, u, hh, ba, bh, _, f, e => by
    unfold fst at e
    by_cases c : 0 < s
    · rw [if_pos c] at e
      cases e
      exact (bd_add ba (bd_div (bd_sub hg bh) hs (by grind))).mono (by omega)
    · rw [if_neg c] at e
      cases e
  | k :: r, a, h, u, hh, ba, bh, bk, f, e => by
    unfold fst at e
    have b1 := bk k (List.mem_cons_self ..)
    by_cases c : k.2 < g
    · rw [if_pos c] at e
      exact fst_bd hg hs (show Up (k.1, k.2) r from u.2) c b1.1 b1.2 (fun x hx => bk x (List.mem_cons_of_mem _ hx)) f e
    · rw [if_neg c] at e
      have u1 : a < k.1 := u.1
      have rm : rise (a, h) k * (k.1 - a) = k.2 - h := rise_mul (p := (a, h)) u1
      have r0 : rise (a, h) k ≠ 0 := fun z => by
        rw [z] at rm
        grind
      have br : Bd (B + B + 1 + (A + A + 1)) (rise (a, h) k) := bd_div (bd_sub b1.2 bh) (bd_sub b1.1 ba) (show k.1 - a ≠ 0 by grind)
      cases e
      exact (bd_add ba (bd_div (bd_sub hg bh) br r0)).mono (by omega)
theorem fstAt_bd {a b c G M : Nat} {l : Ln} (gl : LnG a b c l) {g o : Rat} (o0 : 0 ≤ o) (hg : Bd G g) (ho : Bd M o) : ∀ f, fstAt l g o = some f → Bd (3 * (a + M) + 3 * (a + b + c + M + 5) + c + G + 6) f := by
  intro f e
  unfold fstAt at e
  by_cases h : yOf l o < g
  · rw [if_pos h] at e
    obtain ⟨p, r, e2, p0, u, z⟩ := gl.list
    have po : p.1 ≤ o := by grind
    have eks : l.ks = p :: r := by rw [e2]
    have ea : afterK l.ks o = afterK r o := by
      rw [eks]
      unfold afterK
      rw [List.filter_cons_of_neg (by simp; grind)]
    have ey : yOf l o = val p r l.sl o := by
      have := yOf_val (s := l.sl) (x := o) u (by grind)
      rw [← this, ← e2]
    obtain ⟨u2, v2⟩ := after_cut (s := l.sl) u po
    refine fst_bd hg gl.sl (by rw [ea, ey]; exact u2) h (ho.mono (by omega)) (gl.yo ho) (fun k hk => ?_) f e
    have := gl.b k (mem_after.mp hk).1
    exact ⟨this.1.mono (by omega), this.2.mono (by omega)⟩
  · rw [if_neg h] at e
    cases e
    exact ho.mono (by omega)
theorem LnG.after {a b c : Nat} {l : Ln} (gl : LnG a b c l) {o : Rat} (o0 : 0 ≤ o) : Up (o, yOf l o) (afterK l.ks o) := by
  obtain ⟨p, r, e2, p0, u, z⟩ := gl.list
  have po : p.1 ≤ o := by grind
  have eks : l.ks = p :: r := by rw [e2]
  have ea : afterK l.ks o = afterK r o := by
    rw [eks]
    unfold afterK
    rw [List.filter_cons_of_neg (by simp; grind)]
  have ey : yOf l o = val p r l.sl o := by
    have := yOf_val (s := l.sl) (x := o) u (by grind)
    rw [← this, ← e2]
  rw [ea, ey]
  exact (after_cut (s := l.sl) u po).1
theorem Up.nx {p k : Kn} {r : List Kn} (h : Up p (k :: r)) : Up k r := h.2
/-! ### rising rows are one -/
theorem ris_one : ∀ {r r' : List Rat}, RisL r → RisL r' → (∀ x, x ∈ r ↔ x ∈ r') → r = r'
  | [], [], _, _, _ => rfl
  | [], b :: r', _, _, h => absurd ((h b).mpr (List.mem_cons_self ..)) (by simp)
  | a :: r, [], _, _, h => absurd ((h a).mp (List.mem_cons_self ..)) (by simp)
  | a :: r, b :: r', h1, h2, h => by
    have ab : a = b := by
      have c1 := (h a).mp (List.mem_cons_self ..)
      have c2 := (h b).mpr (List.mem_cons_self ..)
      rcases List.mem_cons.mp c1 with e | m1
      · exact e
      · rcases List.mem_cons.mp c2 with e | m2
        · exact e.symm
        · have z1 := Ris.lt (show Ris b r' from h2) m1
          have z2 := Ris.lt (show Ris a r from h1) m2
          grind
    subst ab
    have : r = r' := ris_one h1.tail h2.tail fun x => by
      constructor
      · intro hx
        rcases List.mem_cons.mp ((h x).mp (List.mem_cons_of_mem _ hx)) with e | m
        · have := Ris.lt (show Ris a r from h1) hx
          grind
        · exact m
      · intro hx
        rcases List.mem_cons.mp ((h x).mpr (List.mem_cons_of_mem _ hx)) with e | m
        · have := Ris.lt (show Ris a r' from h2) hx
          grind
        · exact m
    rw [this]
/-- the x of all knots, rising -/
def rowX (ls : List Ln) : List Rat := (ls.flatMap fun l => l.ks.map fun k => k.1).foldr insR []
theorem mem_foldr_insR {x : Rat} : ∀ {es : List Rat}, x ∈ es.foldr insR [] ↔ x ∈ es
  | [] => by simp
  | e :: es => by
    rw [List.foldr_cons, mem_insR, mem_foldr_insR, List.mem_cons]
theorem ris_foldr_insR : ∀ {es : List Rat}, RisL (es.foldr insR [])
  | [] => trivial
  | e :: es => by
    rw [List.foldr_cons]
    exact risL_insR ris_foldr_insR
theorem rowX_one {ls : List Ln} {qs : List Rat} (h : RisL qs) (m : ∀ x, x ∈ qs ↔ ∃ l ∈ ls, ∃ k ∈ l.ks, k.1 = x) : qs = rowX ls := ris_one h ris_foldr_insR fun x => by
  unfold rowX
  rw [m, mem_foldr_insR, List.mem_flatMap]
  simp
/-- and one beyond -/
def rowB (ls : List Ln) : List Rat := rowX ls ++ [(rowX ls).getLastD 0 + 1]
/-- the least of some x at which two lines are unlike -/
def unlA (l1 l2 : Ln) : Option Rat := (rowB [l1, l2]).find? fun x => decide (yOf l1 x ≠ yOf l2 x)
theorem rowX_swap (l1 l2 : Ln) : rowX [l1, l2] = rowX [l2, l1] := rowX_one ris_foldr_insR fun x => by
  unfold rowX
  rw [mem_foldr_insR, List.mem_flatMap]
  simp
  grind
end Pm

namespace Pm
open PySem PySem.Spec PyProof.Rows L2
def rInsert : V → List V → Hp → VK → Prop := fun x vs H Q => ∃ (l : Addr) (xs : List V) (i : Int) (y : V), x = .ref l ∧ vs = [.int i, y] ∧ H l = some (.lst xs) ∧ xs.length < sizeLine ∧ 0 ≤ i ∧ i < 2 ^ 63 ∧ Q .non (upd H l (.lst (xs.take i.toNat ++ [y] ++ xs.drop i.toNat)))
theorem k_insert {X : Cx} : MtR X "list.insert" rInsert := mt_insert
theorem i_insertN {H : Hp} {Q : VK} {p : Addr} {xs : List V} {i : Int} {y : V} (h : H p = some (.lst xs)) (hl : xs.length ≤ 100000) (i0 : 0 ≤ i) (i1 : i < 1000000) (k : ∀ H', Fx p p H H' → H' p = some (.lst (xs.take i.toNat ++ [y] ++ xs.drop i.toNat)) → Q .non H') : rInsert (.ref p) [.int i, y] H Q := i_insert h hl i0 i1 k
theorem k_piZ (K : PySem.W.Frag) {X : Cx} {e e2 : Expr} {ta : TA} {p pos tpos : Pos} {elts : List Expr} {kk : Nat} (hg : Gl X "zip") (hm : X.mg "zip" = none) (ha : PA X [e, e2] ta) (hs : starEach [e, e2] X.env = (false, eval e X.env) :: starEach [e2] X.env := by rfl)
    (hpl : (backTo pos (starEach [e2] X.env)).any (·.1) = false := by rfl) (hK : X.K = K := by rfl) : PI X (.Tuple elts kk tpos) (.Call (.Name "zip" p) [e, e2] [] pos) (iZip K ta) := by subst hK; exact pi_zip hg hm ha hs hpl
section
variable {K : PySem.W.Frag} {σ : L2.St} {H : Hp} {Q : VK} {D : Ends} {te : TE} {tt : TT} {ts : TS} {tA : TA} {g : TG} {v y : V} {vs : List Nat}
/-! zip of two lists -/
theorem i_iZ {R : It → Hp → Prop} (h : tA σ H fun vs H1 => ∃ a b xs ys, vs = [.ref a, .ref b] ∧ SqL K H1 a xs ∧ SqL K H1 b ys ∧ R (Itz K a b) H1) : iZip K tA σ H R := h
theorem i_itZ {R : Addr → Addr → Prop} {a b : Addr} {xs ys : List V} (h1 : SqL K H a xs) (h2 : SqL K H b ys) (h : R a b) : ∃ a' b' xs ys, [V.ref a, V.ref b] = [.ref a', .ref b'] ∧ SqL K H a' xs ∧ SqL K H b' ys ∧ R a' b' := ⟨a, b, xs, ys, rfl, h1, h2, h⟩
theorem i_lcZ {a b : Addr} {xs ys : List V} {n : Nat} (hn : n = min xs.length ys.length) (I : Addr → Nat → Hp → Prop) (h0 : ∀ A, New H A → I A 0 (upd H A (.lst []))) (hq : ∀ A i H', New H A → I A i H' → SqL K H' a xs ∧ SqL K H' b ys)
    (hs : ∀ A i x y H0 T H', New H A → xs[i]? = some x → ys[i]? = some y → i < n → I A i H0 → New H0 T → Same H0 H' → TpH H' T [x, y] → g (.ref T) (wipe σ vs) H' fun σ2 H2 => wipe σ2 vs = wipe σ vs ∧ tt σ2 H2 fun b H3 =>
      if b = true then te σ2 H3 fun y H4 => ∃ acc, H4 A = some (.lst acc) ∧ acc.length < sizeLine ∧ I A (i + 1) (upd H4 A (.lst (acc ++ [y]))) else I A (i + 1) H3)
    (h : ∀ A H', New H A → I A n H' → Q (.ref A) H') : LcI (Itz K a b) g tt te vs Q σ H := by
  intro A hA
  refine lc_it (walk_zip hn) (fun i H' => I A i H') (h0 A hA) (fun i H' _ p => hq A i H' hA p) (fun i x H0 H' hi p y => ?_) fun H' p => h A H' hA p
  obtain ⟨T, x1, y1, rfl, nT, rfl, e1, e2⟩ := y
  exact hs A i x1 y1 H0 T _ hA e1 e2 hi p nT (same_new nT) ⟨upd_same⟩
/-! l.extend(list) -/
theorem i_extend {p q : Addr} {xs zs : List V} (h1 : H p = some (.lst xs)) (h2 : H q = some (.lst zs)) (hl : xs.length + zs.length ≤ 100000) (h : ∀ H', Fx p p H H' → H' p = some (.lst (xs ++ zs)) → Q .non H') : rExtend (.ref p) [.ref q] H Q :=
  ⟨p, q, xs, zs, rfl, rfl, h1, h2, Nat.le_trans hl (by decide), h _ (fx_upd h1) upd_same⟩
/-- all of truths -/
theorem i_all {p : Addr} {bs : List Bool} (h1 : SqL K H p (bs.map V.bl)) (h : Q (.bl (bs.all id)) H) : rAll K [.ref p] H Q := ⟨p, bs, rfl, h1, h⟩
end
end Pm

namespace Pm
open PySem PySem.Spec PyProof.Rows L2
/-! a def that a local name holds -/
structure OwnF (P : Program) (w : World) (K : PySem.W.Frag) (mg : Str → Option Value) (base : Heap) (CX : CXT) (k : Nat) (f : Addr) (ps : List Str) (sp : Sp) : Prop where
  ex : ∃ fd, FnG P w K mg base CX k f fd ps sp ∧ PySem.W.keepIn K (.ref f) = true ∧ Binds K fd ps []
theorem pe_ownF {X : Cx} {CX : CXT} {k i : Nat} {f : Addr} {ps : List Str} {sp : Sp} {E : XK} {x : Str} {p pos : Pos} {e : Expr} {es : List Expr} {t : TA} (O : OwnF X.prog X.w X.K X.mg X.base CX k f ps sp) (hG : X.A.guards = some []) (hr : Room k X.A) (hx : Passes CX X E) (hN : X.N[i]? = some x) (hv : Vis X.env.scope x) (ha : PA X (e :: es) t)
    (hdb : (x == ("__debug__" : Str)) = false := by decide) (hcd : (x == ("__classdict__" : Str)) = false := by decide) (he : starEach (e :: es) X.env = (false, eval e X.env) :: starEach es X.env := by rfl) (hpl : (backTo pos (starEach es X.env)).any (·.1) = false := by rfl) : PE X (.Call (.Name x p) (e :: es) [] pos) (tCallL i f sp [] E t) := by
  obtain ⟨fd, F, hk, hb⟩ := O.ex
  refine ⟨fun pins s σ H Q I h => ?_⟩
  obtain ⟨hs, ht⟩ := h
  refine wpAny_Call_Name_kw (thn ((pe_var (pos := p) hN hv hdb hcd).run pins s σ H (fun v H1 => v = .ref f ∧ H1 = H) I ⟨.ref f, hs, rfl, rfl⟩) ?_)
  rintro u s1 ⟨v, H1, I1, r1, rfl, rfl⟩
  cases r1
  refine PySem.W.callWith_K (h₀ := X.base) I.ok.mod.kin hk (thn (ha.run pos pins s1 σ _ _ I1 ht) ?_) he hpl
  rintro us s2 ⟨vs, H2, I2, r, q⟩
  have r2 := r.append (.nil : Vals [] [])
  exact ⟨I2.kIn, runG F hG hr (hb s2 us I2.kIn (by rw [← r2.length]; exact F.len _ _ _ _ q)) hx I2 r2 q⟩
theorem i_callL {σ : L2.St} {H : Hp} {Q : VK} {i : Nat} {f : Addr} {sp : Sp} {E : XK} {t : TA} (e : σ[i]? = some (some (.ref f))) (h : t σ H fun vs H1 => sp (vs ++ []) H1 Q E) : tCallL i f sp [] E t σ H Q := ⟨e, h⟩
/-! not in a tuple of data -/
def rNotInT (K : PySem.W.Frag) : R2 := fun x y H Q => ∃ d ds, Dp K H x d ∧ Dp K H y (.tuple ds) ∧ SeqAt.shaped d = true ∧ SeqAt.shaped (.tuple ds) = true ∧ Q (.bl (!ds.any fun z => PyData.eqv z d)) H
theorem op_notInT {X : Cx} (hu : X.A.units + 65 < cLine) : OpR X (compareOp .NotIn) (rNotInT X.K) := by
  intro pins s σ H x y v u Q I rx ry h
  obtain ⟨d, ds, hd, he, sd, se, q⟩ := h
  obtain ⟨as, r1⟩ := Dp.reads I d x v hd rx
  obtain ⟨bs, r2⟩ := Dp.reads I (.tuple ds) y u he ry
  exact SeqAt.notIn_tuple_reads r2 r1 (SeqAt.canLay_of_shaped se) (SeqAt.canLay_of_shaped sd) (room_in_shaped sd hu) ⟨.bl _, H, I, rfl, q⟩
theorem k_notInT {X : Cx} {k : Nat} (K : PySem.W.Frag) (hr : Room k X.A) (hK : X.K = K := by rfl) : OpR X (compareOp .NotIn) (rNotInT K) := by subst hK; exact op_notInT (by have := hr.un; omega)
theorem i_any {K : PySem.W.Frag} {H : Hp} {Q : VK} {p : Addr} {bs : List Bool} (h1 : SqL K H p (bs.map V.bl)) (h : Q (.bl (bs.any id)) H) : rAny K [.ref p] H Q := ⟨p, bs, rfl, h1, h⟩
theorem i_eqBB {K : PySem.W.Frag} {H : Hp} {Q : VK} {a b : Bool} (h : Q (.bl (a == b)) H) : rEqU K (.bl a) (.bl b) H Q := .inl ⟨rfl, by
  rw [show decide (V.bl a = V.bl b) = (a == b) by cases a <;> cases b <;> simp]
  exact h⟩
end Pm

namespace Pm
open PySem PySem.Spec PyProof.Rows L2
/-! ### promises joined, calmed -/
section
variable {P : Program} {w : World} {K : PySem.W.Frag} {mg : Str → Option Value} {base : Heap} {CX : CXT} {k : Nat} {f : Addr} {fd : FuncData} {ps : List Str} {sp sp' : Sp}
theorem FnG.calm (a : FnG P w K mg base (L2.CX P w) k f fd ps sp) : FnG P w K mg base CX0 k f fd ps (fun vs H Q _ => sp vs H Q fun _ _ _ => False) where
  len := fun vs H Q _ h => a.len vs H Q _ h
  run := fun A hA outer s H args us vs Q E hr h0 hb hv hs => by
    refine codeAny_mono (a.run A hA outer s H args us vs Q (fun _ _ _ => False) hr h0 hb hv hs) ?_
    rintro (e | fl) s' hq
    · obtain ⟨_, _, _, _, _, _, _, _, _, _, _, _, z⟩ := hq
      exact z.elim
    · cases fl <;> exact hq
theorem FnG.or (a : FnG P w K mg base CX k f fd ps sp) (b : FnG P w K mg base CX k f fd ps sp') : FnG P w K mg base CX k f fd ps (fun vs H Q E => sp vs H Q E ∨ sp' vs H Q E) where
  len := fun vs H Q E h => h.elim (a.len vs H Q E) (b.len vs H Q E)
  run := fun A hA outer s H args us vs Q E hr h0 hb hv hs => hs.elim (a.run A hA outer s H args us vs Q E hr h0 hb hv) (b.run A hA outer s H args us vs Q E hr h0 hb hv)
theorem FnG.imp (a : FnG P w K mg base CX k f fd ps sp) (h : ∀ vs H Q E, sp' vs H Q E → sp vs H Q E) : FnG P w K mg base CX k f fd ps sp' where
  len := fun vs H Q E z => a.len vs H Q E (h _ _ _ _ z)
  run := fun A hA outer s H args us vs Q E hr h0 hb hv hs => a.run A hA outer s H args us vs Q E hr h0 hb hv (h _ _ _ _ hs)
end
/-! ### a def that a local name holds, called in a try -/
structure OwnFd (P : Program) (w : World) (K : PySem.W.Frag) (mg : Str → Option Value) (base : Heap) (CX : CXT) (k : Nat) (f : Addr) (ps : List Str) (dvs : List V) (sp : Sp) : Prop where
  ex : ∃ fd ds, FnG P w K mg base CX k f fd ps sp ∧ PySem.W.keepIn K (.ref f) = true ∧ Binds K fd ps ds ∧ Vals dvs ds
structure OwnFdK (P : Program) (w : World) (K : PySem.W.Frag) (mg : Str → Option Value) (base : Heap) (CX : CXT) (k : Nat) (f : Addr) (ps : List Str) (n : Nat) (ks : List Str) (gV : List V → List V → List V) (sp : Sp) : Prop where
  ex : ∃ fd g, FnG P w K mg base CX k f fd ps sp ∧ PySem.W.keepIn K (.ref f) = true ∧ KBn K fd ps n ks g gV
section
variable {P : Program} {w : World} {K : PySem.W.Frag} {mg : Str → Option Value} {base : Heap} {CX : CXT} {k n : Nat} {f : Addr} {x : Str} {ps ks : List Str} {dvs : List V} {gV : List V → List V → List V} {sp : Sp}
theorem Own.held (O : Own P w K mg base CX k x ps dvs sp) (h : mg x = some (.ref f)) : OwnFd P w K mg base CX k f ps dvs sp := by
  obtain ⟨f', fd, ds, F, a, b, c, d⟩ := O.ex
  cases h.symm.trans a
  exact ⟨fd, ds, F, b, c, d⟩
theorem OwnK.held (O : OwnK P w K mg base CX k x ps n ks gV sp) (h : mg x = some (.ref f)) : OwnFdK P w K mg base CX k f ps n ks gV sp := by
  obtain ⟨f', fd, g, F, a, b, c⟩ := O.ex
  cases h.symm.trans a
  exact ⟨fd, g, F, b, c⟩
end
def tHeld (i : Nat) (f : Addr) (t : TE) : TE := fun σ H Q => σ[i]? = some (some (.ref f)) ∧ t σ H Q
section
variable {X : Cx} {CX : CXT} {k n i : Nat} {f : Addr} {ps ks : List Str} {sp : Sp} {E : L2.St → XK} {x : Str} {p pos : Pos} {e : Expr} {es : List Expr} {kws : List Keyword} {t tk : TA} {dvs : List V} {gV : List V → List V → List V}
theorem pe_heldX (O : OwnFd X.prog X.w X.K X.mg X.base CX k f ps dvs sp) (hG : X.A.guards = some []) (hr : Room k X.A) (hx : ∀ σ, PassesAt CX X σ (E σ)) (hN : X.N[i]? = some x) (hv : Vis X.env.scope x) (ha : PA X (e :: es) t)
    (hdb : (x == ("__debug__" : Str)) = false := by decide) (hcd : (x == ("__classdict__" : Str)) = false := by decide) (he : starEach (e :: es) X.env = (false, eval e X.env) :: starEach es X.env := by rfl) (hpl : (backTo pos (starEach es X.env)).any (·.1) = false := by rfl) :
    PE X (.Call (.Name x p) (e :: es) [] pos) (tHeld i f (tCallX sp dvs E t)) := by
  obtain ⟨fd, ds, F, hk, hb, hd⟩ := O.ex
  refine ⟨fun pins s σ H Q I h => ?_⟩
  obtain ⟨hs, ht⟩ := h
  refine wpAny_Call_Name_kw (thn ((pe_var (pos := p) hN hv hdb hcd).run pins s σ H (fun v H1 => v = .ref f ∧ H1 = H) I ⟨.ref f, hs, rfl, rfl⟩) ?_)
  rintro u s1 ⟨v, H1, I1, r1, rfl, rfl⟩
  cases r1
  refine PySem.W.callWith_K (h₀ := X.base) I.ok.mod.kin hk (thn (ha.run pos pins s1 σ _ _ I1 ht) ?_) he hpl
  rintro us s2 ⟨vs, H2, I2, r, q⟩
  have r2 := r.append hd
  exact ⟨I2.kIn, runGX F hG hr (hb s2 us I2.kIn (by rw [← r2.length]; exact F.len _ _ _ _ q)) (hx σ) I2 r2 q⟩
theorem pe_heldKX (O : OwnFdK X.prog X.w X.K X.mg X.base CX k f ps n ks gV sp) (hG : X.A.guards = some []) (hr : Room k X.A) (hx : ∀ σ, PassesAt CX X σ (E σ)) (hN : X.N[i]? = some x) (hv : Vis X.env.scope x) (ha : PA X (e :: es) t) (hkw : PK X kws tk)
    (hall : (backToKw pos (keywordEach kws X.env)).all (·.1.isSome) = true := by rfl) (hks : (backToKw pos (keywordEach kws X.env)).filterMap (·.1) = ks := by rfl)
    (hdb : (x == ("__debug__" : Str)) = false := by decide) (hcd : (x == ("__classdict__" : Str)) = false := by decide) (he : starEach (e :: es) X.env = (false, eval e X.env) :: starEach es X.env := by rfl)
    (hpl : ((backTo pos (starEach (e :: es) X.env)).any (·.1) || (backToKw pos (keywordEach kws X.env)).any (·.1.isNone)) = false := by rfl) :
    PE X (.Call (.Name x p) (e :: es) kws pos) (tHeld i f (tCallNX n ks.length sp gV E t tk)) := by
  obtain ⟨fd, g, F, hk, hb⟩ := O.ex
  refine ⟨fun pins s σ H Q I h => ?_⟩
  obtain ⟨hs, ht⟩ := h
  refine wpAny_Call_Name_kw (thn ((pe_var (pos := p) hN hv hdb hcd).run pins s σ H (fun v H1 => v = .ref f ∧ H1 = H) I ⟨.ref f, hs, rfl, rfl⟩) ?_)
  rintro u s1 ⟨v, H1, I1, r1, rfl, rfl⟩
  cases r1
  apply PySem.W.callWith_KW (h₀ := X.base) I.ok.mod.kin hk hall _ hpl he
  refine thn (ha.run pos pins s1 σ _ _ I1 ht) ?_
  rintro us s1' ⟨vs, H1, I1', r, q⟩
  refine thn (hkw.run pos pins s1' σ H1 _ I1' q) ?_
  rintro ws s2 ⟨zs, H2, I2, rz, l1, l2, q2⟩
  rw [hks]
  exact ⟨I2.kIn, runGX F hG hr (hb.to s2 us ws I2.kIn (r.length.symm.trans l1) (rz.length.symm.trans l2)) (hx σ) I2 (hb.rel r rz) q2⟩
/-- never reached -/
def tNoE : TE := fun _ _ _ => False
theorem pe_never : PE X e tNoE := ⟨fun _ _ _ _ _ _ h => h.elim⟩
end
theorem i_held {σ : L2.St} {H : Hp} {Q : VK} {i : Nat} {f : Addr} {t : TE} (e : σ[i]? = some (some (.ref f))) (h : t σ H Q) : tHeld i f t σ H Q := ⟨e, h⟩
end Pm

namespace Pm
open PySem PySem.Spec PyProof.Rows L2
/-! ### bands: what they take of a sum -/
def mnR (x y : Rat) : Rat := if y < x then y else x
/-- what of a sum lies in a band, times its rate -/
def inB (b t : Rat) (r : Rat) : Rat := if b < t then r * (t - b) else 0
def tax (x : Rat) : List Kn → Rat
  | [] => 0
  | [b] => inB b.1 x b.2
  | b :: c :: r => inB b.1 (mnR x c.1) b.2 + tax x (c :: r)
/-- the knots of the line of what is taken, behind that of the first band -/
def bkn (y : Rat) (b : Kn) : List Kn → List Kn
  | [] => []
  | c :: r => (c.1, y + b.2 * (c.1 - b.1)) :: bkn (y + b.2 * (c.1 - b.1)) c r
def lastR (b : Kn) : List Kn → Rat
  | [] => b.2
  | c :: r => lastR c r
theorem bkn_up : ∀ {y : Rat} {b : Kn} {r : List Kn} {z : Rat}, Up b r → Up (b.1, z) (bkn y b r)
  | y, b, [], z, _ => trivial
  | y, b, c :: r, z, u => ⟨u.1, bkn_up u.2⟩
theorem bkn_sl {P : Rat → Prop} : ∀ {y : Rat} {b : Kn} {r : List Kn}, Up b r → (∀ k ∈ b :: r, P k.2) → SlP P (b.1, y) (bkn y b r) (lastR b r)
  | y, b, [], _, h => h b (List.mem_cons_self ..)
  | y, b, c :: r, u, h => by
    refine ⟨?_, bkn_sl u.2 fun k hk => h k (List.mem_cons_of_mem _ hk)⟩
    have e : rise (b.1, y) (c.1, y + b.2 * (c.1 - b.1)) = b.2 := rise_eq u.1 (by show y + b.2 * (c.1 - b.1) - y = b.2 * (c.1 - b.1); grind)
    rw [e]
    exact h b (List.mem_cons_self ..)
theorem tax_none {x : Rat} : ∀ {b : Kn} {r : List Kn}, Up b r → x ≤ b.1 → tax x (b :: r) = 0
  | b, [], _, h => by
    unfold tax inB
    rw [if_neg (by grind)]
  | b, c :: r, u, h => by
    have u1 := u.1
    unfold tax
    rw [tax_none u.2 (by grind)]
    unfold inB mnR
    rw [if_neg (show ¬ c.1 < x by grind), if_neg (by grind)]
    grind
theorem val_tax {x : Rat} : ∀ {y : Rat} {b : Kn} {r : List Kn}, Up b r → b.1 ≤ x → val (b.1, y) (bkn y b r) (lastR b r) x = y + tax x (b :: r)
  | y, b, [], _, h => by
    show y + b.2 * (x - b.1) = y + inB b.1 x b.2
    unfold inB
    split
    · rfl
    · have : x = b.1 := by grind
      rw [this]
      grind
  | y, b, c :: r, u, h => by
    have u1 := u.1
    have e : rise (b.1, y) (c.1, y + b.2 * (c.1 - b.1)) = b.2 := rise_eq u1 (by show y + b.2 * (c.1 - b.1) - y = b.2 * (c.1 - b.1); grind)
    unfold tax
    show (if x < c.1 then y + rise (b.1, y) (c.1, y + b.2 * (c.1 - b.1)) * (x - b.1) else val (c.1, y + b.2 * (c.1 - b.1)) (bkn (y + b.2 * (c.1 - b.1)) c r) (lastR c r) x) = _
    by_cases k : x < c.1
    · rw [if_pos k, e, tax_none u.2 (by grind)]
      unfold inB mnR
      rw [if_neg (show ¬ c.1 < x by grind)]
      split
      · grind
      · have : x = b.1 := by grind
        rw [this]
        grind
    · rw [if_neg k, val_tax u.2 (by grind)]
      have e2 : inB b.1 (mnR x c.1) b.2 = b.2 * (c.1 - b.1) := by
        have m : mnR x c.1 = c.1 := by
          unfold mnR
          split <;> grind
        rw [m]
        unfold inB
        rw [if_pos u1]
      rw [e2]
      grind
/-- rates from nought to one -/
def Rates (bs : List Kn) : Prop := ∀ b ∈ bs, 0 ≤ b.2 ∧ b.2 ≤ 1
theorem rate_le {r d : Rat} (h1 : r ≤ 1) (hd : 0 ≤ d) : r * d ≤ d := by
  have := Rat.mul_nonneg (show 0 ≤ 1 - r by grind) hd
  grind
theorem inB_gap {b r x y : Rat} (h0 : 0 ≤ r) (h1 : r ≤ 1) (h : x ≤ y) : 0 ≤ inB b y r - inB b x r ∧ inB b y r - inB b x r ≤ y - x := by
  unfold inB
  by_cases c : b < x
  · rw [if_pos c, if_pos (by grind)]
    have a1 := Rat.mul_nonneg h0 (show 0 ≤ y - x by grind)
    have a2 := rate_le h1 (show 0 ≤ y - x by grind)
    grind
  · rw [if_neg c]
    by_cases d : b < y
    · rw [if_pos d]
      have a1 := Rat.mul_nonneg h0 (show 0 ≤ y - b by grind)
      have a2 := rate_le h1 (show 0 ≤ y - b by grind)
      grind
    · rw [if_neg d]
      grind
theorem tax_gap {x y : Rat} (h : x ≤ y) : ∀ {bs : List Kn}, Rates bs → (match bs with | [] => True | b :: r => Up b r) → 0 ≤ tax y bs - tax x bs ∧ tax y bs - tax x bs ≤ y - x
  | [], _, _ => by
    unfold tax
    grind
  | [b], hr, _ => by
    unfold tax
    exact inB_gap (hr b (List.mem_cons_self ..)).1 (hr b (List.mem_cons_self ..)).2 h
  | b :: c :: r, hr, u => by
    have hb := hr b (List.mem_cons_self ..)
    have hr2 : Rates (c :: r) := fun k hk => hr k (List.mem_cons_of_mem _ hk)
    have u : Up b (c :: r) := u
    unfold tax
    unfold mnR
    by_cases c1 : c.1 < x
    · rw [if_pos c1, if_pos (by grind)]
      have ih := tax_gap h hr2 (show Up c r from u.2)
      grind
    · rw [if_neg c1, tax_none (x := x) u.2 (by grind)]
      by_cases c2 : c.1 < y
      · rw [if_pos c2]
        have ih := tax_gap (x := c.1) (y := y) (by grind) hr2 (show Up c r from u.2)
        rw [tax_none (x := c.1) u.2 Rat.le_refl] at ih
        have g := inB_gap (b := b.1) (x := x) (y := c.1) hb.1 hb.2 (by grind)
        grind
      · rw [if_neg c2, tax_none u.2 (by grind)]
        have g := inB_gap (b := b.1) hb.1 hb.2 h
        grind
/-- bands of numbers of so many bits -/
structure BnG (n m : Nat) (bs : List Kn) : Prop where
  b : ∀ k ∈ bs, Bd n k.1 ∧ Bd n k.2
  r : Rates bs
  f : ∃ p r, bs = p :: r ∧ p.1 = 0 ∧ Up p r
  len : bs.length ≤ m
theorem bkn_mem {n : Nat} : ∀ {m : Nat} {y : Rat} {b : Kn} {r : List Kn}, Bd m y → (∀ k ∈ b :: r, Bd n k.1 ∧ Bd n k.2) → ∀ k ∈ bkn y b r, Bd n k.1 ∧ Bd (m + r.length * (3 * n + 2)) k.2
  | m, y, b, [], _, _, k, hk => absurd hk (by simp [bkn])
  | m, y, b, c :: r, hy, h, k, hk => by
    have hb := h b (List.mem_cons_self ..)
    have hc := h c (List.mem_cons_of_mem _ (List.mem_cons_self ..))
    have hy2 : Bd (m + (3 * n + 2)) (y + b.2 * (c.1 - b.1)) := (bd_add hy (bd_mul hb.2 (bd_sub hc.1 hb.1))).mono (by omega)
    have e : (c :: r).length * (3 * n + 2) = r.length * (3 * n + 2) + (3 * n + 2) := by
      simp [Nat.add_mul]
    unfold bkn at hk
    rcases List.mem_cons.mp hk with rfl | hk
    · exact ⟨hc.1, hy2.mono (by rw [e]; omega)⟩
    · have ih := bkn_mem hy2 (fun k hk => h k (List.mem_cons_of_mem _ hk)) k hk
      exact ⟨ih.1, ih.2.mono (by rw [e]; omega)⟩
theorem bkn_len : ∀ (y : Rat) (b : Kn) (r : List Kn), (bkn y b r).length = r.length
  | y, b, [] => rfl
  | y, b, c :: r => by
    unfold bkn
    rw [List.length_cons, List.length_cons, bkn_len]
/-- the line of what is taken -/
def taxLn : List Kn → Ln
  | [] => ⟨[], 0⟩
  | b :: r => nline (b.1, 0) (bkn 0 b r) (lastR b r)
theorem taxLn_of {n m : Nat} {bs : List Kn} (h : BnG n m bs) (hm : m ≤ 5000) : LnG n (2 + m * (3 * n + 2)) n (taxLn bs) ∧ (∀ x, 0 ≤ x → yOf (taxLn bs) x = tax x bs) ∧ Nm (taxLn bs) ∧ (taxLn bs).ks.length ≤ m := by
  obtain ⟨p, r, rfl, h0, u⟩ := h.f
  have hl := h.len
  have z : Bd 2 (0 : Rat) := ⟨by decide, by decide⟩
  have up : Up (p.1, (0 : Rat)) (bkn 0 p r) := bkn_up u
  have mem := bkn_mem (n := n) (m := 2) z h.b
  refine ⟨nline_ln h0 up (bkn_sl u fun k hk => (h.b k hk).2) (fun x hx => ?_) (by rw [List.length_cons, bkn_len]; simp at hl; omega), fun x hx => ?_, nline_nm up, ?_⟩
  · rcases List.mem_cons.mp hx with rfl | hx
    · exact ⟨(h.b p (List.mem_cons_self ..)).1, z.mono (by omega)⟩
    · have a := mem x hx
      refine ⟨a.1, a.2.mono ?_⟩
      have : r.length * (3 * n + 2) ≤ m * (3 * n + 2) := Nat.mul_le_mul_right _ (by simp at hl; omega)
      omega
  · show yOf (nline (p.1, 0) (bkn 0 p r) (lastR p r)) x = _
    rw [nline_y up (by rw [h0]; exact hx), val_tax u (by rw [h0]; exact hx)]
    grind
  · show (nline (p.1, 0) (bkn 0 p r) (lastR p r)).ks.length ≤ m
    have := nline_len (p.1, 0) (bkn 0 p r) (lastR p r)
    rw [bkn_len] at this
    show ((p.1, 0) :: nrm (p.1, 0) (bkn 0 p r) (lastR p r)).length ≤ m
    simp at hl ⊢
    omega
end Pm

namespace Pm
open PySem PySem.Spec PyProof.Rows L2
/-! ### zip of two tuples (or two lists) -/
theorem k_piZA (K : PySem.W.Frag) {X : Cx} {e e2 : Expr} {ta : TA} {p pos tpos : Pos} {elts : List Expr} {kk : Nat} (hg : Gl X "zip") (hm : X.mg "zip" = none) (ha : PA X [e, e2] ta) (hs : starEach [e, e2] X.env = (false, eval e X.env) :: starEach [e2] X.env := by rfl)
    (hpl : (backTo pos (starEach [e2] X.env)).any (·.1) = false := by rfl) (hK : X.K = K := by rfl) : PI X (.Tuple elts kk tpos) (.Call (.Name "zip" p) [e, e2] [] pos) (RZ.iZipA K ta) := by subst hK; exact RZ.pi_zipA hg hm ha hs hpl
section
variable {K : PySem.W.Frag} {σ : L2.St} {H : Hp} {Q : VK} {D : Ends} {te : TE} {tt : TT} {ts : TS} {tA : TA} {g : TG} {v y : V} {vs : List Nat} {a b : Addr} {xs ys : List V}
theorem walk_zipT {n : Nat} (hn : n = min xs.length ys.length) : Walk (RZ.ItzT K a b) n (fun H => SqT K H a xs ∧ SqT K H b ys) (YPair (fun i => xs[i]?) (fun i => ys[i]?)) := by
  subst hn
  refine ⟨fun i _ hi q => ?_, fun _ q => ⟨xs, ys, q.1, q.2, by omega⟩, fun i H v H' _ q y => ?_⟩
  · have h1 : i < xs.length := by omega
    have h2 : i < ys.length := by omega
    exact ⟨xs, ys, xs[i], ys[i], q.1, q.2, by simp [h1], by simp [h2]⟩
  · obtain ⟨T, x, z, h1, h2, h3, h4, h5⟩ := y
    exact ⟨T, x, z, h1, h2, h3, h4 xs q.1, h5 ys q.2⟩
theorem i_iZA {R : It → Hp → Prop} (h : tA σ H fun vs H1 => ∃ a b xs ys, vs = [.ref a, .ref b] ∧ ((SqL K H1 a xs ∧ SqL K H1 b ys ∧ R (Itz K a b) H1) ∨ (SqT K H1 a xs ∧ SqT K H1 b ys ∧ R (RZ.ItzT K a b) H1))) : RZ.iZipA K tA σ H R := h
theorem i_itZT {R1 R2 : Addr → Addr → Prop} (h1 : Tp K H a xs) (h2 : Tp K H b ys) (h : R2 a b) : ∃ a' b' xs ys, [V.ref a, V.ref b] = [.ref a', .ref b'] ∧ ((SqL K H a' xs ∧ SqL K H b' ys ∧ R1 a' b') ∨ (SqT K H a' xs ∧ SqT K H b' ys ∧ R2 a' b')) := ⟨a, b, xs, ys, rfl, .inr ⟨h1.sq, h2.sq, h⟩⟩
theorem i_itZL {R1 R2 : Addr → Addr → Prop} (h1 : SqL K H a xs) (h2 : SqL K H b ys) (h : R1 a b) : ∃ a' b' xs ys, [V.ref a, V.ref b] = [.ref a', .ref b'] ∧ ((SqL K H a' xs ∧ SqL K H b' ys ∧ R1 a' b') ∨ (SqT K H a' xs ∧ SqT K H b' ys ∧ R2 a' b')) := ⟨a, b, xs, ys, rfl, .inl ⟨h1, h2, h⟩⟩
theorem i_lcZT {n : Nat} (hn : n = min xs.length ys.length) (I : Addr → Nat → Hp → Prop) (h0 : ∀ A, New H A → I A 0 (upd H A (.lst []))) (hq : ∀ A i H', New H A → I A i H' → Tp K H' a xs ∧ Tp K H' b ys)
    (hs : ∀ A i x y H0 T H', New H A → xs[i]? = some x → ys[i]? = some y → i < n → I A i H0 → New H0 T → Same H0 H' → TpH H' T [x, y] → g (.ref T) (wipe σ vs) H' fun σ2 H2 => wipe σ2 vs = wipe σ vs ∧ tt σ2 H2 fun b H3 =>
      if b = true then te σ2 H3 fun y H4 => ∃ acc, H4 A = some (.lst acc) ∧ acc.length < sizeLine ∧ I A (i + 1) (upd H4 A (.lst (acc ++ [y]))) else I A (i + 1) H3)
    (h : ∀ A H', New H A → I A n H' → Q (.ref A) H') : LcI (RZ.ItzT K a b) g tt te vs Q σ H := by
  intro A hA
  refine lc_it (walk_zipT hn) (fun i H' => I A i H') (h0 A hA) (fun i H' _ p => ⟨(hq A i H' hA p).1.sq, (hq A i H' hA p).2.sq⟩) (fun i x H0 H' hi p y => ?_) fun H' p => h A H' hA p
  obtain ⟨T, x1, y1, rfl, nT, rfl, e1, e2⟩ := y
  exact hs A i x1 y1 H0 T _ hA e1 e2 hi p nT (same_new nT) ⟨upd_same⟩
theorem i_forZT (hl : xs.length = ys.length) (I : Nat → L2.St → Hp → Prop) (h0 : I 0 σ H) (hq : ∀ i σ H, I i σ H → Tp K H a xs ∧ Tp K H b ys)
    (hs : ∀ i x y σ' H0 T H', xs[i]? = some x → ys[i]? = some y → I i σ' H0 → New H0 T → Same H0 H' → TpH H' T [x, y] → g (.ref T) σ' H' fun σ2 H2 => ts { D with nx := I (i + 1), ct := I (i + 1), bk := D.nx } σ2 H2)
    (hd : ∀ σ' H', I xs.length σ' H' → D.nx σ' H') : ForI (RZ.ItzT K a b) g ts D σ H :=
  RZ.for_zipT hl I h0 (fun i σ H p => ⟨(hq i σ H p).1.sq, (hq i σ H p).2.sq⟩) (fun i x y T σ H hx hy p nT => hs i x y σ H T _ hx hy p nT (same_new nT) ⟨upd_same⟩) hd
/-! a slice of a tuple -/
theorem i_slT {p : Addr} {lo hi : Option Int} (h1 : Tp K H p xs) (hw : ¬ (HT.sIx xs.length 0 lo = 0 ∧ HT.sIx xs.length xs.length hi = xs.length)) (h : ∀ a H', New H a → Same H H' → H' a = some (.tup (cutV xs lo hi)) → Q (.ref a) H') : rSlT K (.ref p) lo hi H Q := ⟨p, xs, rfl, h1.sq, hw, i_new h⟩
theorem cut_from {n : Nat} (h : n ≤ xs.length) : cutV xs (some (n : Int)) none = xs.drop n := by
  unfold cutV
  rw [HT.sIx_nat, HT.sIx_none, Nat.min_eq_left h]
  exact List.take_of_length_le (by simp)
/-- all but the first -/
theorem i_slT1 {p : Addr} (h1 : Tp K H p xs) (hn : xs ≠ []) (h : ∀ a H', New H a → Same H H' → H' a = some (.tup (xs.drop 1)) → Q (.ref a) H') : rSlT K (.ref p) (some 1) none H Q := by
  have hl : 1 ≤ xs.length := List.length_pos_iff.mpr hn
  refine i_slT h1 (fun z => ?_) ?_
  · have z1 : HT.sIx xs.length 0 (some ((1 : Nat) : Int)) = 0 := z.1
    rw [HT.sIx_nat] at z1
    omega
  · rw [show cutV xs (some 1) none = xs.drop 1 from cut_from (n := 1) hl]
    exact h
theorem i_addT {K : PySem.W.Frag} {H : Hp} {Q : VK} {p q : Addr} {xs ys : List V} (h1 : Tp K H p xs) (h2 : Tp K H q ys) (e1 : xs ≠ []) (e2 : ys ≠ []) (hl : xs.length + ys.length ≤ 100000) (h : ∀ a H', New H a → Same H H' → TpH H' a (xs ++ ys) → Q (.ref a) H') : rAddU K (.ref p) (.ref q) H Q :=
  .inr (.inr (.inr ⟨p, q, xs, ys, rfl, rfl, h1.sq, h2.sq, e1, Nat.le_trans hl (by decide), fun e => absurd e e2, fun _ a ha => h a _ ha (same_new ha) ⟨upd_same⟩⟩))
end
end Pm

namespace Pm
open PySem PySem.Spec PyProof.Rows L2
/-! ### bands over a small bottom -/
structure BnD (D : Nat) (bs : List Kn) : Prop where
  d0 : 0 < D
  d1 : D ≤ 997
  g : BnG 12 20 bs
  b : ∀ k ∈ bs, k.2.den ∣ D ∧ k.1.den ∣ 4 ∧ k.1 ≤ 600
theorem bkn_dv {D : Nat} : ∀ {y : Rat} {b : Kn} {r : List Kn}, Up b r → Rates (b :: r) → y.den ∣ 4 * D → 0 ≤ y → y ≤ b.1 → (∀ k ∈ b :: r, k.2.den ∣ D ∧ k.1.den ∣ 4 ∧ k.1 ≤ 600) → ∀ k ∈ bkn y b r, k.2.den ∣ 4 * D ∧ 0 ≤ k.2 ∧ k.2 ≤ 600
  | y, b, [], _, _, _, _, _, _, k, hk => absurd hk (by simp [bkn])
  | y, b, c :: r, u, hr, hy, y0, y1, h, k, hk => by
    have hb := h b (List.mem_cons_self ..)
    have hc := h c (List.mem_cons_of_mem _ (List.mem_cons_self ..))
    have rb := hr b (List.mem_cons_self ..)
    have u1 := u.1
    have dd : (c.1 - b.1).den ∣ 4 := dd_sub hc.2.1 hb.2.1
    have dm : (b.2 * (c.1 - b.1)).den ∣ 4 * D := by
      rw [Nat.mul_comm]
      exact dd_mul hb.1 dd
    have y2 : (y + b.2 * (c.1 - b.1)).den ∣ 4 * D := dd_add hy dm
    have m0 := Rat.mul_nonneg rb.1 (show 0 ≤ c.1 - b.1 by grind)
    have m1 := rate_le rb.2 (show 0 ≤ c.1 - b.1 by grind)
    unfold bkn at hk
    rcases List.mem_cons.mp hk with rfl | hk
    · exact ⟨y2, by show 0 ≤ y + b.2 * (c.1 - b.1); grind, by show y + b.2 * (c.1 - b.1) ≤ 600; grind⟩
    · exact bkn_dv u.2 (fun k hk => hr k (List.mem_cons_of_mem _ hk)) y2 (by grind) (by grind) (fun k hk => h k (List.mem_cons_of_mem _ hk)) k hk
theorem BnD.ln {D : Nat} {bs : List Kn} (h : BnD D bs) : LnG 12 22 12 (taxLn bs) := by
  obtain ⟨p, r, rfl, h0, u⟩ := h.g.f
  have hl := h.g.len
  have z : Bd 2 (0 : Rat) := ⟨by decide, by decide⟩
  have up : Up (p.1, (0 : Rat)) (bkn 0 p r) := bkn_up u
  have mem := bkn_mem (n := 12) (m := 2) z h.g.b
  have dv := bkn_dv (D := D) (y := 0) u h.g.r (Nat.one_dvd _) Rat.le_refl (by rw [h0]; exact Rat.le_refl) h.b
  refine nline_ln h0 up (bkn_sl u fun k hk => (h.g.b k hk).2) (fun x hx => ?_) (by rw [List.length_cons, bkn_len]; simp at hl; omega)
  rcases List.mem_cons.mp hx with rfl | hx
  · exact ⟨(h.g.b p (List.mem_cons_self ..)).1, z.mono (by omega)⟩
  · obtain ⟨a1, a2, a3⟩ := dv x hx
    have d0 := h.d0
    have d1 := h.d1
    refine ⟨(mem x hx).1, ?_⟩
    have e : Dv (4 * D) 600 x.2 := ⟨a1, by
      have : -((600 : Nat) : Rat) ≤ 0 := by decide
      grind, a3⟩
    exact e.bd (by omega) (by omega) (by omega)
/-- the slope behind all bands -/
theorem taxLn_sl {b : Kn} {r : List Kn} : (taxLn (b :: r)).sl = lastR b r := rfl
/-! where a line is first at least a goal: nowhere ahead -/
theorem lin_lt {g h k a c x : Rat} (hg : h < g) (hk : k < g) (ac : a < c) (x0 : a ≤ x) (x1 : x ≤ c) {m : Rat} (em : m * (c - a) = k - h) : h + m * (x - a) < g := by
  rcases (by grind : m ≤ 0 ∨ 0 < m) with d | d
  · have := Rat.mul_nonneg (show 0 ≤ -m by grind) (show 0 ≤ x - a by grind)
    grind
  · have := Rat.mul_nonneg (show 0 ≤ m by grind) (show 0 ≤ c - x by grind)
    grind
theorem fst_none {g s : Rat} : ∀ {r : List Kn} {a h : Rat}, Up (a, h) r → h < g → fst g a h r s = none → ∀ x, a ≤ x → val (a, h) r s x < g
  | [], a, h, _, hg, e, x, hx => by
    unfold fst at e
    by_cases c : 0 < s
    · rw [if_pos c] at e
      cases e
    · have := Rat.mul_nonneg (show 0 ≤ -s by grind) (show 0 ≤ x - a by grind)
      show h + s * (x - a) < g
      grind
  | k :: r, a, h, u, hg, e, x, hx => by
    have u1 : a < k.1 := u.1
    unfold fst at e
    by_cases c : k.2 < g
    · rw [if_pos c] at e
      have rm : rise (a, h) k * (k.1 - a) = k.2 - h := rise_mul (p := (a, h)) u1
      show (if x < k.1 then h + rise (a, h) k * (x - a) else val k r s x) < g
      by_cases d : x < k.1
      · rw [if_pos d]
        exact lin_lt hg c u1 hx (by grind) rm
      · rw [if_neg d]
        exact fst_none (show Up (k.1, k.2) r from u.2) c e x (by grind)
    · rw [if_neg c] at e
      cases e
theorem fst_some {g s f : Rat} : ∀ {r : List Kn} {a h : Rat}, Up (a, h) r → h < g → fst g a h r s = some f → ∀ x, a ≤ x → x < f → val (a, h) r s x < g
  | [], a, h, _, hg, e, x, hx, hf => by
    unfold fst at e
    by_cases c : 0 < s
    · rw [if_pos c] at e
      cases e
      have e := quo_mul (x := g - h) c
      have := Rat.mul_pos c (show 0 < a + (g - h) / s - x by grind)
      show h + s * (x - a) < g
      grind
    · rw [if_neg c] at e
      cases e
  | k :: r, a, h, u, hg, e, x, hx, hf => by
    have u1 : a < k.1 := u.1
    have rm : rise (a, h) k * (k.1 - a) = k.2 - h := rise_mul (p := (a, h)) u1
    unfold fst at e
    show (if x < k.1 then h + rise (a, h) k * (x - a) else val k r s x) < g
    by_cases c : k.2 < g
    · rw [if_pos c] at e
      by_cases d : x < k.1
      · rw [if_pos d]
        exact lin_lt hg c u1 hx (by grind) rm
      · rw [if_neg d]
        exact fst_some (show Up (k.1, k.2) r from u.2) c e x (by grind) hf
    · rw [if_neg c] at e
      cases e
      have rp : 0 < rise (a, h) k := by
        rcases (by grind : 0 < rise (a, h) k ∨ rise (a, h) k ≤ 0) with d | d
        · exact d
        · have : 0 ≤ (-(rise (a, h) k)) * (k.1 - a) := Rat.mul_nonneg (by grind) (by grind)
          grind
      have e := quo_mul (x := g - h) rp
      have le : (g - h) / rise (a, h) k ≤ k.1 - a := quo_le rp (by grind)
      rw [if_pos (show x < k.1 by grind)]
      have := Rat.mul_pos rp (show 0 < a + (g - h) / rise (a, h) k - x by grind)
      grind
theorem fstAt_all {a b c : Nat} {l : Ln} (gl : LnG a b c l) {g o : Rat} (o0 : 0 ≤ o) : match fstAt l g o with
    | none => (∀ x, o ≤ x → yOf l x < g) ∧ l.sl ≤ 0
    | some f => o ≤ f ∧ (∀ x, o ≤ x → x < f → yOf l x < g) ∧ ((f = o ∧ g ≤ yOf l o) ∨ (yOf l f = g ∧ yOf l o < g)) := by
  have ok := fstAt_ok gl (g := g) o0
  unfold fstAt at ok ⊢
  by_cases c : yOf l o < g
  · rw [if_pos c] at ok ⊢
    obtain ⟨p, r, e, p0, u, z⟩ := gl.list
    have po : p.1 ≤ o := by grind
    have ey : ∀ x, 0 ≤ x → yOf l x = val p r l.sl x := fun x hx => by
      have := yOf_val (s := l.sl) (x := x) u (by grind)
      rw [← this, ← e]
    have eks : l.ks = p :: r := by rw [e]
    have ea : afterK l.ks o = afterK r o := by
      rw [eks]
      unfold afterK
      rw [List.filter_cons_of_neg (by simp; grind)]
    obtain ⟨u2, v2⟩ := after_cut (s := l.sl) u po
    rw [ey o o0] at c ok ⊢
    rw [ea] at ok ⊢
    cases ef : fst g o (val p r l.sl o) (afterK r o) l.sl with
    | none =>
      rw [ef] at ok
      refine ⟨fun x hx => ?_, ok.2.2⟩
      have := fst_none u2 c ef x hx
      rw [v2 x hx] at this
      rw [ey x (by grind)]
      exact this
    | some f =>
      rw [ef] at ok
      obtain ⟨i1, i2, i3⟩ := ok
      refine ⟨i1, fun x hx hf => ?_, ?_⟩
      · have := fst_some u2 c ef x hx hf
        rw [v2 x hx] at this
        rw [ey x (by grind)]
        exact this
      · rcases i3 with rfl | h
        · rw [ey f o0] at i2
          grind
        · exact .inr ⟨h.1, c⟩
  · rw [if_neg c]
    exact ⟨by grind, fun x h1 h2 => absurd h2 (by grind), .inl ⟨rfl, by grind⟩⟩
end Pm

namespace Pm
open PySem PySem.Spec PyProof.Rows L2
/-! ### tuples put together, slices of tuples, whatever their length -/
section
variable {X : Cx} {K : PySem.W.Frag} {H : Hp} {Q : VK} {p q : Addr} {xs ys : List V}
theorem k_catA (K : PySem.W.Frag) (hK : X.K = K := by rfl) : OpR X (binaryOp .Add) (rCatA K) := by subst hK; exact op_catA
theorem k_slA (K : PySem.W.Frag) (hK : X.K = K := by rfl) : SlR X (rSlA K) := by subst hK; exact sl_tupA
theorem i_catA (h1 : Tp K H p xs) (h2 : Tp K H q ys) (hl : xs.length + ys.length ≤ 100000) (h : ∀ a H', Same H H' → Tp K H' a (xs ++ ys) → Q (.ref a) H') : rCatA K (.ref p) (.ref q) H Q := by
  refine ⟨p, q, xs, ys, rfl, rfl, h1.sq, h2.sq, Nat.le_trans hl (by decide), ?_⟩
  by_cases c : xs = []
  · subst c
    simp only [List.nil_append] at h
    simp
    exact h _ _ (Same.refl _) h2
  · by_cases d : ys = []
    · subst d
      simp only [List.append_nil] at h
      simp [c]
      exact h _ _ (Same.refl _) h1
    · simp [c, d]
      exact fun a ha => h a _ (same_new ha) (Tp.of upd_same)
theorem i_slA {lo hi : Option Int} (h1 : Tp K H p xs) (h : ∀ a H', Same H H' → Tp K H' a (cutV xs lo hi) → Q (.ref a) H') : rSlA K (.ref p) lo hi H Q := by
  refine ⟨p, xs, rfl, h1.sq, ?_⟩
  constructor
  · intro c
    have e : cutV xs lo hi = xs := by
      unfold cutV
      rw [c.1, c.2]
      simp
    rw [e] at h
    exact h _ _ (Same.refl _) h1
  · intro c a ha
    exact h a _ (same_new ha) (Tp.of upd_same)
end
end Pm

namespace Pm
open PySem PySem.Spec PyProof.Rows L2
/-! ### deep data in a list: in, not in, index -/
section
variable {X : Cx} {k : Nat}
theorem k_inD (K : PySem.W.Frag) (hr : Room k X.A) (hK : X.K = K := by rfl) : OpR X (compareOp .In) (rInD K) := by subst hK; exact op_inD (by have := hr.un; omega)
theorem k_notInD (K : PySem.W.Frag) (hr : Room k X.A) (hK : X.K = K := by rfl) : OpR X (compareOp .NotIn) (rNotInD K) := by subst hK; exact op_notInD (by have := hr.un; omega)
theorem k_indexD (K : PySem.W.Frag) (hr : Room k X.A) (hK : X.K = K := by rfl) : MtR X "list.index" (rIndexD K) := by subst hK; exact mt_indexD (by have := hr.un; omega)
end
section
variable {K : PySem.W.Frag} {σ : L2.St} {H : Hp} {Q : VK} {te : TE} {tt : TT} {g : TG} {vs : List Nat} {x y : V} {a p : Addr} {xs : List V} {d : PyData} {ds : List PyData}
theorem i_notInD (h1 : Dp K H x d) (h2 : Dp K H y (.list ds)) (s1 : SeqAt.shaped d = true) (s2 : SeqAt.shaped (.list ds) = true) (h : Q (.bl (!ds.any fun z => PyData.eqv z d)) H) : rNotInD K x y H Q := ⟨d, ds, h1, h2, s1, s2, h⟩
theorem i_inD (h1 : Dp K H x d) (h2 : Dp K H y (.list ds)) (s1 : SeqAt.shaped d = true) (s2 : SeqAt.shaped (.list ds) = true) (h : Q (.bl (ds.any fun z => PyData.eqv z d)) H) : rInD K x y H Q := ⟨d, ds, h1, h2, s1, s2, h⟩
theorem i_indexD {j : Nat} {z : PyData} (h1 : Dp K H (.ref p) (.list ds)) (h2 : Dp K H y d) (s2 : SeqAt.shaped (.list ds) = true) (s1 : SeqAt.shaped d = true) (e : ds[j]? = some z) (e2 : PyData.eqv z d = true) (e3 : ∀ (m : Nat) (z' : PyData), m < j → ds[m]? = some z' → PyData.eqv z' d = false) (h : Q (.int (j : Nat)) H) : rIndexD K (.ref p) [y] H Q := ⟨p, y, d, ds, j, z, rfl, rfl, h1, h2, s2, s1, e, e2, e3, h⟩
/-! enumerate of a tuple in a comprehension -/
theorem walk_ET : Walk (ItET K a) xs.length (fun H => SqT K H a xs) (YPair (fun i => some (.int (i : Nat))) (fun i => xs[i]?)) := by
  refine ⟨fun i _ hi q => ⟨xs, xs[i], q, by simp [hi]⟩, fun _ q => ⟨xs, q, rfl⟩, fun i H v H' _ q y => ?_⟩
  obtain ⟨T, x, ⟨h1, h2⟩, h3, h4⟩ := y
  exact ⟨T, .int (i : Nat), x, h1, h2, h3, rfl, h4 xs q⟩
theorem i_lcET (I : Addr → Nat → Hp → Prop) (h0 : ∀ A, New H A → I A 0 (upd H A (.lst []))) (hq : ∀ A i H', New H A → I A i H' → Tp K H' a xs)
    (hs : ∀ A i x H0 T H', New H A → xs[i]? = some x → i < xs.length → I A i H0 → New H0 T → Same H0 H' → TpH H' T [.int (i : Nat), x] → g (.ref T) (wipe σ vs) H' fun σ2 H2 => wipe σ2 vs = wipe σ vs ∧ tt σ2 H2 fun b H3 =>
      if b = true then te σ2 H3 fun y H4 => ∃ acc, H4 A = some (.lst acc) ∧ acc.length < sizeLine ∧ I A (i + 1) (upd H4 A (.lst (acc ++ [y]))) else I A (i + 1) H3)
    (h : ∀ A H', New H A → I A xs.length H' → Q (.ref A) H') : LcI (ItET K a) g tt te vs Q σ H := by
  intro A hA
  refine lc_it walk_ET (fun i H' => I A i H') (h0 A hA) (fun i H' _ p => (hq A i H' hA p).sq) (fun i x H0 H' hi p y => ?_) fun H' p => h A H' hA p
  obtain ⟨T, x1, y1, rfl, nT, rfl, e1, e2⟩ := y
  obtain rfl := Option.some.inj e1
  exact hs A i y1 H0 T _ hA e2 hi p nT (same_new nT) ⟨upd_same⟩
end
end Pm

namespace Pm
open PySem PySem.Spec PyProof.Rows L2
/-! ### bands over a bottom, begins by eights -/
structure BnE (D : Nat) (bs : List Kn) : Prop where
  d0 : 0 < D
  d1 : D ≤ 1000000
  g : BnG 13 20 bs
  b : ∀ k ∈ bs, k.2.den ∣ D ∧ k.1.den ∣ 8 ∧ k.1 ≤ 601
theorem bkn_dvE {D : Nat} : ∀ {y : Rat} {b : Kn} {r : List Kn}, Up b r → Rates (b :: r) → y.den ∣ 8 * D → 0 ≤ y → y ≤ b.1 → (∀ k ∈ b :: r, k.2.den ∣ D ∧ k.1.den ∣ 8 ∧ k.1 ≤ 601) → ∀ k ∈ bkn y b r, k.2.den ∣ 8 * D ∧ 0 ≤ k.2 ∧ k.2 ≤ 601
  | y, b, [], _, _, _, _, _, _, k, hk => absurd hk (by simp [bkn])
  | y, b, c :: r, u, hr, hy, y0, y1, h, k, hk => by
    have hb := h b (List.mem_cons_self ..)
    have hc := h c (List.mem_cons_of_mem _ (List.mem_cons_self ..))
    have rb := hr b (List.mem_cons_self ..)
    have u1 := u.1
    have dd : (c.1 - b.1).den ∣ 8 := dd_sub hc.2.1 hb.2.1
    have dm : (b.2 * (c.1 - b.1)).den ∣ 8 * D := by
      rw [Nat.mul_comm]
      exact dd_mul hb.1 dd
    have y2 : (y + b.2 * (c.1 - b.1)).den ∣ 8 * D := dd_add hy dm
    have m0 := Rat.mul_nonneg rb.1 (show 0 ≤ c.1 - b.1 by grind)
    have m1 := rate_le rb.2 (show 0 ≤ c.1 - b.1 by grind)
    unfold bkn at hk
    rcases List.mem_cons.mp hk with rfl | hk
    · exact ⟨y2, by show 0 ≤ y + b.2 * (c.1 - b.1); grind, by show y + b.2 * (c.1 - b.1) ≤ 601; grind⟩
    · exact bkn_dvE u.2 (fun k hk => hr k (List.mem_cons_of_mem _ hk)) y2 (by grind) (by grind) (fun k hk => h k (List.mem_cons_of_mem _ hk)) k hk
theorem smallE_bd {D : Nat} {y : Rat} (d0 : 0 < D) (d1 : D ≤ 1000000) (h1 : y.den ∣ 8 * D) (h2 : 0 ≤ y) (h3 : y ≤ 601) : Bd 33 y := by
  have e : Dv (8 * D) 601 y := ⟨h1, by
    have : -((601 : Nat) : Rat) ≤ 0 := by decide
    grind, h3⟩
  exact e.bd (by omega) (by omega) (by omega)
theorem BnE.ln {D : Nat} {bs : List Kn} (h : BnE D bs) : LnG 13 33 13 (taxLn bs) := by
  obtain ⟨p, r, rfl, h0, u⟩ := h.g.f
  have hl := h.g.len
  have z : Bd 2 (0 : Rat) := ⟨by decide, by decide⟩
  have up : Up (p.1, (0 : Rat)) (bkn 0 p r) := bkn_up u
  have mem := bkn_mem (n := 13) (m := 2) z h.g.b
  have dv := bkn_dvE (D := D) (y := 0) u h.g.r (Nat.one_dvd _) Rat.le_refl (by rw [h0]; exact Rat.le_refl) h.b
  refine nline_ln h0 up (bkn_sl u fun k hk => (h.g.b k hk).2) (fun x hx => ?_) (by rw [List.length_cons, bkn_len]; simp at hl; omega)
  rcases List.mem_cons.mp hx with rfl | hx
  · exact ⟨(h.g.b p (List.mem_cons_self ..)).1, z.mono (by omega)⟩
  · obtain ⟨a1, a2, a3⟩ := dv x hx
    exact ⟨(mem x hx).1, smallE_bd h.d0 h.d1 a1 a2 a3⟩
theorem BnD.e {D : Nat} {bs : List Kn} (h : BnD D bs) : BnE D bs :=
  ⟨h.d0, by have := h.d1; omega, ⟨fun k hk => ⟨(h.g.b k hk).1.mono (by decide), (h.g.b k hk).2.mono (by decide)⟩, h.g.r, h.g.f, h.g.len⟩, fun k hk => ⟨(h.b k hk).1, Nat.dvd_trans (h.b k hk).2.1 (by decide), by have := (h.b k hk).2.2; grind⟩⟩
/-! ### the rate at a sum -/
def rtx (b : Kn) : List Kn → Rat → Rat
  | [], _ => b.2
  | c :: r, x => if x < c.1 then b.2 else rtx c r x
def rt : List Kn → Rat → Rat
  | [], _ => 0
  | b :: r, x => rtx b r x
theorem sr_bkn {x : Rat} : ∀ {y : Rat} {b : Kn} {r : List Kn}, Up b r → sr (b.1, y) (bkn y b r) (lastR b r) x = rtx b r x
  | y, b, [], _ => rfl
  | y, b, c :: r, u => by
    have e : rise (b.1, y) (c.1, y + b.2 * (c.1 - b.1)) = b.2 := rise_eq u.1 (by show y + b.2 * (c.1 - b.1) - y = b.2 * (c.1 - b.1); grind)
    show (if x < c.1 then rise (b.1, y) (c.1, y + b.2 * (c.1 - b.1)) else sr (c.1, y + b.2 * (c.1 - b.1)) (bkn (y + b.2 * (c.1 - b.1)) c r) (lastR c r) x) = if x < c.1 then b.2 else rtx c r x
    rw [e, sr_bkn u.2]
theorem sr_skip {s x : Rat} {p k : Kn} {r : List Kn} (h : Up p (k :: r)) (e : rise p k = fs k r s) : sr p r s x = sr p (k :: r) s x := by
  cases r with
  | nil =>
    show s = if x < k.1 then rise p k else s
    rw [e]
    split <;> rfl
  | cons k2 r =>
    have e : rise p k = rise k k2 := e
    have e2 := rise_two h.1 h.2.1 e
    have l2 : k.1 < k2.1 := h.2.1
    show (if x < k2.1 then rise p k2 else sr k2 r s x) = if x < k.1 then rise p k else if x < k2.1 then rise k k2 else sr k2 r s x
    rw [e2, ← e]
    by_cases c : x < k.1
    · rw [if_pos (show x < k2.1 by grind), if_pos c]
    · rw [if_neg c]
theorem sr_nrm {s x : Rat} : ∀ {p : Kn} {r : List Kn}, Up p r → sr p (nrm p r s) s x = sr p r s x
  | p, [], _ => rfl
  | p, k :: r, h => by
    unfold nrm
    split
    · rename_i e
      rw [sr_nrm h.skip]
      exact sr_skip h e
    · rename_i e
      show (if x < k.1 then rise p k else sr k (nrm k r s) s x) = if x < k.1 then rise p k else sr k r s x
      rw [sr_nrm h.2]
theorem sr_const {s w u : Rat} : ∀ {p : Kn} {r : List Kn}, w ≤ u → (∀ k ∈ r, ¬ (w < k.1 ∧ k.1 ≤ u)) → sr p r s u = sr p r s w
  | p, [], _, _ => rfl
  | p, k :: r, h, hn => by
    have c0 := hn k (List.mem_cons_self ..)
    show (if u < k.1 then rise p k else sr k r s u) = if w < k.1 then rise p k else sr k r s w
    by_cases c : u < k.1
    · rw [if_pos c, if_pos (by grind)]
    · rw [if_neg c, if_neg (by grind)]
      exact sr_const h fun k hk => hn k (List.mem_cons_of_mem _ hk)
theorem rt_sr {n m : Nat} {bs : List Kn} (g : BnG n m bs) : ∃ p r s, taxLn bs = ⟨p :: r, s⟩ ∧ p.1 = 0 ∧ ∀ x, rt bs x = sr p r s x := by
  obtain ⟨p, r, rfl, h0, u⟩ := g.f
  exact ⟨(p.1, 0), nrm (p.1, 0) (bkn 0 p r) (lastR p r), lastR p r, rfl, h0, fun x => by rw [sr_nrm (bkn_up u), sr_bkn u]; rfl⟩
theorem rt_const {n m : Nat} {bs : List Kn} (g : BnG n m bs) {w u : Rat} (h : w ≤ u) (hn : ∀ k ∈ (taxLn bs).ks, ¬ (w < k.1 ∧ k.1 ≤ u)) : rt bs u = rt bs w := by
  obtain ⟨p, r, s, e, p0, hr⟩ := rt_sr g
  rw [hr, hr]
  exact sr_const h fun k hk => hn k (by rw [e]; exact List.mem_cons_of_mem _ hk)
theorem bkn_begin : ∀ {y : Rat} {b : Kn} {r : List Kn} {k : Kn}, k ∈ bkn y b r → ∃ c ∈ r, c.1 = k.1
  | y, b, [], k, h => absurd h (by simp [bkn])
  | y, b, c :: r, k, h => by
    unfold bkn at h
    rcases List.mem_cons.mp h with rfl | h
    · exact ⟨c, List.mem_cons_self .., rfl⟩
    · obtain ⟨d, hd, e⟩ := bkn_begin h
      exact ⟨d, List.mem_cons_of_mem _ hd, e⟩
/-- each knot of the line is a begin -/
theorem knot_begin {n m : Nat} {bs : List Kn} (g : BnG n m bs) {k : Kn} (h : k ∈ (taxLn bs).ks) : ∃ c ∈ bs, c.1 = k.1 := by
  obtain ⟨p, r, rfl, h0, u⟩ := g.f
  rcases List.mem_cons.mp (show k ∈ (p.1, (0 : Rat)) :: nrm (p.1, 0) (bkn 0 p r) (lastR p r) from h) with rfl | h
  · exact ⟨p, List.mem_cons_self .., rfl⟩
  · obtain ⟨d, hd, e⟩ := bkn_begin (mem_nrm h)
    exact ⟨d, List.mem_cons_of_mem _ hd, e⟩
theorem tax_step {n m : Nat} {bs : List Kn} (g : BnG n m bs) {u v : Rat} (u0 : 0 ≤ u) (h : u ≤ v) (hn : ∀ k ∈ bs, ¬ (u < k.1 ∧ k.1 < v)) : tax v bs = tax u bs + rt bs u * (v - u) := by
  obtain ⟨p, r, rfl, h0, up⟩ := g.f
  have a1 := val_tax (x := v) (y := 0) up (by rw [h0]; grind)
  have a2 := val_tax (x := u) (y := 0) up (by rw [h0]; grind)
  have st := val_step (s := lastR p r) (bkn_up (y := 0) (z := 0) up) (show p.1 ≤ u by rw [h0]; exact u0) h fun k hk => by
    obtain ⟨c, hc, e⟩ := bkn_begin hk
    rw [← e]
    exact hn c (List.mem_cons_of_mem _ hc)
  rw [sr_bkn up] at st
  have e : rt (p :: r) u = rtx p r u := rfl
  rw [e]
  grind
theorem exists_max {u : Rat} : ∀ {l : List Rat}, (∃ z ∈ l, z ≤ u) → ∃ w ∈ l, w ≤ u ∧ ∀ z ∈ l, z ≤ u → z ≤ w
  | [], h => by
    obtain ⟨z, hz, _⟩ := h
    cases hz
  | a :: l, h => by
    by_cases c : ∃ z ∈ l, z ≤ u
    · obtain ⟨w, hw, h1, h2⟩ := exists_max c
      by_cases d : a ≤ u ∧ w < a
      · exact ⟨a, List.mem_cons_self .., d.1, fun z hz hu => by
          rcases List.mem_cons.mp hz with rfl | hz
          · exact Rat.le_refl
          · have := h2 z hz hu
            grind⟩
      · exact ⟨w, List.mem_cons_of_mem _ hw, h1, fun z hz hu => by
          rcases List.mem_cons.mp hz with rfl | hz
          · grind
          · exact h2 z hz hu⟩
    · obtain ⟨z, hz, hu⟩ := h
      rcases List.mem_cons.mp hz with rfl | hz
      · exact ⟨z, List.mem_cons_self .., hu, fun y hy hyu => by
          rcases List.mem_cons.mp hy with rfl | hy
          · exact Rat.le_refl
          · exact absurd ⟨y, hy, hyu⟩ c⟩
      · exact absurd ⟨z, hz, hu⟩ c
/-- alike rates at all knots ahead: alike rates everywhere ahead -/
theorem rt_alike {n m n' m' : Nat} {one other : List Kn} (g1 : BnG n m one) (g2 : BnG n' m' other) {P : Rat → Prop} (dn : ∀ x y, x ≤ y → P y → P x) (h : ∀ x, ((∃ k ∈ (taxLn one).ks, k.1 = x) ∨ ∃ k ∈ (taxLn other).ks, k.1 = x) → P x → rt one x = rt other x) {u : Rat} (u0 : 0 ≤ u) (hu : P u) : rt one u = rt other u := by
  obtain ⟨p, r, s, e, p0, _⟩ := rt_sr g1
  obtain ⟨w, hw, h1, h2⟩ := exists_max (u := u) (l := (taxLn one).ks.map (fun k => k.1) ++ (taxLn other).ks.map (fun k => k.1)) ⟨0, List.mem_append_left _ (List.mem_map.mpr ⟨p, by rw [e]; exact List.mem_cons_self .., p0⟩), u0⟩
  have hx : (∃ k ∈ (taxLn one).ks, k.1 = w) ∨ ∃ k ∈ (taxLn other).ks, k.1 = w := by
    rcases List.mem_append.mp hw with c | c
    · exact .inl (List.mem_map.mp c)
    · exact .inr (List.mem_map.mp c)
  rw [rt_const g1 h1 (fun k hk => by have := h2 k.1 (List.mem_append_left _ (List.mem_map.mpr ⟨k, hk, rfl⟩)); grind), rt_const g2 h1 (fun k hk => by have := h2 k.1 (List.mem_append_right _ (List.mem_map.mpr ⟨k, hk, rfl⟩)); grind)]
  exact h w hx (dn w u h1 hu)
/-- alike rates ahead of a sum: as much is taken of it -/
theorem tax_alike {n m n' m' : Nat} {one other : List Kn} (g1 : BnG n m one) (g2 : BnG n' m' other) {e : Rat} (h : ∀ x, 0 ≤ x → x < e → rt one x = rt other x) : ∀ {c : Nat} {u : Rat}, (((one ++ other).map fun k => k.1).filter fun x => decide (x < u)).length ≤ c → 0 ≤ u → u ≤ e → tax u one = tax u other
  | c, u, hc, u0, ue => by
    obtain ⟨p, r, e1, p0, _⟩ := g1.f
    obtain ⟨p', r', e2, p0', _⟩ := g2.f
    have z1 : tax 0 one = 0 := by
      rw [e1]
      exact tax_none (by have := g1.f; obtain ⟨a, b, q, _, z⟩ := g1.f; rw [e1] at q; cases q; exact z) (by rw [p0]; exact Rat.le_refl)
    have z2 : tax 0 other = 0 := by
      rw [e2]
      exact tax_none (by obtain ⟨a, b, q, _, z⟩ := g2.f; rw [e2] at q; cases q; exact z) (by rw [p0']; exact Rat.le_refl)
    by_cases cu : u = 0
    · rw [cu, z1, z2]
    · have up : 0 < u := by grind
      -- the greatest begin ahead
      obtain ⟨w, hw, h1, h2⟩ := exists_max (u := u) (l := ((one ++ other).map fun k => k.1).filter fun x => decide (x < u)) ⟨0, List.mem_filter.mpr ⟨List.mem_map.mpr ⟨p, by rw [e1]; simp, p0⟩, by simpa using up⟩, by grind⟩
      obtain ⟨hm, hlt⟩ := List.mem_filter.mp hw
      have hlt : w < u := by simpa using hlt
      have w0 : 0 ≤ w := by
        obtain ⟨k, hk, rfl⟩ := List.mem_map.mp hm
        have nn : ∀ {n m : Nat} {bs : List Kn}, BnG n m bs → k ∈ bs → 0 ≤ k.1 := fun {n m bs} g hk => by
          obtain ⟨p, r, rfl, h0, u⟩ := g.f
          rcases List.mem_cons.mp hk with rfl | h
          · grind
          · have := Up.lt u h
            grind
        rcases List.mem_append.mp hk with c | c
        · exact nn g1 c
        · exact nn g2 c
      have gapn : ∀ k ∈ one ++ other, ¬ (w < k.1 ∧ k.1 < u) := fun k hk z => by
        have := h2 k.1 (List.mem_filter.mpr ⟨List.mem_map.mpr ⟨k, hk, rfl⟩, by simpa using z.2⟩) (by grind)
        grind
      match c, hc with
      | 0, hc =>
        have : (((one ++ other).map fun k => k.1).filter fun x => decide (x < u)) = [] := List.length_eq_zero_iff.mp (by omega)
        rw [this] at hw
        cases hw
      | c + 1, hc =>
        have lt : ((((one ++ other).map fun k => k.1).filter fun x => decide (x < w)).length) < ((((one ++ other).map fun k => k.1).filter fun x => decide (x < u)).length) := by
          have go : ∀ l : List Rat, w ∈ l → ((l.filter fun x => decide (x < w)).length) < ((l.filter fun x => decide (x < u)).length) := fun l => by
            have le : ∀ l : List Rat, ((l.filter fun x => decide (x < w)).length) ≤ ((l.filter fun x => decide (x < u)).length) := fun l => by
              induction l with
              | nil => simp
              | cons a l ih =>
                by_cases c1 : a < w
                · have c2 : a < u := by grind
                  simp [c1, c2]
                  exact ih
                · by_cases c2 : a < u
                  · simp [c1, c2]
                    omega
                  · simp [c1, c2]
                    exact ih
            induction l with
            | nil => intro h; cases h
            | cons a l ih =>
              intro hm
              by_cases c0 : a = w
              · subst c0
                have := le l
                simp [hlt, show ¬ a < a by grind]
                omega
              · have hm : w ∈ l := by
                  rcases List.mem_cons.mp hm with h | h
                  · exact absurd h.symm c0
                  · exact h
                have := ih hm
                by_cases c1 : a < w
                · have c2 : a < u := by grind
                  simp [c1, c2]
                  exact this
                · by_cases c2 : a < u
                  · simp [c1, c2]
                    omega
                  · simp [c1, c2]
                    exact this
          exact go _ hm
        have ih := tax_alike g1 g2 h (c := c) (u := w) (by omega) w0 (by grind)
        rw [tax_step g1 w0 (show w ≤ u by grind) (fun k hk => gapn k (List.mem_append_left _ hk)), tax_step g2 w0 (show w ≤ u by grind) (fun k hk => gapn k (List.mem_append_right _ hk)), ih, h w w0 (by grind)]
/-! ### without a band whose rate is that ahead of it -/
def nmB (b : Kn) : List Kn → List Kn
  | [] => []
  | c :: r => if b.2 = c.2 then nmB c r else c :: nmB c r
def nmL : List Kn → List Kn
  | [] => []
  | b :: r => b :: nmB b r
theorem nmB_rate : ∀ {b b' : Kn} {r : List Kn}, b.2 = b'.2 → nmB b r = nmB b' r
  | b, b', [], _ => rfl
  | b, b', c :: r, e => by
    unfold nmB
    rw [e]
theorem rtx_rate : ∀ {b b' : Kn} {r : List Kn} {x : Rat}, b.2 = b'.2 → rtx b r x = rtx b' r x
  | b, b', [], x, e => e
  | b, b', c :: r, x, e => by
    unfold rtx
    rw [e]
theorem rtx_ahead : ∀ {b : Kn} {r : List Kn} {x : Rat}, (∀ c ∈ r, x < c.1) → rtx b r x = b.2
  | b, [], x, _ => rfl
  | b, c :: r, x, h => if_pos (h c (List.mem_cons_self ..))
theorem nm_one : ∀ {n : Nat} {b b' : Kn} {r r' : List Kn}, r.length + r'.length ≤ n → Up b r → Up b' r' → b.1 = b'.1 → (∀ x, b.1 ≤ x → rtx b r x = rtx b' r' x) → b.2 = b'.2 ∧ nmB b r = nmB b' r'
  | n, b, b', r, r', hn, u, u', e, h => by
    have e2 : b.2 = b'.2 := by
      have := h b.1 Rat.le_refl
      rwa [rtx_ahead fun c hc => Up.lt u hc, rtx_ahead fun c hc => by rw [e]; exact Up.lt u' hc] at this
    refine ⟨e2, ?_⟩
    -- a band of the rate ahead falls away
    have drop1 : ∀ {b c : Kn} {t : List Kn}, Up b (c :: t) → b.2 = c.2 → ∀ x, b.1 ≤ x → rtx b (c :: t) x = rtx b t x := fun {b c t} u e x hx => by
      show (if x < c.1 then b.2 else rtx c t x) = _
      by_cases d : x < c.1
      · rw [if_pos d]
        exact (rtx_ahead fun k hk => by have := Up.lt u.2 hk; grind).symm
      · rw [if_neg d]
        exact (rtx_rate e).symm
    match n, r, r', hn with
    | n, [], [], _ => rfl
    | n, c :: t, r', hn =>
      by_cases d : b.2 = c.2
      · match n, hn with
        | n + 1, hn =>
          have ih := (nm_one (n := n) (b := b) (b' := b') (r := t) (r' := r') (by simp at hn; omega) u.skip u' e (fun x hx => by rw [← drop1 u d x hx]; exact h x hx)).2
          have : nmB b (c :: t) = nmB b t := by
            show (if b.2 = c.2 then nmB c t else _) = _
            rw [if_pos d, nmB_rate d]
          rw [this]
          exact ih
        | 0, hn => simp at hn
      · match r', u', h, hn with
        | [], u', h, hn =>
          have := h c.1 (by have := u.1; grind)
          rw [show rtx b (c :: t) c.1 = rtx c t c.1 from if_neg (by grind), rtx_ahead fun k hk => Up.lt u.2 hk] at this
          exact absurd (e2.trans this.symm) d
        | c' :: t', u', h, hn =>
          by_cases d' : b'.2 = c'.2
          · match n, hn with
            | n + 1, hn =>
              have ih := (nm_one (n := n) (b := b) (b' := b') (r := c :: t) (r' := t') (by simp at hn ⊢; omega) u u'.skip e (fun x hx => by rw [← drop1 u' d' x (by rw [← e]; exact hx)]; exact h x hx)).2
              have : nmB b' (c' :: t') = nmB b' t' := by
                show (if b'.2 = c'.2 then nmB c' t' else _) = _
                rw [if_pos d', nmB_rate d']
              rw [this]
              exact ih
            | 0, hn => simp at hn
          · have ec : c.1 = c'.1 := by
              have u1 := u.1
              have u1' := u'.1
              rcases (by grind : c.1 < c'.1 ∨ c'.1 < c.1 ∨ c.1 = c'.1) with g | g | g
              · have := h c.1 (by grind)
                rw [show rtx b (c :: t) c.1 = rtx c t c.1 from if_neg (by grind), rtx_ahead fun k hk => Up.lt u.2 hk, show rtx b' (c' :: t') c.1 = b'.2 from if_pos g] at this
                exact absurd (e2.trans this.symm) d
              · have := h c'.1 (by grind)
                rw [show rtx b' (c' :: t') c'.1 = rtx c' t' c'.1 from if_neg (by grind), rtx_ahead fun k hk => Up.lt u'.2 hk, show rtx b (c :: t) c'.1 = b.2 from if_pos g] at this
                exact absurd (e2.symm.trans this) d'
              · exact g
            match n, hn with
            | n + 1, hn =>
              have ih := nm_one (n := n) (b := c) (b' := c') (r := t) (r' := t') (by simp at hn; omega) u.2 u'.2 ec (fun x hx => by
                have u1 := u.1
                have z := h x (by grind)
                rw [show rtx b (c :: t) x = rtx c t x from if_neg (by grind), show rtx b' (c' :: t') x = rtx c' t' x from if_neg (by grind)] at z
                exact z)
              show (if b.2 = c.2 then _ else c :: nmB c t) = if b'.2 = c'.2 then _ else c' :: nmB c' t'
              rw [if_neg d, if_neg d', ih.2, show c = c' from Prod.ext ec ih.1]
            | 0, hn => simp at hn
    | n, [], c' :: t', hn =>
      by_cases d' : b'.2 = c'.2
      · match n, hn with
        | n + 1, hn =>
          have ih := (nm_one (n := n) (b := b) (b' := b') (r := []) (r' := t') (by simp at hn ⊢; omega) u u'.skip e (fun x hx => by rw [← drop1 u' d' x (by rw [← e]; exact hx)]; exact h x hx)).2
          have : nmB b' (c' :: t') = nmB b' t' := by
            show (if b'.2 = c'.2 then nmB c' t' else _) = _
            rw [if_pos d', nmB_rate d']
          rw [this]
          exact ih
        | 0, hn => simp at hn
      · have := h c'.1 (by have := u'.1; grind)
        rw [show rtx b' (c' :: t') c'.1 = rtx c' t' c'.1 from if_neg (by grind), rtx_ahead fun k hk => Up.lt u'.2 hk] at this
        exact absurd (e2.symm.trans this) d'
theorem nmL_one {n m n' m' : Nat} {one other : List Kn} (g1 : BnG n m one) (g2 : BnG n' m' other) (h : ∀ x, 0 ≤ x → rt one x = rt other x) : nmL one = nmL other := by
  obtain ⟨p, r, rfl, p0, u⟩ := g1.f
  obtain ⟨p', r', rfl, p0', u'⟩ := g2.f
  obtain ⟨h1, h2⟩ := nm_one (n := r.length + r'.length) (Nat.le_refl _) u u' (by rw [p0, p0']) (fun x hx => h x (by rw [p0] at hx; exact hx))
  show p :: nmB p r = p' :: nmB p' r'
  rw [h2, show p = p' from Prod.ext (by rw [p0, p0']) h1]
/-- the rate of the last band that begins no later -/
theorem rate_at_of : ∀ {b : Kn} {r : List Kn} {x : Rat}, Up b r → b.1 ≤ x → ∃ l k, ((b :: r).filter fun c => decide (¬ x < c.1)) = l ++ [k] ∧ k.2 = rtx b r x
  | b, [], x, _, h => ⟨[], b, by simp; grind, rfl⟩
  | b, c :: r, x, u, h => by
    by_cases d : x < c.1
    · refine ⟨[], b, ?_, (if_pos d).symm⟩
      have : (c :: r).filter (fun c => decide (¬ x < c.1)) = [] := List.filter_eq_nil_iff.mpr fun k hk => by
        rcases List.mem_cons.mp hk with rfl | hk
        · simpa using d
        · have := Up.lt u.2 hk
          simp
          grind
      rw [List.filter_cons_of_pos (by simp; grind), this]
      rfl
    · obtain ⟨l, k, e1, e2⟩ := rate_at_of u.2 (show c.1 ≤ x by grind)
      refine ⟨b :: l, k, ?_, ?_⟩
      · rw [List.filter_cons_of_pos (by simp; grind), e1]
        rfl
      · rw [e2]
        exact (if_neg d).symm
/-- the greatest sum up to which both take alike -/
def alikeO (one other : List Kn) : Option Rat := (rowX [taxLn one, taxLn other]).find? fun x => decide (rt one x ≠ rt other x)
end Pm

namespace Pm
open PySem PySem.Spec PyProof.Rows L2
/-! ### things of any kind: deep data of tuples and lists, these apart from two lists that change -/
inductive JD (K : PySem.W.Frag) (m n : Addr) (H : Hp) : V → PyData → Prop
  | int (i : Int) : JD K m n H (.int i) (.int i)
  | bl (b : Bool) : JD K m n H (.bl b) (.bool b)
  | non : JD K m n H .non .none
  | str (z : Str) : JD K m n H (.str z) (.str z)
  | tup {p : Addr} {xs : List V} {ds : List PyData} (h : Tp K H p xs) (l : xs.length = ds.length) (a : ∀ (i : Nat) (h1 : i < xs.length) (h2 : i < ds.length), JD K m n H xs[i] ds[i]) : JD K m n H (.ref p) (.tuple ds)
  | lst {p : Addr} {xs : List V} {ds : List PyData} (h : H p = some (.lst xs)) (hm : p ≠ m) (hn : p ≠ n) (l : xs.length = ds.length) (a : ∀ (i : Nat) (h1 : i < xs.length) (h2 : i < ds.length), JD K m n H xs[i] ds[i]) : JD K m n H (.ref p) (.list ds)
structure JL (K : PySem.W.Frag) (m n : Addr) (H : Hp) (xs : List V) (ds : List PyData) : Prop where
  len : xs.length = ds.length
  at_ : ∀ (i : Nat) (h1 : i < xs.length) (h2 : i < ds.length), JD K m n H xs[i] ds[i]
/-- data without lists -/
inductive NL : PyData → Prop
  | int (i : Int) : NL (.int i)
  | bl (b : Bool) : NL (.bool b)
  | non : NL .none
  | str (z : Str) : NL (.str z)
  | tup {ds : List PyData} (a : ∀ (i : Nat) (h : i < ds.length), NL ds[i]) : NL (.tuple ds)
section
variable {K : PySem.W.Frag} {m n : Addr} {H H' : Hp} {v x y z : V} {p : Addr} {xs ys : List V} {d e : PyData} {ds es : List PyData}
theorem JD.fx (h : JD K m n H v d) (e : Fx m n H H') : JD K m n H' v d := by
  induction h with
  | int i => exact .int i
  | bl b => exact .bl b
  | non => exact .non
  | str z => exact .str z
  | tup h l a ih => exact .tup (h.tm (Tm.fx e)) l fun i h1 h2 => ih i h1 h2
  | lst h hm hn l a ih => exact .lst (b_lst e hm hn h) hm hn l fun i h1 h2 => ih i h1 h2
theorem JD.same (h : JD K m n H v d) (e : Same H H') : JD K m n H' v d := h.fx (Fx.same e)
theorem JL.fx (h : JL K m n H xs ds) (e : Fx m n H H') : JL K m n H' xs ds := ⟨h.len, fun i h1 h2 => (h.at_ i h1 h2).fx e⟩
theorem JL.same (h : JL K m n H xs ds) (e : Same H H') : JL K m n H' xs ds := h.fx (Fx.same e)
theorem TD.jd (h : TD K H v d) : JD K m n H v d := by
  induction h with
  | int i => exact .int i
  | bl b => exact .bl b
  | non => exact .non
  | str z => exact .str z
  | tup h l a ih => exact .tup h l fun i h1 h2 => ih i h1 h2
theorem TL.jl (h : TL K H xs ds) : JL K m n H xs ds := ⟨h.len, fun i h1 h2 => (h.at_ i h1 h2).jd⟩
theorem JD.td (h : JD K m n H v d) (g : NL d) : TD K H v d := by
  induction h with
  | int i => exact .int i
  | bl b => exact .bl b
  | non => exact .non
  | str z => exact .str z
  | tup h l a ih =>
    cases g with
    | tup g => exact .tup h l fun i h1 h2 => ih i h1 h2 (g i h2)
  | lst h hm hn l a ih => cases g
theorem JL.td (h : JL K m n H xs ds) (g : ∀ (i : Nat) (hi : i < ds.length), NL ds[i]) : TL K H xs ds := ⟨h.len, fun i h1 h2 => (h.at_ i h1 h2).td (g i h2)⟩
theorem TD.nl (h : TD K H v d) : NL d := by
  induction h with
  | int i => exact .int i
  | bl b => exact .bl b
  | non => exact .non
  | str z => exact .str z
  | tup h l a ih => exact .tup fun i h2 => ih i (by omega) h2
theorem JD.dp (h : JD K m n H v d) : Dp K H v d := by
  induction h with
  | int i => exact .int i
  | bl b => exact .bl b
  | non => exact .non
  | str z => exact .str z
  | tup h l a ih => exact .tup h.sq (dpAll_of l fun i h1 h2 => ih i h1 h2)
  | lst h hm hn l a ih => exact .lst (SqL.of h) (dpAll_of l fun i h1 h2 => ih i h1 h2)
theorem JL.dp (r : JL K m n H xs ds) : DpAll K H xs ds := dpAll_of r.len fun i h1 h2 => (r.at_ i h1 h2).dp
theorem JL.nil : JL K m n H [] [] := ⟨rfl, fun i h1 _ => absurd h1 (Nat.not_lt_zero _)⟩
theorem JL.cons (h : JD K m n H v d) (r : JL K m n H xs ds) : JL K m n H (v :: xs) (d :: ds) := ⟨by simp [r.len], fun i h1 h2 => by
  cases i with
  | zero => exact h
  | succ i => exact r.at_ i (by simpa using h1) (by simpa using h2)⟩
theorem JL.append (r : JL K m n H xs ds) (h : JL K m n H ys es) : JL K m n H (xs ++ ys) (ds ++ es) := ⟨by simp [r.len, h.len], fun i h1 h2 => by
  have l := r.len
  by_cases c : i < xs.length
  · rw [List.getElem_append_left c, List.getElem_append_left (by omega)]
    exact r.at_ i c (by omega)
  · rw [List.getElem_append_right (by omega), List.getElem_append_right (by omega)]
    have e : i - xs.length = i - ds.length := by omega
    simp at h1 h2
    have := h.at_ (i - xs.length) (by omega) (by omega)
    simp only [e] at this ⊢
    exact this⟩
theorem JL.snoc (r : JL K m n H xs ds) (h : JD K m n H v d) : JL K m n H (xs ++ [v]) (ds ++ [d]) := r.append (.cons h .nil)
theorem JL.take (r : JL K m n H xs ds) (k : Nat) : JL K m n H (xs.take k) (ds.take k) := ⟨by simp [r.len], fun i h1 h2 => by
  rw [List.getElem_take, List.getElem_take]
  exact r.at_ _ _ _⟩
theorem JL.drop (r : JL K m n H xs ds) (k : Nat) : JL K m n H (xs.drop k) (ds.drop k) := ⟨by simp [r.len], fun i h1 h2 => by
  rw [List.getElem_drop, List.getElem_drop]
  exact r.at_ _ _ _⟩
theorem JL.rev (r : JL K m n H xs ds) : JL K m n H xs.reverse ds.reverse := ⟨by simp [r.len], fun i h1 h2 => by
  rw [List.getElem_reverse, List.getElem_reverse]
  have l := r.len
  have := r.at_ (xs.length - 1 - i) (by simp at h1; omega) (by simp at h1; omega)
  simp only [l] at this ⊢
  exact this⟩
theorem JL.get (r : JL K m n H xs ds) {i : Nat} (h : xs[i]? = some v) : ∃ d, ds[i]? = some d ∧ JD K m n H v d := by
  obtain ⟨h1, rfl⟩ := List.getElem?_eq_some_iff.mp h
  have l := r.len
  exact ⟨ds[i], List.getElem?_eq_getElem (by omega), r.at_ i h1 (by omega)⟩
theorem JL.to (r : JL K m n H xs ds) {i : Nat} (h : ds[i]? = some d) : ∃ v, xs[i]? = some v ∧ JD K m n H v d := by
  obtain ⟨h1, rfl⟩ := List.getElem?_eq_some_iff.mp h
  have l := r.len
  exact ⟨xs[i], List.getElem?_eq_getElem (by omega), r.at_ i (by omega) h1⟩
theorem JD.tupI (h : JD K m n H v (.tuple ds)) : ∃ p xs, v = .ref p ∧ Tp K H p xs ∧ JL K m n H xs ds := by
  cases h with
  | tup h l a => exact ⟨_, _, rfl, h, l, a⟩
theorem JD.lstI (h : JD K m n H v (.list ds)) : ∃ p xs, v = .ref p ∧ H p = some (.lst xs) ∧ p ≠ m ∧ p ≠ n ∧ JL K m n H xs ds := by
  cases h with
  | lst h hm hn l a => exact ⟨_, _, rfl, h, hm, hn, l, a⟩
theorem JD.intI {i : Int} (h : JD K m n H v (.int i)) : v = .int i := by
  cases h
  rfl
theorem JD.of (h : Tp K H p xs) (r : JL K m n H xs ds) : JD K m n H (.ref p) (.tuple ds) := .tup h r.len r.at_
theorem JD.ofL (h : H p = some (.lst xs)) (hm : p ≠ m) (hn : p ≠ n) (r : JL K m n H xs ds) : JD K m n H (.ref p) (.list ds) := .lst h hm hn r.len r.at_
end
end Pm

namespace Pm
open PySem PySem.Spec PyProof.Rows L2
/-! ### a tuple's slice by the step -1: turned about -/
theorem adjust_rev (n : Nat) : Builtin.Slice.sliceAdjust none none (-1) (n : Int) = ((n : Int) - 1, -1) := rfl
theorem places_rev (n : Nat) : Builtin.Slice.slicePlaces ((n : Int) - 1) (-1) (-1) = n := by
  unfold Builtin.Slice.slicePlaces
  rw [if_neg (by decide)]
  simp only [Int.neg_neg, Int.ediv_one]
  split <;> omega
theorem fm_congr {α β : Type} {f g : α → Option β} : ∀ {l : List α}, (∀ x ∈ l, f x = g x) → l.filterMap f = l.filterMap g
  | [], _ => rfl
  | a :: l, h => by
    rw [List.filterMap_cons, List.filterMap_cons, h a (List.mem_cons_self ..), fm_congr fun x hx => h x (List.mem_cons_of_mem _ hx)]
theorem pick_list {α : Type} : ∀ l : List α, ((List.range l.length).filterMap fun (k : Nat) => l[l.length - 1 - k]?) = l.reverse
  | [] => rfl
  | a :: r => by
    rw [List.length_cons, List.range_succ, List.filterMap_append, List.reverse_cons]
    congr 1
    · rw [← pick_list r]
      refine fm_congr fun k hk => ?_
      have : k < r.length := List.mem_range.mp hk
      rw [show r.length + 1 - 1 - k = (r.length - 1 - k) + 1 by omega, List.getElem?_cons_succ]
    · simp
theorem pick_rev (xs : Array Value) : ((List.range xs.size).filterMap fun (k : Nat) => xs[(((xs.size : Int) - 1) + (k : Int) * (-1)).toNat]?).toArray = xs.toList.reverse.toArray := by
  congr 1
  rw [← pick_list xs.toList]
  refine fm_congr fun k hk => ?_
  have : k < xs.size := List.mem_range.mp hk
  rw [show (((xs.size : Int) - 1) + (k : Int) * (-1)).toNat = xs.size - 1 - k by omega]
  simp
section
variable {prog : Program} {w : World} {A : Around} {E : Value → Shared → Prop} {s : Shared}
theorem sliceApplied_rev {sl : Addr} {t : Tok} {n : Nat} {Q : Int × Int × Nat → Shared → Prop} (hs : s.heap.IsSliceOf sl .none .none (.int (-1) t))
    (h : Q ((n : Int) - 1, -1, n) s) : wpAny (model prog w) A (Builtin.Slice.sliceApplied (.ref sl) (pure (n : Int))) Q E s := by
  obtain ⟨os, hos, hcs, hds⟩ := id hs
  unfold Builtin.Slice.sliceApplied Builtin.Slice.sliceFields
  refine wpAny_bind (wpAny_bind (wpAny_field hos hds (x := .none) rfl (wpAny_bind (wpAny_field hos hds (x := .none) rfl (wpAny_bind (wpAny_field hos hds (x := .int (-1) t) rfl (wpAny_pure ?_)))))))
  refine wpAny_bind (slicePart_int ?_)
  show wpAny _ _ (if ((-1 : Int) == 0) = true then _ else _) _ _ s
  rw [if_neg (by decide)]
  refine wpAny_bind (slicePart_none (wpAny_bind (slicePart_none (wpAny_bind (wpAny_pure ?_)))))
  show wpAny _ _ (match Builtin.Slice.sliceAdjust none none (-1) (n : Int) with | (lo, hi) => pure (lo, (-1 : Int), Builtin.Slice.slicePlaces lo hi (-1))) _ _ s
  rw [adjust_rev n]
  show wpAny _ _ (pure ((n : Int) - 1, (-1 : Int), Builtin.Slice.slicePlaces ((n : Int) - 1) (-1) (-1))) _ _ s
  rw [places_rev]
  exact wpAny_pure h
theorem getItem_tuple_rev {t sl : Addr} {items : Array Value} {u : Tok} {Q : Value → Shared → Prop} (ht : IsTup s.heap t items) (hs : s.heap.IsSliceOf sl .none .none (.int (-1) u))
    (h : Q (.ref s.heap.objs.size) { s with heap := s.heap.push { cls := .type "tuple", data := .seq items.toList.reverse.toArray } })
    (hsz : items.size ≤ sizeLine) : wpAny (model prog w) A (getItem (.ref t) (.ref sl)) Q E s := by
  have htake : sizeOk (.seq items.toList.reverse.toArray) := by
    show items.toList.reverse.toArray.size ≤ sizeLine
    rw [List.size_toArray, List.length_reverse, Array.length_toList]
    exact hsz
  obtain ⟨os, hos, hcs, hds⟩ := id hs
  have hTs : s.TypeIs (.ref sl) "slice" := ⟨os, hos, hcs⟩
  unfold getItem
  try with_reducible refine wpAny_holding ?_
  first | refine wpAny_bind (wpAny_pure ?_) | skip
  refine wpAny_bind (wpAny_sequenceKey ht.typeIs (by decide) ?_)
  refine wpAny_bind (wpAny_callSpecial?_slot (name := Str.ofString "__getitem__") ht.typeIs PyProof.Rows.slot_tuple_getitem
    (wpAny_call_entry PyProof.Rows.slot_tuple_getitem ht.typeIs entry_tuple_getitem ?_ (args_tuple_getitem _ _)))
  show wpAny _ _ (Builtin.Tuple.tupleItemsOf (.ref t) >>= _) _ _ s
  refine wpAny_bind (tupleItemsOf_ ht ?_)
  refine wpAny_bind (wpAny_typeOf hTs ?_)
  rw [if_pos (by decide)]
  refine wpAny_bind (sliceApplied_rev hs ?_)
  have hno : ¬ (((items.size : Int) - 1 == 0 && (-1 : Int) == 1 && items.size == items.size) = true) := by simp
  show wpAny _ _ (if ((items.size : Int) - 1 == 0 && (-1 : Int) == 1 && items.size == items.size) = true then _ else _) _ _ s
  rw [if_neg hno, pick_rev]
  first
    | exact wpAny_bind (m := Builtin.Tuple.tupleExact _) (wpAny_newObj_type (wpAny_pure ⟨_, rfl, wpAny_pure h⟩) htake)
    | exact wpAny_bind (m := Builtin.Tuple.tupleExact _) (wpAny_newObj_type (wpAny_bind (wpAny_pure (wpAny_pure ⟨_, rfl, wpAny_pure h⟩))) htake)
    | exact wpAny_bind (wpAny_bind (m := Builtin.Tuple.tupleExact _) (wpAny_newObj_type (wpAny_pure (wpAny_pure ⟨_, rfl, wpAny_pure h⟩)) htake))
    | exact wpAny_bind (wpAny_bind (m := Builtin.Tuple.tupleExact _) (wpAny_newObj_type (wpAny_pure ⟨_, rfl, wpAny_pure h⟩) htake))
end
section
variable {X : Cx} {K : PySem.W.Frag} {H : Hp} {Q : VK} {p : Addr} {xs : List V} {e st : Expr} {lo hi : Option Expr} {te : TE} {tl th tp : TO} {p2 pos : Pos}
def rRevS (K : PySem.W.Frag) : V → Option Int → Option Int → Option Int → Hp → VK → Prop := fun x lo hi st H Q => lo = none ∧ hi = none ∧ st = some (-1) ∧ ∃ a xs, x = .ref a ∧ SqT K H a xs ∧ ∀ q, H q = none → Q (.ref q) (upd H q (.tup xs.reverse))
def tSlS (r : V → Option Int → Option Int → Option Int → Hp → VK → Prop) (te : TE) (tl th tp : TO) : TE := fun σ H Q => te σ H fun x H1 => tl σ H1 fun l H2 => th σ H2 fun u H3 => tp σ H3 fun c H4 => r x l u c H4 Q
theorem pe_sliceS (K : PySem.W.Frag) (hK : X.K = K := by rfl) (he : PE X e te) (hl : PO X lo tl) (hu : PO X hi th) (hp : PO X (some st) tp) : PE X (.Subscript e (.Slice lo hi (some st) p2) pos) (tSlS (rRevS K) te tl th tp) := by
  subst hK
  refine ⟨fun pins s σ H Q I h => ?_⟩
  refine Subscript_ (thn (he.run pins s σ H _ I h) fun v s1 ⟨x, H1, I1, r1, q1⟩ => ?_)
  refine wpAny_Slice (thn (hl.run pins s1 σ H1 _ I1 q1) fun vl s2 ⟨l, H2, I2, pl, q2⟩ => thn (hu.run pins s2 σ H2 _ I2 q2) fun vu s3 ⟨u, H3, I3, pu, q3⟩ => thn (hp.run pins s3 σ H3 _ I3 q3) fun vc s4 ⟨c, H4, I4, pc, q4⟩ => ?_)
  have I5 : Inv X pins σ H4 { s4 with heap := s4.heap.push { cls := .type "slice", data := .fields #[vl, vu, vc] } } := I4.kept (t' := s4.toks) fun b ob q => Heap.get?_push_of_some _ q
  obtain ⟨rfl, rfl, rfl, a, xs, rfl, hx, q⟩ := q4
  cases pl
  cases pu
  cases pc with
  | int i t =>
  cases r1
  obtain ⟨its, r, ht, hz⟩ := I5.tuple hx
  have hlen : its.toArray.size = xs.length := by rw [List.size_toArray]; exact r.length.symm
  show wpAny (model X.prog X.w) X.A (subscriptTail e (.Slice lo hi (some st) p2) (.ref a) (.ref s4.heap.objs.size)) (EP X pins σ Q) X.xe { s4 with heap := s4.heap.push { cls := .type "slice", data := .fields #[.none, .none, .int (-1) t] } }
  refine tail_any (ops := [.ref a, .ref s4.heap.objs.size]) ht.typeIs PyProof.Rows.slot_tuple_getitem.lookup ?_ (by with_unfolding_all rfl)
  refine getItem_tuple_rev ht (Heap.IsSliceOf.new ..) ?_ (by rw [hlen]; exact hz)
  refine ⟨.ref (s4.heap.push { cls := .type "slice", data := .fields #[.none, .none, .int (-1) t] }).objs.size, _, I5.laid (t' := s4.toks) (o := .tup xs.reverse) (fun b ob q => Heap.get?_push_of_some _ q) (Nat.le_refl _) ?_, rfl, q _ (I5.hok.fresh (Nat.le_refl _))⟩
  refine ⟨by rw [List.length_reverse]; exact hz, _, ?_, IsTup.new _ _⟩
  exact r.reverse
theorem i_revS (h1 : Tp K H p xs) (h : ∀ a H', New H a → Same H H' → TpH H' a xs.reverse → Q (.ref a) H') : rRevS K (.ref p) none none (some (-1)) H Q := ⟨rfl, rfl, rfl, p, xs, rfl, h1.sq, fun q hq => h q _ hq (same_new hq) ⟨upd_same⟩⟩
end
end Pm

namespace Pm
open PySem PySem.Spec PyProof.Rows L2
/-! ### data of small numbers, lines judged by data -/
theorem NL.all {ds : List PyData} (h : ∀ d ∈ ds, NL d) : NL (.tuple ds) := .tup fun i hi => h _ (List.getElem_mem hi)
theorem nl_P (q : Rat) : NL (dP q) := .all fun d hd => by
  simp only [List.mem_cons, List.not_mem_nil, or_false] at hd
  rcases hd with rfl | rfl <;> exact .int _
theorem nl_K (k : Kn) : NL (dK k) := .all fun d hd => by
  simp only [List.mem_cons, List.not_mem_nil, or_false] at hd
  rcases hd with rfl | rfl <;> exact nl_P _
theorem JL.ks {K : PySem.W.Frag} {m n : Addr} {H : Hp} {xs : List V} {ks : List Kn} (h : JL K m n H xs (ks.map dK)) : TL K H xs (ks.map dK) := h.td fun i hi => by
  rw [List.getElem_map]
  exact nl_K _
inductive IB (N : Nat) : PyData → Prop
  | int {i : Int} (h : i.natAbs < 2 ^ N) : IB N (.int i)
  | bl (b : Bool) : IB N (.bool b)
  | non : IB N .none
  | str (z : Str) : IB N (.str z)
  | tup {ds : List PyData} (a : ∀ d ∈ ds, IB N d) : IB N (.tuple ds)
  | lst {ds : List PyData} (a : ∀ d ∈ ds, IB N d) : IB N (.list ds)
theorem IB.tupI {N : Nat} {ds : List PyData} (h : IB N (.tuple ds)) : ∀ d ∈ ds, IB N d := by
  cases h with
  | tup a => exact a
theorem IB.P {N : Nat} {q : Rat} (h : IB N (dP q)) : Bd N q := by
  have a := h.tupI (.int q.num) (by simp)
  have b := h.tupI (.int q.den) (by simp)
  cases a with
  | int a =>
    cases b with
    | int b => exact ⟨a, by simpa using b⟩
theorem IB.ofP {N : Nat} {q : Rat} (h : Bd N q) : IB N (dP q) := .tup fun d hd => by
  simp only [List.mem_cons, List.not_mem_nil, or_false] at hd
  rcases hd with rfl | rfl
  · exact .int h.1
  · exact .int (by simpa using h.2)
theorem IB.K {N : Nat} {k : Kn} (h : IB N (dK k)) : Bd N k.1 ∧ Bd N k.2 := ⟨(h.tupI (dP k.1) (by simp)).P, (h.tupI (dP k.2) (by simp)).P⟩
theorem IB.ofK {N : Nat} {k : Kn} (h1 : Bd N k.1) (h2 : Bd N k.2) : IB N (dK k) := .tup fun d hd => by
  simp only [List.mem_cons, List.not_mem_nil, or_false] at hd
  rcases hd with rfl | rfl
  · exact .ofP h1
  · exact .ofP h2
theorem showAll_of : ∀ {ds : List PyData}, (∀ d ∈ ds, d.showable = true) → PyData.showableAll ds = true
  | [], _ => by simp only [PyData.showableAll]
  | d :: ds, h => by simp only [PyData.showableAll, h d (List.mem_cons_self ..), showAll_of fun e he => h e (List.mem_cons_of_mem _ he), Bool.and_self]
theorem IB.shown {N : Nat} {d : PyData} (h : IB N d) (hN : N ≤ 1919) : d.showable = true := by
  induction h with
  | int h => exact (Ok.int (Nat.lt_of_lt_of_le h (Nat.pow_le_pow_right (by decide) hN))).sh
  | bl b => simp only [PyData.showable]
  | non => simp only [PyData.showable]
  | str z => simp only [PyData.showable]
  | tup a ih =>
    simp only [PyData.showable]
    exact showAll_of ih
  | lst a ih =>
    simp only [PyData.showable]
    exact showAll_of ih
/-- a normal line -/
def GoodLn (l : Ln) : Prop := ∃ k r, l.ks = k :: r ∧ k.1 = 0 ∧ Up k r ∧ nrm k r l.sl = r
noncomputable def isLineD (d : PyData) : Bool := @decide (∃ l, d = dL l ∧ GoodLn l) (Classical.propDecidable _)
theorem isLineD_no {d : PyData} (h : ∀ l, d = dL l → ¬ GoodLn l) : isLineD d = false := @decide_eq_false _ (Classical.propDecidable _) fun ⟨l, e, g⟩ => h l e g
theorem dP_inj {p q : Rat} (h : dP p = dP q) : p = q := by
  have := eqv_P p q
  rw [h, eqv_refl_P] at this
  exact of_decide_eq_true this.symm
theorem dK_inj {j k : Kn} (h : dK j = dK k) : j = k := by
  have e : [dP j.1, dP j.2] = [dP k.1, dP k.2] := PyData.tuple.inj h
  have e1 := (List.cons.inj e).1
  have e2 := (List.cons.inj (List.cons.inj e).2).1
  exact Prod.ext (dP_inj e1) (dP_inj e2)
theorem dKs_inj : ∀ {js ks : List Kn}, js.map dK = ks.map dK → js = ks
  | [], [], _ => rfl
  | [], _ :: _, h => absurd h (by simp)
  | _ :: _, [], h => absurd h (by simp)
  | j :: js, k :: ks, h => by
    have h := List.cons.inj h
    rw [dK_inj h.1, dKs_inj h.2]
theorem dL_inj {l l' : Ln} (h : dL l = dL l') : l = l' := by
  have e : [PyData.tuple (l.ks.map dK), dP l.sl] = [.tuple (l'.ks.map dK), dP l'.sl] := PyData.tuple.inj h
  have e1 := dKs_inj (PyData.tuple.inj (List.cons.inj e).1)
  have e2 := dP_inj (List.cons.inj (List.cons.inj e).2).1
  cases l
  cases l'
  simp at e1 e2
  rw [e1, e2]
theorem isLineD_L (l : Ln) (b : Bool) (h : b = true ↔ GoodLn l) : isLineD (dL l) = b := by
  cases b with
  | true => exact @decide_eq_true _ (Classical.propDecidable _) ⟨l, rfl, h.mp rfl⟩
  | false =>
    refine isLineD_no fun l' e g => ?_
    rw [← dL_inj e] at g
    exact absurd (h.mpr g) (by simp)
theorem eqvAll_K : ∀ js ks : List Kn, PyData.eqvAll (js.map dK) (ks.map dK) = decide (js = ks)
  | [], [] => rfl
  | [], _ :: _ => rfl
  | _ :: _, [] => rfl
  | j :: js, k :: ks => by
    have e : PyData.eqv (dK j) (dK k) = decide (j = k) := by
      have : PyData.eqv (dK j) (dK k) = (PyData.eqv (dP j.1) (dP k.1) && PyData.eqv (dP j.2) (dP k.2)) := by simp [dK, PyData.eqv, PyData.eqvAll]
      rw [this, eqv_P, eqv_P, ← Bool.decide_and]
      exact decide_eq_decide.mpr Prod.ext_iff.symm
    rw [List.map_cons, List.map_cons]
    simp only [PyData.eqvAll]
    rw [e, eqvAll_K, ← Bool.decide_and]
    exact decide_eq_decide.mpr (by simp)
theorem sh_Ks (ks : List Kn) : Sh 3 (.list (ks.map dK)) := .lst (.all fun d hd => by
  obtain ⟨k, _, rfl⟩ := List.mem_map.mp hd
  exact .tup (.cons (sh_P _) (.cons (sh_P _) .nil)))
theorem eqv_Ks (js ks : List Kn) : PyData.eqv (.list (js.map dK)) (.list (ks.map dK)) = decide (js = ks) := by
  simp only [PyData.eqv]
  exact eqvAll_K js ks
theorem nml_iff {s : Rat} : ∀ {p : Kn} {r : List Kn}, Nml p r s → nrm p r s = r
  | p, [], _ => rfl
  | p, k :: r, h => by
    show (if rise p k = fs k r s then nrm p r s else k :: nrm k r s) = k :: r
    rw [if_neg h.1, nml_iff h.2]
/-- knots at which it goes straight on -/
def eqN (l : Ln) (i : Nat) : Nat := ((List.range i).filter fun j => decide (slAt l j = slAt l (j + 1))).length
theorem eqN_yes {l : Ln} {i : Nat} (c : slAt l i = slAt l (i + 1)) : eqN l (i + 1) = eqN l i + 1 := by
  unfold eqN
  rw [List.range_succ, List.filter_append]
  simp [c]
theorem eqN_no {l : Ln} {i : Nat} (c : ¬ slAt l i = slAt l (i + 1)) : eqN l (i + 1) = eqN l i := by
  unfold eqN
  rw [List.range_succ, List.filter_append]
  simp [c]
theorem eqN_le (l : Ln) (i : Nat) : eqN l i ≤ i := by
  unfold eqN
  refine Nat.le_trans (List.length_filter_le ..) (by simp)
theorem good_iff {k : Kn} {r : List Kn} {s : Rat} (k0 : k.1 = 0) (up : Up k r) : GoodLn ⟨k :: r, s⟩ ↔ eqN ⟨k :: r, s⟩ r.length = 0 := by
  constructor
  · rintro ⟨k', r', a, _, u, n⟩
    cases a
    have nm : Nml k r s := by
      have := nml_nrm (s := s) up
      rwa [show nrm k r s = r from n] at this
    unfold eqN
    rw [List.length_eq_zero_iff, List.filter_eq_nil_iff]
    intro j hj
    have := nm.at (i := j) (by simp at hj ⊢; omega)
    simpa using this
  · intro h
    unfold eqN at h
    rw [List.length_eq_zero_iff, List.filter_eq_nil_iff] at h
    refine ⟨k, r, rfl, k0, up, nml_iff (Nml.of fun i hi => ?_)⟩
    have := h i (by simp at hi ⊢; omega)
    simpa using this
theorem Sh.at {n : Nat} {ds : List PyData} (h : Sh n (.tuple ds)) : ∀ d ∈ ds, Sh n d := by
  have h1 := h.cl
  have h2 := h.dp
  simp only [PyData.canLay0, PyData.depth] at h1 h2
  have go : ∀ (es : List PyData) (m : Nat), PyData.canLayAll0 es = true → PyData.depthAll es ≤ m → ∀ d ∈ es, Sh m d := fun es => by
    induction es with
    | nil => intro m _ _ d hd; cases hd
    | cons e es ih =>
      intro m a b d hd
      simp only [PyData.canLayAll0, Bool.and_eq_true] at a
      simp only [PyData.depthAll] at b
      rcases List.mem_cons.mp hd with rfl | hd
      · exact ⟨a.1, by omega⟩
      · exact ih m a.2 (by omega) d hd
  exact go ds n h1 (by omega)
theorem ris_of_up : ∀ {p : Kn} {r : List Kn}, Up p r → Ris p.1 (r.map fun k => k.1)
  | _, [], _ => trivial
  | _, c :: r, u => ⟨u.1, ris_of_up u.2⟩
/-- a line's points with further ones that lie on it: its one normal form -/
theorem refined_one {D : Nat} {l : Ln} (g : LnD D l) {p : Kn} {r : List Kn} (u : Up p r) (p0 : p.1 = 0) (on : ∀ k ∈ p :: r, k.2 = yOf l k.1) (has : ∀ k ∈ l.ks, ∃ c ∈ p :: r, c.1 = k.1) (b : ∀ k ∈ p :: r, Bd 200 k.1 ∧ Bd 200 k.2) (hl : (p :: r).length ≤ 100) : nline p r l.sl = l := by
  have G := g.lng
  have er : ∀ (q : List Kn), (∀ k ∈ q, k.2 = yOf l k.1) → (q.map fun k => k.1).map (fun x => (x, yOf l x)) = q := fun q => by
    induction q with
    | nil => intro _; rfl
    | cons k q ih =>
      intro h
      rw [List.map_cons, List.map_cons, ih fun c hc => h c (List.mem_cons_of_mem _ hc), ← h k (List.mem_cons_self ..)]
  have nn : ∀ x ∈ p.1 :: r.map fun k => k.1, 0 ≤ x := fun x hx => by
    rcases List.mem_cons.mp hx with rfl | hx
    · rw [p0]
      exact Rat.le_refl
    · have := (ris_of_up u).lt hx
      rw [p0] at this
      grind
  have it := itp_of (P := Bd 40) (f := yOf l) (s := l.sl) (ris_of_up u) (fun x hx => by
    obtain ⟨w, h1, h2, h3⟩ := G.step (nn x hx)
    have mem : ∀ k ∈ l.ks, k.1 ∈ p.1 :: r.map fun k => k.1 := fun k hk => by
      obtain ⟨c, hc, e⟩ := has k hk
      rw [← e]
      exact List.mem_map.mpr ⟨c, hc, rfl⟩
    exact ⟨w, h1, fun h => h2 fun k hk => h k.1 (mem k hk), fun v uv h => h3 v uv fun k hk => h k.1 (mem k hk)⟩)
  rw [er r fun k hk => on k (List.mem_cons_of_mem _ hk), show ((p.1, yOf l p.1) : Kn) = p from Prod.ext rfl (on p (List.mem_cons_self ..)).symm] at it
  exact (nline_f (a := 200) (b := 200) (n := 100) it p0 b hl (by decide)).one g.fn
end Pm

namespace Pm
open PySem PySem.Spec PyProof.Rows L2
/-! ### an empty dict, shown -/
def rReprT (K : PySem.W.Frag) : List V → Hp → VK → Prop := fun xs H Q => rReprV K xs H Q ∨ ∃ p, xs = [.ref p] ∧ H p = some (.dK []) ∧ Q (.str (PyData.dict []).shown) H
theorem call_reprT {X : Cx} {k : Nat} (hG : X.A.guards = some []) (hr : Room k X.A) : CallR X (.builtin "repr") (rReprT X.K) := by
  intro pins s σ H xs us Q I r h
  rcases h with h | ⟨p, rfl, hp, q⟩
  · exact call_reprV hG hr pins s σ H xs us Q I r h
  · obtain ⟨u, rfl, ru⟩ := vals1 r
    cases ru
    obtain ⟨_, z, vs, kv, hd⟩ := dk_of I.hok hp
    cases kv
    obtain ⟨o, es, ep, ho, ex, ed, _, pr, _⟩ := hd
    have e0 : es.toList = [] := List.length_eq_zero_iff.mp (by have := pr.length; simpa using this)
    have hR : Reads s.heap (.ref p) (.dict []) [p] := by
      have := Reads.dict (kvs := []) (as := []) (bs := []) ho ex.1 ed (by rw [e0]; exact .nil) (by rw [e0]; exact .nil)
      simpa using this
    have hu := hr.un
    exact repr_of_reads' hR rfl (fun _ m => by
      rw [List.mem_singleton.mp m] at z
      simp at z) hG (by have e : (PyData.dict []).depth = 1 := rfl; omega) (fun _ _ e => e) (fun h' u tk hk => ⟨.str _, H, I.kept hk, ⟨_, rfl⟩, q⟩) (by decide +kernel)
theorem k_reprT {X : Cx} {k : Nat} (K : PySem.W.Frag) (hG : X.A.guards = some []) (hr : Room k X.A) (hK : X.K = K := by rfl) : CallR X (.builtin "repr") (rReprT K) := by subst hK; exact call_reprT hG hr
theorem i_reprT {K : PySem.W.Frag} {H : Hp} {Q : VK} {v : V} {d : PyData} {n m : Nat} (h1 : Dp K H v d) (h2 : Ok n m d) (hn : n ≤ 60) (hm : m ≤ 16000000) (h : Q (.str d.shown) H) : rReprT K [v] H Q := .inl (i_reprV h1 h2 hn hm h)
theorem i_reprE {K : PySem.W.Frag} {H : Hp} {Q : VK} {p : Addr} (h1 : H p = some (.dK [])) (h : Q (.str (PyData.dict []).shown) H) : rReprT K [.ref p] H Q := .inr ⟨p, rfl, h1, h⟩
/-! ### a call of one of several defs -/
def tCallE (tf : TE) (S : Addr → List V → Sp → Prop) (E : XK) (t : TA) : TE := fun σ H Q => tf σ H fun x H1 => ∃ (f : Addr) (dvs : List V) (sp : Sp), x = .ref f ∧ S f dvs sp ∧ t σ H1 fun vs H2 => sp (vs ++ dvs) H2 Q E
section
variable {X : Cx} {CX : CXT} {k : Nat} {fe : Expr} {tf : TE} {S : Addr → List V → Sp → Prop} {E : XK} {pos : Pos} {e : Expr} {es : List Expr} {t : TA}
theorem pe_callE (O : ∀ f dvs sp, S f dvs sp → ∃ k' ps, k' ≤ k ∧ OwnFd X.prog X.w X.K X.mg X.base CX k' f ps dvs sp) (hf : PE X fe tf) (hG : X.A.guards = some []) (hr : Room k X.A) (hx : Passes CX X E) (ha : PA X (e :: es) t)
    (hev : eval (.Call fe (e :: es) [] pos) X.env = (do callWith pos (← eval fe X.env) [] (backTo pos (starEach (e :: es) X.env)) (backToKw pos (keywordEach [] X.env))) := by rfl)
    (he : starEach (e :: es) X.env = (false, eval e X.env) :: starEach es X.env := by rfl) (hpl : (backTo pos (starEach es X.env)).any (·.1) = false := by rfl) : PE X (.Call fe (e :: es) [] pos) (tCallE tf S E t) := by
  refine ⟨fun pins s σ H Q I h => ?_⟩
  rw [hev]
  refine wpAny_bind (thn (hf.run pins s σ H _ I h) ?_)
  rintro u s1 ⟨v, H1, I1, r1, f, dvs, sp, rfl, hS, ht⟩
  cases r1
  obtain ⟨k', ps, hk', O'⟩ := O f dvs sp hS
  obtain ⟨fd, ds, F, hk, hb, hd⟩ := O'.ex
  refine PySem.W.callWith_K (h₀ := X.base) I1.ok.mod.kin hk (thn (ha.run pos pins s1 σ _ _ I1 ht) ?_) he hpl
  rintro us s2 ⟨vs, H2, I2, r, q⟩
  have r2 := r.append hd
  exact ⟨I2.kIn, runG F hG (hr.mono hk') (hb s2 us I2.kIn (by rw [← r2.length]; exact F.len _ _ _ _ q)) hx I2 r2 q⟩
end
end Pm

namespace Pm
open PySem PySem.Spec PyProof.Rows L2
/-! ### what is shown alike is alike -/
abbrev cp (d : PyData) : List Nat := d.shown.cps.toList
def moreT : List PyData → List Nat
  | [] => [41]
  | d :: r => 44 :: 32 :: (cp d ++ moreT r)
def tlT : List PyData → List Nat
  | [] => [41]
  | [a] => cp a ++ [44, 41]
  | a :: b :: r => cp a ++ moreT (b :: r)
theorem join_more : ∀ (a : PyData) (r : List PyData), (Str.join ", " (PyData.shownAll (a :: r))).cps.toList ++ [41] = cp a ++ moreT r
  | a, [] => by
    simp only [PyData.shownAll, join_one, moreT]
  | a, b :: r => by
    have ih := join_more b r
    simp only [PyData.shownAll] at ih ⊢
    rw [join_cons_cons, cps_toList_append, cps_toList_append, signs_sep, List.append_assoc, List.append_assoc, ih]
    rfl
theorem cp_tup : ∀ ds : List PyData, cp (.tuple ds) = 40 :: tlT ds
  | [] => by decide +kernel
  | [a] => by
    show (PyData.tuple [a]).shown.cps.toList = _
    rw [PyData.shown_tuple, cps_toList_append, cps_toList_append, signs_lparen, signs_tuple_end]
    simp only [PyData.shownAll, join_one, List.length_singleton, tlT]
    rfl
  | a :: b :: r => by
    show (PyData.tuple (a :: b :: r)).shown.cps.toList = _
    have e := join_more a (b :: r)
    rw [PyData.shown_tuple, cps_toList_append, cps_toList_append, signs_lparen, signs_tuple_end, if_neg (by simp [PyData.shownAll]), List.append_assoc, e]
    rfl
theorem cp_lst (ds : List PyData) : ∃ t, cp (.list ds) = 91 :: t := by
  have e : (PyData.list ds).shown.cps.toList = [91] ++ (Str.join ", " (PyData.shownAll ds)).cps.toList ++ (("]" : String) : Str).cps.toList := by
    rw [PyData.shown_list, cps_toList_append, cps_toList_append, signs_lbrack]
  exact ⟨_, e⟩
def Num (c : Nat) : Prop := c = 45 ∨ (48 ≤ c ∧ c ≤ 57)
theorem cp_num (i : Int) : ∀ c ∈ cp (.int i), Num c := fun c hc => by
  refine Classical.byContradiction fun h => ?_
  unfold Num at h
  exact shown_int_free' (k := c) ⟨by omega, by omega⟩ i hc
theorem cp_int (i : Int) : cp (.int i) = (toString i).toList.map Char.toNat := by
  show (PyData.int i).shown.cps.toList = _
  rw [PyData.shown_int]
  exact signs_ofString _
theorem cp_ne (i : Int) : cp (.int i) ≠ [] := by
  rw [cp_int]
  intro h
  have h := List.map_eq_nil_iff.mp h
  have e : toString i = "" := String.toList_eq_nil_iff.mp h
  have e : Int.repr i = "" := e
  cases i with
  | ofNat n => exact Nat.repr_ne_empty e
  | negSucc n =>
    have e : "-" ++ (n + 1).repr = "" := e
    have := congrArg String.length e
    rw [String.length_append] at this
    have l : "-".length = 1 := by decide
    have l0 : "".length = 0 := by decide
    omega
theorem map_inj : ∀ {a b : List Char}, a.map Char.toNat = b.map Char.toNat → a = b
  | [], [], _ => rfl
  | [], b :: bs, h => by cases h
  | a :: as, [], h => by cases h
  | a :: as, b :: bs, h => by
    simp only [List.map_cons, List.cons.injEq] at h
    rw [map_inj h.2, Char.toNat_inj.mp h.1]
theorem cp_int_inj {i j : Int} (h : cp (.int i) = cp (.int j)) : i = j := by
  rw [cp_int, cp_int] at h
  exact Int.repr_injective (String.toList_inj.mp (map_inj h))
def Stop (s : List Nat) : Prop := s = [] ∨ ∃ t, s = 44 :: t ∨ s = 41 :: t
theorem num_split : ∀ {a b s s' : List Nat}, (∀ c ∈ a, Num c) → (∀ c ∈ b, Num c) → Stop s → Stop s' → a ++ s = b ++ s' → a = b ∧ s = s'
  | [], [], s, s', _, _, _, _, h => ⟨rfl, h⟩
  | [], b :: bs, s, s', _, hb, hs, _, h => by
    have n := hb b (List.mem_cons_self ..)
    unfold Num at n
    have h : s = b :: (bs ++ s') := h
    rcases hs with e | ⟨t, e | e⟩ <;> rw [e] at h
    · cases h
    · cases h; omega
    · cases h; omega
  | a :: as, [], s, s', ha, _, _, hs, h => by
    have n := ha a (List.mem_cons_self ..)
    unfold Num at n
    have h : a :: (as ++ s) = s' := h
    rcases hs with e | ⟨t, e | e⟩ <;> rw [e] at h
    · cases h
    · cases h; omega
    · cases h; omega
  | a :: as, b :: bs, s, s', ha, hb, hs, hs', h => by
    have h : a :: (as ++ s) = b :: (bs ++ s') := h
    injection h with h1 h2
    obtain ⟨e1, e2⟩ := num_split (fun c hc => ha c (List.mem_cons_of_mem _ hc)) (fun c hc => hb c (List.mem_cons_of_mem _ hc)) hs hs' h2
    exact ⟨by rw [h1, e1], e2⟩
/-- data without texts (but none) and dicts -/
inductive Pl : PyData → Prop
  | int (i : Int) : Pl (.int i)
  | bl (b : Bool) : Pl (.bool b)
  | non : Pl .none
  | str : Pl (.str (Str.ofString ""))
  | tup {ds : List PyData} (a : ∀ d ∈ ds, Pl d) : Pl (.tuple ds)
  | lst {ds : List PyData} (a : ∀ d ∈ ds, Pl d) : Pl (.list ds)
/-- tuples of whole numbers -/
inductive NTu : PyData → Prop
  | int (i : Int) : NTu (.int i)
  | tup {ds : List PyData} (a : ∀ d ∈ ds, NTu d) : NTu (.tuple ds)
/-- how it begins -/
theorem pl_head {d : PyData} (h : Pl d) : ∃ c t, cp d = c :: t ∧ c ≠ 41 ∧ c ≠ 44 ∧ ((∃ i, d = .int i) ∨ ¬ Num c) ∧ ((∃ ds, d = .tuple ds) ∨ c ≠ 40) := by
  cases h with
  | int i =>
    cases e : cp (.int i) with
    | nil => exact absurd e (cp_ne i)
    | cons c t =>
      have n := cp_num i c (by rw [e]; exact List.mem_cons_self ..)
      unfold Num at n
      exact ⟨c, t, rfl, by omega, by omega, .inl ⟨i, rfl⟩, .inr (by omega)⟩
  | bl b =>
    cases b
    · exact ⟨70, [97, 108, 115, 101], by decide +kernel, by decide, by decide, .inr (by unfold Num; decide), .inr (by decide)⟩
    · exact ⟨84, [114, 117, 101], by decide +kernel, by decide, by decide, .inr (by unfold Num; decide), .inr (by decide)⟩
  | non => exact ⟨78, [111, 110, 101], by decide +kernel, by decide, by decide, .inr (by unfold Num; decide), .inr (by decide)⟩
  | str => exact ⟨39, [39], by decide +kernel, by decide, by decide, .inr (by unfold Num; decide), .inr (by decide)⟩
  | @tup ds a => exact ⟨40, tlT ds, cp_tup ds, by decide, by decide, .inr (by unfold Num; decide), .inl ⟨ds, rfl⟩⟩
  | @lst ds a =>
    obtain ⟨t, e⟩ := cp_lst ds
    exact ⟨91, t, e, by decide, by decide, .inr (by unfold Num; decide), .inr (by decide)⟩
theorem more_stop : ∀ (r : List PyData) (s : List Nat), Stop (moreT r ++ s)
  | [], s => .inr ⟨s, .inr rfl⟩
  | d :: r, s => .inr ⟨_, .inl rfl⟩
abbrev InjAt (e : PyData) : Prop := ∀ d, Pl d → ∀ s s', Stop s → Stop s' → cp d ++ s = cp e ++ s' → d = e ∧ s = s'
theorem more_inj : ∀ {es : List PyData}, (∀ e ∈ es, InjAt e) → ∀ {ds : List PyData}, (∀ d ∈ ds, Pl d) → ∀ {s s' : List Nat}, Stop s → Stop s' → moreT ds ++ s = moreT es ++ s' → ds = es ∧ s = s'
  | [], _, [], _, s, s', _, _, h => by
    have h : 41 :: s = 41 :: s' := h
    injection h with _ h
    exact ⟨rfl, h⟩
  | [], _, d :: ds, _, s, s', _, _, h => by
    have h : 44 :: (32 :: (cp d ++ moreT ds) ++ s) = 41 :: s' := h
    injection h with h _
    cases h
  | e :: es, _, [], _, s, s', _, _, h => by
    have h : 41 :: s = 44 :: (32 :: (cp e ++ moreT es) ++ s') := h
    injection h with h _
    cases h
  | e :: es, he, d :: ds, hd, s, s', hs, hs', h => by
    have h : 44 :: 32 :: ((cp d ++ moreT ds) ++ s) = 44 :: 32 :: ((cp e ++ moreT es) ++ s') := h
    injection h with _ h
    injection h with _ h
    rw [List.append_assoc, List.append_assoc] at h
    obtain ⟨e1, h2⟩ := he e (List.mem_cons_self ..) d (hd d (List.mem_cons_self ..)) _ _ (more_stop ds s) (more_stop es s') h
    obtain ⟨e2, e3⟩ := more_inj (fun e h => he e (List.mem_cons_of_mem _ h)) (fun d h => hd d (List.mem_cons_of_mem _ h)) hs hs' h2
    exact ⟨by rw [e1, e2], e3⟩
theorem tl_inj {es : List PyData} (he : ∀ e ∈ es, InjAt e) (pe : ∀ e ∈ es, Pl e) {ds : List PyData} (hd : ∀ d ∈ ds, Pl d) {s s' : List Nat} (hs : Stop s) (hs' : Stop s') (h : tlT ds ++ s = tlT es ++ s') : ds = es ∧ s = s' := by
  match es, ds with
  | [], [] =>
    have h : 41 :: s = 41 :: s' := h
    injection h with _ h
    exact ⟨rfl, h⟩
  | [], d :: ds =>
    obtain ⟨c, t, ec, n1, _⟩ := pl_head (hd d (List.mem_cons_self ..))
    cases ds with
    | nil =>
      have h : (cp d ++ [44, 41]) ++ s = 41 :: s' := h
      rw [ec] at h
      injection h with h _
      exact absurd h n1
    | cons b r =>
      have h : (cp d ++ moreT (b :: r)) ++ s = 41 :: s' := h
      rw [ec] at h
      injection h with h _
      exact absurd h n1
  | e :: es, [] =>
    obtain ⟨c, t, ec, n1, _⟩ := pl_head (pe e (List.mem_cons_self ..))
    cases es with
    | nil =>
      have h : 41 :: s = (cp e ++ [44, 41]) ++ s' := h
      rw [ec] at h
      injection h with h _
      exact absurd h.symm n1
    | cons b r =>
      have h : 41 :: s = (cp e ++ moreT (b :: r)) ++ s' := h
      rw [ec] at h
      injection h with h _
      exact absurd h.symm n1
  | [e], [d] =>
    have h : (cp d ++ [44, 41]) ++ s = (cp e ++ [44, 41]) ++ s' := h
    rw [List.append_assoc, List.append_assoc] at h
    obtain ⟨e1, h2⟩ := he e (List.mem_cons_self ..) d (hd d (List.mem_cons_self ..)) _ _ (.inr ⟨_, .inl rfl⟩) (.inr ⟨_, .inl rfl⟩) h
    have h2 : 44 :: 41 :: s = 44 :: 41 :: s' := h2
    injection h2 with _ h2
    injection h2 with _ h2
    exact ⟨by rw [e1], h2⟩
  | [e], d :: b :: r =>
    have h : (cp d ++ moreT (b :: r)) ++ s = (cp e ++ [44, 41]) ++ s' := h
    rw [List.append_assoc, List.append_assoc] at h
    obtain ⟨e1, h2⟩ := he e (List.mem_cons_self ..) d (hd d (List.mem_cons_self ..)) _ _ (more_stop _ s) (.inr ⟨_, .inl rfl⟩) h
    have h2 : 44 :: 32 :: ((cp b ++ moreT r) ++ s) = 44 :: 41 :: s' := h2
    injection h2 with _ h2
    injection h2 with h2 _
    cases h2
  | e :: b :: r, [d] =>
    have h : (cp d ++ [44, 41]) ++ s = (cp e ++ moreT (b :: r)) ++ s' := h
    rw [List.append_assoc, List.append_assoc] at h
    obtain ⟨e1, h2⟩ := he e (List.mem_cons_self ..) d (hd d (List.mem_cons_self ..)) _ _ (.inr ⟨_, .inl rfl⟩) (more_stop _ s') h
    have h2 : 44 :: 41 :: s = 44 :: 32 :: ((cp b ++ moreT r) ++ s') := h2
    injection h2 with _ h2
    injection h2 with h2 _
    cases h2
  | e :: b :: r, d :: b' :: r' =>
    have h : (cp d ++ moreT (b' :: r')) ++ s = (cp e ++ moreT (b :: r)) ++ s' := h
    rw [List.append_assoc, List.append_assoc] at h
    obtain ⟨e1, h2⟩ := he e (List.mem_cons_self ..) d (hd d (List.mem_cons_self ..)) _ _ (more_stop _ s) (more_stop _ s') h
    obtain ⟨e2, e3⟩ := more_inj (fun e h => he e (List.mem_cons_of_mem _ h)) (fun d h => hd d (List.mem_cons_of_mem _ h)) hs hs' h2
    exact ⟨by rw [e1, e2], e3⟩
theorem NTu.pl {d : PyData} (h : NTu d) : Pl d := by
  induction h with
  | int i => exact .int i
  | tup a ih => exact .tup ih
theorem NTu.inj {e : PyData} (h : NTu e) : InjAt e := by
  induction h with
  | int j =>
    intro d hd s s' hs hs' h
    obtain ⟨c, t, ec, _, _, n, _⟩ := pl_head hd
    rcases n with ⟨i, rfl⟩ | n
    · obtain ⟨e1, e2⟩ := num_split (cp_num i) (cp_num j) hs hs' h
      exact ⟨by rw [cp_int_inj e1], e2⟩
    · cases ej : cp (.int j) with
      | nil => exact absurd ej (cp_ne j)
      | cons c' t' =>
        rw [ec, ej] at h
        injection h with h _
        rw [h] at n
        exact absurd (cp_num j c' (by rw [ej]; exact List.mem_cons_self ..)) n
  | @tup es a ih =>
    intro d hd s s' hs hs' h
    obtain ⟨c, t, ec, _, _, _, n⟩ := pl_head hd
    rw [cp_tup] at h
    rcases n with ⟨ds, rfl⟩ | n
    · rw [cp_tup] at h
      injection h with _ h
      have hd : ∀ d ∈ ds, Pl d := by
        cases hd with
        | tup a => exact a
      obtain ⟨e1, e2⟩ := tl_inj ih (fun e he => (a e he).pl) hd hs hs' h
      exact ⟨by rw [e1], e2⟩
    · rw [ec] at h
      injection h with h _
      exact absurd h n
theorem shown_inj {d e : PyData} (hd : Pl d) (he : NTu e) (h : d.shown = e.shown) : d = e := (he.inj d hd [] [] (.inl rfl) (.inl rfl) (by
  show d.shown.cps.toList ++ [] = e.shown.cps.toList ++ []
  rw [h])).1
theorem shown_dict {e : PyData} (he : NTu e) : (PyData.dict []).shown ≠ e.shown := fun h => by
  have h : (PyData.dict []).shown.cps.toList = cp e := by rw [h]
  obtain ⟨c, t, ec, _, _, n, n2⟩ := pl_head he.pl
  have h0 : (PyData.dict []).shown.cps.toList = [123, 125] := by decide +kernel
  rw [h0, ec] at h
  injection h with h _
  subst h
  cases he with
  | int i => exact absurd (cp_num i 123 (by rw [ec]; exact List.mem_cons_self ..)) (by unfold Num; decide)
  | @tup ds a =>
    rw [cp_tup] at ec
    injection ec with ec _
    cases ec
end Pm

namespace Pm
open PySem PySem.Spec PyProof.Rows L2
def topS (i : Nat) : Stmt := PySem.Challenge.pw_paymill_k47_payments_judged.main.body.getD i (.Pass ⟨0, 0, 0, 0⟩)
/-! ### the store that draws are taken from: a list of great cells, a number, a step, a list of small cells -/
structure StoreIn (H : Hp) (st gl sm : Addr) (gs : List Int) (b s : Int) (ss : List Int) : Prop where
  hst : H st = some (.lst [.ref gl, .int b, .int s, .ref sm])
  hgl : H gl = some (.lst (gs.map V.int))
  hsm : H sm = some (.lst (ss.map V.int))
  ne : gl ≠ sm
  gn : ∀ g ∈ gs, 0 ≤ g
  sn : ∀ c ∈ ss, 0 ≤ c ∧ c < 1000000000000000000
  s0 : 0 < ss.length
  sl : ss.length ≤ 64
  gl_ : gs.length ≤ 63
  b0 : 0 ≤ b
  b1 : b < 2147483648
  t0 : 0 ≤ s
def StoreAt (H : Hp) (st gl : Addr) (n : Nat) : Prop := ∃ sm gs b s ss, StoreIn H st gl sm gs b s ss ∧ s ≤ n
section
variable {H H' : Hp} {st gl sm : Addr} {gs ss : List Int} {b s : Int} {n : Nat}
theorem StoreIn.same (e : Same H H') (h : StoreIn H st gl sm gs b s ss) : StoreIn H' st gl sm gs b s ss := { h with hst := e _ _ h.hst, hgl := e _ _ h.hgl, hsm := e _ _ h.hsm }
theorem StoreAt.same (e : Same H H') (h : StoreAt H st gl n) : StoreAt H' st gl n := by
  obtain ⟨sm, gs, b, s, ss, h, l⟩ := h
  exact ⟨sm, gs, b, s, ss, h.same e, l⟩
theorem StoreAt.from (h : StoreAt H st gl n) (e : Same H H') : StoreAt H' st gl n := h.same e
theorem StoreAt.mono {m : Nat} (h : StoreAt H st gl n) (e : n ≤ m) : StoreAt H st gl m := by
  obtain ⟨sm, gs, b, s, ss, h, l⟩ := h
  exact ⟨sm, gs, b, s, ss, h, by omega⟩
theorem lst_ne {p q : Addr} {x : V} {xs : List V} {ns : List Int} (h1 : H p = some (.lst (.ref q :: xs))) {r : Addr} (h2 : H r = some (.lst (ns.map V.int))) : p ≠ r := ne_of h1 h2 fun e => by
  cases ns with
  | nil => cases e
  | cons a l => injection e with e; injection e with e1 e2; cases e1
theorem StoreIn.st_gl (h : StoreIn H st gl sm gs b s ss) : st ≠ gl := lst_ne (x := .non) h.hst h.hgl
theorem StoreIn.st_sm (h : StoreIn H st gl sm gs b s ss) : st ≠ sm := lst_ne (x := .non) h.hst h.hsm
theorem StoreAt.get1 (h : StoreAt H st gl n) : ∃ o, H st = some o := let ⟨_, _, _, _, _, h, _⟩ := h; ⟨_, h.hst⟩
theorem StoreAt.get2 (h : StoreAt H st gl n) : ∃ o, H gl = some o := let ⟨_, _, _, _, _, h, _⟩ := h; ⟨_, h.hgl⟩
theorem st_ne1 {p : Addr} (h : New H p) (S : StoreAt H st gl n) : p ≠ st := let ⟨_, z⟩ := S.get1; new_ne h z
theorem st_ne2 {p : Addr} (h : New H p) (S : StoreAt H st gl n) : p ≠ gl := let ⟨_, z⟩ := S.get2; new_ne h z
end
/-- a draw: a number from 0 on, below many -/
def spDraw : Sp := fun vs H Q _ => ∃ (st gl : Addr) (n : Nat) (m : Int), vs = [.ref st, .int m] ∧ StoreAt H st gl n ∧ 1 ≤ m ∧ m.natAbs < 2 ^ 200 ∧ n ≤ 100000000 ∧ ∀ (d : Int) H', 0 ≤ d → d < m → StoreAt H' st gl (n + 100) → Fx st gl H H' → Q (.int d) H'
theorem c_draw {st gl : Addr} {n : Nat} {m : Int} {H : Hp} {Q : VK} {E : XK} (S : StoreAt H st gl n) (hm : 1 ≤ m) (hm2 : m.natAbs < 2 ^ 200) (hn : n ≤ 100000000) (h : ∀ (d : Int) H', 0 ≤ d → d < m → StoreAt H' st gl (n + 100) → Fx st gl H H' → Q (.int d) H') : spDraw ([.ref st, .int m] ++ []) H Q E := ⟨st, gl, n, m, rfl, S, hm, hm2, hn, h⟩
/-- the same of few numbers -/
def spDraw1 : Sp := fun vs H Q _ => ∃ (st gl : Addr) (n : Nat) (m : Int), vs = [.ref st, .int m] ∧ StoreAt H st gl n ∧ 1 ≤ m ∧ m ≤ 1000000 ∧ n ≤ 200000000 ∧ ∀ (d : Int) H', 0 ≤ d → d < m → StoreAt H' st gl (n + 1) → Fx st gl H H' → Q (.int d) H'
theorem c_draw1 {st gl : Addr} {n : Nat} {m : Int} {H : Hp} {Q : VK} {E : XK} (S : StoreAt H st gl n) (hm : 1 ≤ m) (hm2 : m ≤ 1000000) (hn : n ≤ 200000000) (h : ∀ (d : Int) H', 0 ≤ d → d < m → StoreAt H' st gl (n + 1) → Fx st gl H H' → Q (.int d) H') : spDraw1 ([.ref st, .int m] ++ []) H Q E := ⟨st, gl, n, m, rfl, S, hm, hm2, hn, h⟩
/-- the store made of the script -/
def spStore (K : PySem.W.Frag) : Sp := fun vs H Q _ => ∃ (a : Addr) (ns : List Int), vs = [.ref a] ∧ SqL K H a (ns.map V.int) ∧ ns.length ≤ 63 ∧ ∀ st gl H', Same H H' → New H st → StoreAt H' st gl 0 → Q (.ref st) H'
theorem c_store {K : PySem.W.Frag} {a : Addr} {ns : List Int} {H : Hp} {Q : VK} {E : XK} (h1 : SqL K H a (ns.map V.int)) (h2 : ns.length ≤ 63) (h : ∀ st gl H', Same H H' → New H st → StoreAt H' st gl 0 → Q (.ref st) H') : spStore K ([.ref a] ++ []) H Q E := ⟨a, ns, rfl, h1, h2, h⟩
theorem store_back {H H' : Hp} {st gl : Addr} {m n : Nat} (h : StoreAt H' st gl (m + n)) {k : Nat} (e : m + n = k) : StoreAt H' st gl k := e ▸ h
theorem cut_more {a b : Int} (h : 0 < b) (ha : 0 ≤ a) : 0 ≤ a.fdiv b := by
  rw [Int.fdiv_eq_ediv_of_nonneg a (by omega)]
  exact Int.ediv_nonneg ha (by omega)
theorem lg_of {m : Int} {n : Nat} (h : m.natAbs < 2 ^ n) (h0 : 0 < n) (h9 : n ≤ 9000) : m.natAbs.log2 < 9000 := Nat.lt_of_lt_of_le (PySem.Flt.log2_lt_of h0 h) h9
/-! ### parts: what stands for one, the promises of the program's and the law's reckoning -/
/-- the part q stands at p -/
structure PartAt (K : PySem.W.Frag) (H : Hp) (p : Addr) (q : Rat) : Prop where
  tp : Tp K H p [.int q.num, .int (q.den : Int)]
theorem PartAt.tpe {K : PySem.W.Frag} {H : Hp} {p : Addr} {q : Rat} {xs : List V} (h : PartAt K H p q) (e : [.int q.num, .int (q.den : Int)] = xs) : Tp K H p xs := e ▸ h.tp
theorem PartAt.mono {K : PySem.W.Frag} {H H' : Hp} {p : Addr} {q : Rat} (e : Same H H') (h : PartAt K H p q) : PartAt K H' p q := ⟨Tp.mono e h.tp⟩
theorem PartAt.fx {K : PySem.W.Frag} {H H' : Hp} {m n p : Addr} {q : Rat} (e : Fx m n H H') (h : PartAt K H p q) : PartAt K H' p q := ⟨Tp.fx e h.tp⟩
theorem PartAt.tm {K : PySem.W.Frag} {H H' : Hp} {p : Addr} {q : Rat} (h : PartAt K H p q) (e : Tm H H') : PartAt K H' p q := ⟨h.tp.tm e⟩
def spDiv : Sp := fun vs H Q _ => ∃ a b : Int, vs = [.int a, .int b] ∧ Q (.int (Int.gcd a b)) H
theorem c_div {a b : Int} {H : Hp} {Q : VK} {E : XK} (h : Q (.int (Int.gcd a b)) H) : spDiv ([.int a, .int b] ++ []) H Q E := ⟨a, b, rfl, h⟩
/-- part, made of two numbers -/
def spPart (K : PySem.W.Frag) : Sp := fun vs H Q _ => ∃ a b : Int, vs = [.int a, .int b] ∧ b ≠ 0 ∧ b.natAbs < 2 ^ 8999 ∧ a.natAbs < 2 ^ 400000 ∧ ∀ p H', Same H H' → PartAt K H' p (Rat.divInt a b) → Q (.ref p) H'
theorem c_part {K : PySem.W.Frag} {a b : Int} {H : Hp} {Q : VK} {E : XK} (h0 : b ≠ 0) (h1 : b.natAbs < 2 ^ 8999) (h2 : a.natAbs < 2 ^ 400000) (h : ∀ p H', Same H H' → PartAt K H' p (Rat.divInt a b) → Q (.ref p) H') : spPart K ([.int a, .int b] ++ []) H Q E := ⟨a, b, rfl, h0, h1, h2, h⟩
/-- a function of two parts that tells a part -/
def spPP (K : PySem.W.Frag) (C : Rat → Rat → Prop) (f : Rat → Rat → Rat) : Sp := fun vs H Q _ => ∃ (p q : Addr) (x y : Rat), vs = [.ref p, .ref q] ∧ PartAt K H p x ∧ PartAt K H q y ∧ Bd 4000 x ∧ Bd 4000 y ∧ C x y ∧ ∀ r H', Same H H' → PartAt K H' r (f x y) → Q (.ref r) H'
theorem c_PP {K : PySem.W.Frag} {C : Rat → Rat → Prop} {f : Rat → Rat → Rat} {p q : Addr} {x y : Rat} {H : Hp} {Q : VK} {E : XK} (h1 : PartAt K H p x) (h2 : PartAt K H q y) (b1 : Bd 4000 x) (b2 : Bd 4000 y) (c : C x y) (h : ∀ r H', Same H H' → PartAt K H' r (f x y) → Q (.ref r) H') :
    spPP K C f ([.ref p, .ref q] ++ []) H Q E := ⟨p, q, x, y, rfl, h1, h2, b1, b2, c, h⟩
def spLess (K : PySem.W.Frag) : Sp := fun vs H Q _ => ∃ (p q : Addr) (x y : Rat), vs = [.ref p, .ref q] ∧ PartAt K H p x ∧ PartAt K H q y ∧ Bd 4000 x ∧ Bd 4000 y ∧ Q (.bl (decide (x < y))) H
theorem c_less {K : PySem.W.Frag} {p q : Addr} {x y : Rat} {H : Hp} {Q : VK} {E : XK} (h1 : PartAt K H p x) (h2 : PartAt K H q y) (b1 : Bd 4000 x) (b2 : Bd 4000 y) (h : Q (.bl (decide (x < y))) H) : spLess K ([.ref p, .ref q] ++ []) H Q E := ⟨p, q, x, y, rfl, h1, h2, b1, b2, h⟩
abbrev CT : Rat → Rat → Prop := fun _ _ => True
theorem lg9 {b : Int} (h : b.natAbs < 2 ^ 8999) : b.natAbs.log2 < 9000 := Nat.lt_of_lt_of_le (PySem.Flt.log2_lt_of (by decide) h) (by decide)
theorem mulBd {i j : Int} (hx : i.natAbs < 2 ^ 4000) (hy : j.natAbs < 2 ^ 4000) : CMulW i j := wide_mul hx hy (by decide) (by decide) (by decide)
/-- a part that the module holds -/
structure PartK (K : PySem.W.Frag) (p : Addr) (q : Rat) : Prop where
  tp : TpK K p [.int q.num, .int (q.den : Int)]
theorem PartK.pt {K : PySem.W.Frag} {H : Hp} {p : Addr} {q : Rat} (h : PartK K p q) : PartAt K H p q := ⟨h.tp.tp⟩
theorem PartK.of {K : PySem.W.Frag} {p : Addr} {q : Rat} (h : TpK K p [.int q.num, .int (q.den : Int)]) : PartK K p q := ⟨h⟩
theorem dp_PA {K : PySem.W.Frag} {H : Hp} {p : Addr} {q : Rat} (h : PartAt K H p q) : Dp K H (.ref p) (dP q) := dp_P h.tp
theorem i_eqP {K : PySem.W.Frag} {H : Hp} {Q : VK} {p q : Addr} {x y : Rat} (h1 : PartAt K H p x) (h2 : PartAt K H q y) (h : Q (.bl (decide (x = y))) H) : rEqU K (.ref p) (.ref q) H Q :=
  i_eqD (dp_PA h1) (dp_PA h2) (Sh.shaped (sh_P (n := 0) x) (by decide)) (Sh.shaped (sh_P (n := 0) y) (by decide)) (by rw [eqv_P]; exact h)
theorem i_neP {K : PySem.W.Frag} {H : Hp} {Q : VK} {p q : Addr} {x y : Rat} (h1 : PartAt K H p x) (h2 : PartAt K H q y) (h : Q (.bl (!decide (x = y))) H) : rNeU K (.ref p) (.ref q) H Q :=
  i_neD (dp_PA h1) (dp_PA h2) (Sh.shaped (sh_P (n := 0) x) (by decide)) (Sh.shaped (sh_P (n := 0) y) (by decide)) (by rw [eqv_P]; exact h)
theorem lt_add2 {a b : Int} {n : Nat} (ha : a.natAbs < 2 ^ n) (hb : b.natAbs < 2 ^ n) : (a + b).natAbs < 2 ^ (n + 1) := by
  have e : (2 : Nat) ^ (n + 1) = 2 ^ n * 2 := Nat.pow_succ ..
  omega
theorem lt_sub2 {a b : Int} {n : Nat} (ha : a.natAbs < 2 ^ n) (hb : b.natAbs < 2 ^ n) : (a - b).natAbs < 2 ^ (n + 1) := by
  have e : (2 : Nat) ^ (n + 1) = 2 ^ n * 2 := Nat.pow_succ ..
  omega
theorem mul_ne {a b : Int} (ha : a ≠ 0) (hb : b ≠ 0) : a * b ≠ 0 := Int.mul_ne_zero ha hb
/-- a small part, drawn -/
def spSmall (K : PySem.W.Frag) : Sp := fun vs H Q _ => ∃ (st gl : Addr) (n : Nat), vs = [.ref st] ∧ StoreAt H st gl n ∧ n ≤ 50000000 ∧ ∀ (q : Rat) (p : Addr) H', Bd 22 q → PartAt K H' p q → StoreAt H' st gl (n + 800) → Fx st gl H H' → Q (.ref p) H'
theorem c_small {K : PySem.W.Frag} {st gl : Addr} {n : Nat} {H : Hp} {Q : VK} {E : XK} (S : StoreAt H st gl n) (hn : n ≤ 50000000) (h : ∀ (q : Rat) (p : Addr) H', Bd 22 q → PartAt K H' p q → StoreAt H' st gl (n + 800) → Fx st gl H H' → Q (.ref p) H') : spSmall K ([.ref st] ++ []) H Q E := ⟨st, gl, n, rfl, S, hn, h⟩
/-! ### things: what is_whole, is_part, is_amount are asked of -/
/-- no tuple, of a known kind -/
inductive NT (K : PySem.W.Frag) (H : Hp) : V → Prop
  | int (i : Int) : NT K H (.int i)
  | bl (b : Bool) : NT K H (.bl b)
  | non : NT K H .non
  | str (z : Str) : NT K H (.str z)
  | lst {p : Addr} {xs : List V} (h : SqL K H p xs) : NT K H (.ref p)
  | dct {p : Addr} {kvs : List (Key × V)} (h : H p = some (.dK kvs)) : NT K H (.ref p)
/-- of a known kind -/
inductive Known (K : PySem.W.Frag) (H : Hp) : V → Prop
  | nt {v : V} (h : NT K H v) : Known K H v
  | tup {p : Addr} {xs : List V} (h : Tp K H p xs) : Known K H (.ref p)
def isW : V → Bool
  | .int _ => true
  | _ => false
section
variable {K : PySem.W.Frag} {H H' : Hp} {v : V} {p : Addr} {xs : List V}
theorem ty_list (h : SqL K H p xs) : TyX K H (.ref p) (.type "list") := by
  rcases h with (h | ⟨o, h⟩) | ⟨o, its, n, h, c, _⟩
  · exact .base (.lst h)
  · exact .base (.frz h)
  · exact .kList h c
theorem ty_tup (h : Tp K H p xs) : TyX K H (.ref p) (.type "tuple") := by
  rcases h with h | ⟨o, its, n, h, c, _⟩
  · exact .base (.tup h)
  · exact .kTuple h c
theorem NT.ty (h : NT K H v) : ∃ t b c, TyX K H v (.type t) ∧ kitB t "int" = some b ∧ kitB t "bool" = some c ∧ (b && !c) = isW v ∧ kitB t "tuple" = some false := by
  cases h with
  | int i => exact ⟨"int", true, false, .base (.int i), kb_int_int, kb_int_bool, rfl, kb_int_tuple⟩
  | bl b => exact ⟨"bool", true, true, .base (.bl b), kb_bool_int, kb_bool_bool, rfl, kb_bool_tuple⟩
  | non => exact ⟨"NoneType", false, false, .base .non, kb_NoneType_int, kb_NoneType_bool, rfl, kb_NoneType_tuple⟩
  | str z => exact ⟨"str", false, false, .base (.str z), kb_str_int, kb_str_bool, rfl, kb_str_tuple⟩
  | lst h => exact ⟨"list", false, false, ty_list h, kb_list_int, kb_list_bool, rfl, kb_list_tuple⟩
  | dct h => exact ⟨"dict", false, false, .base (.dK h), kb_dict_int, kb_dict_bool, rfl, kb_dict_tuple⟩
theorem Known.ty (h : Known K H v) : ∃ t b c, TyX K H v (.type t) ∧ kitB t "int" = some b ∧ kitB t "bool" = some c ∧ (b && !c) = isW v := by
  cases h with
  | nt h =>
    obtain ⟨t, b, c, h1, h2, h3, h4, _⟩ := h.ty
    exact ⟨t, b, c, h1, h2, h3, h4⟩
  | tup h => exact ⟨"tuple", false, false, ty_tup h, kb_tuple_int, kb_tuple_bool, rfl⟩
theorem NT.same (e : Same H H') (h : NT K H v) : NT K H' v := by
  cases h with
  | int i => exact .int i
  | bl b => exact .bl b
  | non => exact .non
  | str z => exact .str z
  | lst h => exact .lst (b_L e h)
  | dct h => exact .dct (e _ _ h)
theorem Known.same (e : Same H H') (h : Known K H v) : Known K H' v := by
  cases h with
  | nt h => exact .nt (h.same e)
  | tup h => exact .tup (Tp.mono e h)
theorem isW_int (h : isW v = true) : ∃ i, v = .int i := by
  cases v with
  | int i => exact ⟨i, rfl⟩
  | _ => cases h
end
/-- a thing, whether it is a part, whether that is from nought on -/
inductive Thing (K : PySem.W.Frag) (H : Hp) : V → Bool → Bool → Prop
  | oth {v : V} (h : NT K H v) : Thing K H v false false
  | len {p : Addr} {xs : List V} (h : Tp K H p xs) (hl : xs.length ≠ 2) : Thing K H (.ref p) false false
  | odd {p : Addr} {x y : V} (h : Tp K H p [x, y]) (hx : Known K H x) (hy : Known K H y) (ho : (isW x && isW y) = false) : Thing K H (.ref p) false false
  | two {p : Addr} {a b : Int} (h : Tp K H p [.int a, .int b]) (ha : a.natAbs < 2 ^ 4000) (hb : b.natAbs < 2 ^ 4000) : Thing K H (.ref p) (decide (0 < b) && decide (Int.gcd a b = 1)) ((decide (0 < b) && decide (Int.gcd a b = 1)) && decide (0 ≤ a))
theorem Thing.same {K : PySem.W.Frag} {H H' : Hp} {v : V} {b c : Bool} (e : Same H H') (h : Thing K H v b c) : Thing K H' v b c := by
  cases h with
  | oth h => exact .oth (h.same e)
  | len h hl => exact .len (Tp.mono e h) hl
  | odd h hx hy ho => exact .odd (Tp.mono e h) (hx.same e) (hy.same e) ho
  | two h ha hb => exact .two (Tp.mono e h) ha hb
def spWhole (K : PySem.W.Frag) : Sp := fun vs H Q _ => ∃ v, vs = [v] ∧ Known K H v ∧ Q (.bl (isW v)) H
theorem c_whole {K : PySem.W.Frag} {v : V} {H : Hp} {Q : VK} {E : XK} (h1 : Known K H v) (h : Q (.bl (isW v)) H) : spWhole K ([v] ++ []) H Q E := ⟨v, rfl, h1, h⟩
theorem c_wholeI {K : PySem.W.Frag} {a : Int} {H : Hp} {Q : VK} {E : XK} (h : Q (.bl true) H) : spWhole K ([.int a] ++ []) H Q E := ⟨_, rfl, .nt (.int a), h⟩
def spIsPart (K : PySem.W.Frag) : Sp := fun vs H Q _ => ∃ v b c, vs = [v] ∧ Thing K H v b c ∧ ∀ H', Same H H' → Q (.bl b) H'
theorem c_isPart {K : PySem.W.Frag} {v : V} {b c : Bool} {H : Hp} {Q : VK} {E : XK} (h1 : Thing K H v b c) (h : ∀ H', Same H H' → Q (.bl b) H') : spIsPart K ([v] ++ []) H Q E := ⟨v, b, c, rfl, h1, h⟩
def spIsAmount (K : PySem.W.Frag) : Sp := fun vs H Q _ => ∃ v b c, vs = [v] ∧ Thing K H v b c ∧ ∀ H', Same H H' → Q (.bl c) H'
theorem c_isAmount {K : PySem.W.Frag} {v : V} {b c : Bool} {H : Hp} {Q : VK} {E : XK} (h1 : Thing K H v b c) (h : ∀ H', Same H H' → Q (.bl c) H') : spIsAmount K ([v] ++ []) H Q E := ⟨v, b, c, rfl, h1, h⟩
theorem low_iff {a b : Int} (hb : 0 < b) : ((Rat.divInt a b).num = a ∧ ((Rat.divInt a b).den : Int) = b) ↔ Int.gcd a b = 1 := by
  have hg := gcd_pos (a := a) (b := b) (by omega)
  rw [num_pos hb, den_pos hb, fdiv_gcd_pos _ _ (by exact_mod_cast hg), fdiv_gcd_pos _ _ (by exact_mod_cast hg)]
  constructor
  · rintro ⟨_, h⟩
    have h2 : b / (Int.gcd a b : Int) * (Int.gcd a b : Int) = b := Int.ediv_mul_cancel (Int.gcd_dvd_right a b)
    rw [h] at h2
    have h3 : b * (Int.gcd a b : Int) = b * 1 := by omega
    have h4 := Int.eq_of_mul_eq_mul_left (by omega) h3
    omega
  · intro h
    rw [h]
    simp
theorem PartAt.thing {K : PySem.W.Frag} {H : Hp} {p : Addr} {x : Rat} (h : PartAt K H p x) (b : Bd 4000 x) : Thing K H (.ref p) true (decide (0 ≤ x.num)) := by
  have e := Thing.two h.tp b.1 b.d
  have g : Int.gcd x.num x.den = 1 := by
    have := x.reduced
    simpa [Int.gcd, Nat.Coprime] using this
  rw [g, decide_eq_true (den_gt x)] at e
  simpa using e
/-- floor, ceiling of a part -/
def spFloor (K : PySem.W.Frag) : Sp := fun vs H Q _ => ∃ (p : Addr) (x : Rat), vs = [.ref p] ∧ PartAt K H p x ∧ Bd 4000 x ∧ Q (.int (x.num.fdiv x.den)) H
theorem c_floor {K : PySem.W.Frag} {p : Addr} {x : Rat} {H : Hp} {Q : VK} {E : XK} (h1 : PartAt K H p x) (b1 : Bd 4000 x) (h : Q (.int (x.num.fdiv x.den)) H) : spFloor K ([.ref p] ++ []) H Q E := ⟨p, x, rfl, h1, b1, h⟩
def spCeil (K : PySem.W.Frag) : Sp := fun vs H Q _ => ∃ (p : Addr) (x : Rat), vs = [.ref p] ∧ PartAt K H p x ∧ Bd 4000 x ∧ Q (.int (0 - (0 - x.num).fdiv x.den)) H
theorem c_ceil {K : PySem.W.Frag} {p : Addr} {x : Rat} {H : Hp} {Q : VK} {E : XK} (h1 : PartAt K H p x) (b1 : Bd 4000 x) (h : Q (.int (0 - (0 - x.num).fdiv x.den)) H) : spCeil K ([.ref p] ++ []) H Q E := ⟨p, x, rfl, h1, b1, h⟩
theorem bd_lg {x : Rat} (h : Bd 4000 x) : ((x.den : Nat) : Int) ≠ 0 ∧ ((x.den : Nat) : Int).natAbs.log2 < 9000 := ⟨den_ne x, lg9 (natAbs_up (Bd.d h) (by decide))⟩
theorem c_floorE {K : PySem.W.Frag} {p : Addr} {x : Rat} {lo : Int} {H : Hp} {Q : VK} {E : XK} (h1 : PartAt K H p x) (b1 : Bd 4000 x) (e : x.num.fdiv x.den = lo) (h : Q (.int lo) H) : spFloor K ([.ref p] ++ []) H Q E := ⟨p, x, rfl, h1, b1, e.symm ▸ h⟩
theorem c_ceilE {K : PySem.W.Frag} {p : Addr} {x : Rat} {lo : Int} {H : Hp} {Q : VK} {E : XK} (h1 : PartAt K H p x) (b1 : Bd 4000 x) (e : 0 - (0 - x.num).fdiv x.den = lo) (h : Q (.int lo) H) : spCeil K ([.ref p] ++ []) H Q E := ⟨p, x, rfl, h1, b1, e.symm ▸ h⟩
/-! ### payments: what is handed about -/
theorem PartAt.td {K : PySem.W.Frag} {H : Hp} {p : Addr} {q : Rat} (h : PartAt K H p q) : TD K H (.ref p) (dP q) := PartTp.td h.tp
theorem TD.part {K : PySem.W.Frag} {H : Hp} {v : V} {q : Rat} (h : TD K H v (dP q)) : ∃ p, v = .ref p ∧ PartAt K H p q := let ⟨p, e, h⟩ := h.partTp; ⟨p, e, ⟨h⟩⟩
theorem TL.part {K : PySem.W.Frag} {H : Hp} {xs : List V} {qs : List Rat} {i : Nat} {v : V} (h : TL K H xs (qs.map dP)) (e : xs[i]? = some v) : ∃ p q, v = .ref p ∧ qs[i]? = some q ∧ PartAt K H p q := by
  obtain ⟨d, h1, h2⟩ := h.get e
  rw [List.getElem?_map] at h1
  obtain ⟨q, h3, rfl⟩ := Option.map_eq_some_iff.mp h1
  obtain ⟨p, rfl, h4⟩ := h2.part
  exact ⟨p, q, rfl, h3, h4⟩
theorem TL.row {K : PySem.W.Frag} {H : Hp} {xs : List V} {rs : List Row} {i : Nat} {v : V} (h : TL K H xs (rs.map dRow)) (e : xs[i]? = some v) : ∃ r, rs[i]? = some r ∧ TD K H v (dRow r) := by
  obtain ⟨d, h1, h2⟩ := h.get e
  rw [List.getElem?_map] at h1
  obtain ⟨r, h3, rfl⟩ := Option.map_eq_some_iff.mp h1
  exact ⟨r, h3, h2⟩
theorem TD.row {K : PySem.W.Frag} {H : Hp} {v : V} {r : Row} (h : TD K H v (dRow r)) : ∃ p a b c, v = .ref p ∧ Tp K H p [.ref a, .ref b, .ref c] ∧ PartAt K H a r.now ∧ PartAt K H b r.inall ∧ PartAt K H c r.debt := by
  obtain ⟨p, xs, rfl, h1, h2⟩ := TD.inv h
  obtain ⟨x, y, z, rfl, h3, h4, h5⟩ := h2.inv3
  obtain ⟨a, rfl, g3⟩ := h3.part
  obtain ⟨b, rfl, g4⟩ := h4.part
  obtain ⟨c, rfl, g5⟩ := h5.part
  exact ⟨p, a, b, c, rfl, h1, g3, g4, g5⟩
theorem row_td {K : PySem.W.Frag} {H : Hp} {p a b c : Addr} {r : Row} (h : Tp K H p [.ref a, .ref b, .ref c]) (h1 : PartAt K H a r.now) (h2 : PartAt K H b r.inall) (h3 : PartAt K H c r.debt) : TD K H (.ref p) (dRow r) := .of h (.cons h1.td (.cons h2.td (.cons h3.td .nil)))
theorem same_fx1 {H H1 H2 : Hp} {p : Addr} (n : New H p) (s : Same H H1) (f : Fx p p H1 H2) : Same H H2 := fun b o h => f.oth b o (s b o h) (fun e => by subst e; rw [show H b = none from n] at h; cases h) (fun e => by subst e; rw [show H b = none from n] at h; cases h)
theorem getD_at {qs : List Rat} {i : Nat} {q : Rat} (h : qs[i]? = some q) : tot qs (i + 1) = q := by simp [tot, List.getD_eq_getElem?_getD, h]
/-- a question of a thing: none that is no part, f of a part -/
def spTh (K : PySem.W.Frag) (f : Rat → Bool) : Sp := fun vs H Q _ => ∃ v, vs = [v] ∧ ((∃ c, Thing K H v false c ∧ ∀ H', Same H H' → Q (.bl false) H') ∨ (∃ p x, v = .ref p ∧ PartAt K H p x ∧ Bd 4000 x ∧ ∀ H', Same H H' → Q (.bl (f x)) H'))
theorem c_thP {K : PySem.W.Frag} {f : Rat → Bool} {p : Addr} {x : Rat} {H : Hp} {Q : VK} {E : XK} (h1 : PartAt K H p x) (b : Bd 4000 x) (h : ∀ H', Same H H' → Q (.bl (f x)) H') : spTh K f ([.ref p] ++ []) H Q E := ⟨_, rfl, .inr ⟨p, x, rfl, h1, b, h⟩⟩
theorem c_thN {K : PySem.W.Frag} {f : Rat → Bool} {v : V} {c : Bool} {H : Hp} {Q : VK} {E : XK} (h1 : Thing K H v false c) (h : ∀ H', Same H H' → Q (.bl false) H') : spTh K f ([v] ++ []) H Q E := ⟨_, rfl, .inl ⟨c, h1, h⟩⟩
abbrev fAbove : Rat → Bool := fun x => decide (0 < x)
abbrev fShare : Rat → Bool := fun x => decide (0 < x) && decide (x ≤ 1)
/-- a share is let pass -/
def spNeed (K : PySem.W.Frag) : Sp := fun vs H Q _ => ∃ (p : Addr) (x : Rat), vs = [.ref p] ∧ PartAt K H p x ∧ Bd 4000 x ∧ 0 < x ∧ x ≤ 1 ∧ ∀ H', Same H H' → Q .non H'
theorem c_need {K : PySem.W.Frag} {p : Addr} {x : Rat} {H : Hp} {Q : VK} {E : XK} (h1 : PartAt K H p x) (b : Bd 4000 x) (x0 : 0 < x) (x1 : x ≤ 1) (h : ∀ H', Same H H' → Q .non H') : spNeed K ([.ref p] ++ []) H Q E := ⟨p, x, rfl, h1, b, x0, x1, h⟩
def spNext (K : PySem.W.Frag) : Sp := fun vs H Q _ => ∃ (pa pt pl px : Addr) (r : Row) (t l x : Rat) (D E B C : Nat), vs = [.ref pa, .ref pt, .ref pl, .ref px] ∧ TD K H (.ref pa) (dRow r) ∧ PartAt K H pt t ∧ PartAt K H pl l ∧ PartAt K H px x ∧ Lim D E ∧ Shr E x ∧ Dv D B t ∧ Dv D B l ∧ RowOk D E B C r ∧ C + 4 * B ≤ 2 ^ 40 ∧
  ∀ v H', Same H H' → TD K H' v (dRow (payNext x r t l)) → Q v H'
theorem c_next {K : PySem.W.Frag} {pa pt pl px : Addr} {r : Row} {t l x : Rat} {D E B C : Nat} {H : Hp} {Q : VK} {E' : XK} (h1 : TD K H (.ref pa) (dRow r)) (h2 : PartAt K H pt t) (h3 : PartAt K H pl l) (h4 : PartAt K H px x) (L : Lim D E) (S : Shr E x) (t1 : Dv D B t) (l1 : Dv D B l) (r1 : RowOk D E B C r) (hc : C + 4 * B ≤ 2 ^ 40)
  (k : ∀ v H', Same H H' → TD K H' v (dRow (payNext x r t l)) → Q v H') : spNext K ([.ref pa, .ref pt, .ref pl, .ref px] ++ []) H Q E' := ⟨pa, pt, pl, px, r, t, l, x, D, E, B, C, rfl, h1, h2, h3, h4, L, S, t1, l1, r1, hc, k⟩
def fl (q : Rat) : Int := q.num.fdiv q.den
def wl (rs : List Row) : Nat → Int
  | 0 => 0
  | i + 1 => fl (rs.getD i ⟨0, 0, 0⟩).inall
def dWh (l : Int) (r : Row) : PyData := .tuple [.int (fl r.inall - l), .int (fl r.inall), dP r.debt]
def whTo (rs : List Row) (i : Nat) : List PyData := (List.range i).map fun j => dWh (wl rs j) (rs.getD j ⟨0, 0, 0⟩)
theorem whTo_succ (rs : List Row) (i : Nat) : whTo rs (i + 1) = whTo rs i ++ [dWh (wl rs i) (rs.getD i ⟨0, 0, 0⟩)] := by
  unfold whTo
  rw [List.range_succ, List.map_append]
  rfl
theorem whTo_len (rs : List Row) (i : Nat) : (whTo rs i).length = i := by simp [whTo]
def spWhP (K : PySem.W.Frag) : Sp := fun vs H Q _ => ∃ (p : Addr) (xs : List V) (rs : List Row), vs = [.ref p] ∧ SqL K H p xs ∧ TL K H xs (rs.map dRow) ∧ rs.length ≤ 122 ∧ (∀ r ∈ rs, Bd 4000 r.inall) ∧
  ∀ a ys H', New H a → Same H H' → H' a = some (.lst ys) → TL K H' ys (whTo rs rs.length) → Q (.ref a) H'
theorem c_whp {K : PySem.W.Frag} {p : Addr} {xs : List V} {rs : List Row} {H : Hp} {Q : VK} {E : XK} (h1 : SqL K H p xs) (h2 : TL K H xs (rs.map dRow)) (hl : rs.length ≤ 122) (b : ∀ r ∈ rs, Bd 4000 r.inall) (k : ∀ a ys H', New H a → Same H H' → H' a = some (.lst ys) → TL K H' ys (whTo rs rs.length) → Q (.ref a) H') : spWhP K ([.ref p] ++ []) H Q E := ⟨p, xs, rs, rfl, h1, h2, hl, b, k⟩
def payOut (x : Rat) (qs : List Rat) (w : Bool) : List PyData := if w = true then whTo (rowsTo x qs qs.length) qs.length else (rowsTo x qs qs.length).map dRow
/-- totals handed as a list (t = false) or a tuple -/
def SqP (K : PySem.W.Frag) (H : Hp) (p : Addr) (t : Bool) (qs : List Rat) : Prop := ∃ xs, (if t = true then Tp K H p xs else SqL K H p xs) ∧ TL K H xs (qs.map dP)
def spPay1 (K : PySem.W.Frag) (t : Bool) : Sp := fun vs H Q _ => ∃ (p px : Addr) (w : Bool) (qs : List Rat) (x : Rat) (D E B : Nat), vs = [.ref p, .ref px, .bl w] ∧ SqP K H p t qs ∧ PartAt K H px x ∧ Lim D E ∧ Shr E x ∧ (∀ q ∈ qs, Dv D B q) ∧ B ≤ 2 ^ 30 ∧ qs.length ≤ 122 ∧
  ∀ r H', Same H H' → TD K H' (.ref r) (.tuple (payOut x qs w)) → Q (.ref r) H'
def spPay (K : PySem.W.Frag) : Sp := fun vs H Q E => ∃ t, spPay1 K t vs H Q E
theorem c_pay {K : PySem.W.Frag} {p px : Addr} {w t : Bool} {qs : List Rat} {x : Rat} {D E B : Nat} {H : Hp} {Q : VK} {E' : XK} (h1 : SqP K H p t qs) (h2 : PartAt K H px x) (L : Lim D E) (S : Shr E x) (hq : ∀ q ∈ qs, Dv D B q) (hB : B ≤ 2 ^ 30) (hl : qs.length ≤ 122)
  (k : ∀ r H', Same H H' → TD K H' (.ref r) (.tuple (payOut x qs w)) → Q (.ref r) H') : spPay K [.ref p, .ref px, .bl w] H Q E' := ⟨t, p, px, w, qs, x, D, E, B, rfl, h1, h2, L, S, hq, hB, hl, k⟩
/-- a small part, drawn; its bottom is at most 1000 -/
def spSmallD (K : PySem.W.Frag) : Sp := fun vs H Q _ => ∃ (st gl : Addr) (n : Nat), vs = [.ref st] ∧ StoreAt H st gl n ∧ n ≤ 50000000 ∧ ∀ (q : Rat) (p : Addr) H', Bd 22 q → q.den ≤ 1000 → PartAt K H' p q → StoreAt H' st gl (n + 800) → Fx st gl H H' → Q (.ref p) H'
theorem c_smallD {K : PySem.W.Frag} {st gl : Addr} {n : Nat} {H : Hp} {Q : VK} {E : XK} (S : StoreAt H st gl n) (hn : n ≤ 50000000) (h : ∀ (q : Rat) (p : Addr) H', Bd 22 q → q.den ≤ 1000 → PartAt K H' p q → StoreAt H' st gl (n + 800) → Fx st gl H H' → Q (.ref p) H') : spSmallD K ([.ref st] ++ []) H Q E := ⟨st, gl, n, rfl, S, hn, h⟩
/-! ### totals, shares, rows, drawn -/
theorem part01 {K : PySem.W.Frag} {H : Hp} {p : Addr} (h : Tp K H p [.int 0, .int 1]) : PartAt K H p 0 := ⟨h⟩
theorem part11 {K : PySem.W.Frag} {H : Hp} {p : Addr} (h : Tp K H p [.int 1, .int 1]) : PartAt K H p 1 := ⟨h⟩
theorem partI {K : PySem.W.Frag} {H : Hp} {p : Addr} {a : Int} (h : Tp K H p [.int a, .int 1]) : PartAt K H p (a : Rat) := ⟨h⟩
theorem partLit {K : PySem.W.Frag} {H : Hp} {p : Addr} {a b : Int} (h : Tp K H p [.int a, .int b]) (hb : 0 < b) (g : Int.gcd a b = 1) : PartAt K H p (Rat.divInt a b) := by
  have e := (low_iff hb).mpr g
  refine ⟨?_⟩
  rw [e.1, e.2]
  exact h
theorem divInt_dv {a b : Int} {B : Nat} (hb : 0 < b) (h1 : -(B : Int) ≤ a) (h2 : a ≤ (B : Int)) : Dv b.natAbs B (Rat.divInt a b) := by
  have c1 : (Rat.divInt a b).den ∣ b.natAbs := den_divInt_dvd (by omega)
  have b0 : (0 : Rat) < (b : Rat) := by exact_mod_cast hb
  have b1 : (1 : Rat) ≤ (b : Rat) := by exact_mod_cast hb
  have a1 : -(B : Rat) ≤ (a : Rat) := by
    have := Rat.intCast_le_intCast.mpr h1
    rwa [Rat.intCast_neg, Rat.intCast_natCast] at this
  have a2 : (a : Rat) ≤ (B : Rat) := by
    have := Rat.intCast_le_intCast.mpr h2
    rwa [Rat.intCast_natCast] at this
  have n0 : (0 : Rat) ≤ (B : Rat) := by exact_mod_cast Nat.zero_le _
  have e : Rat.divInt a b * (b : Rat) = (a : Rat) := by
    rw [Rat.divInt_eq_div]
    exact Rat.div_mul_cancel (by grind)
  refine ⟨c1, ?_, ?_⟩
  all_goals
    generalize Rat.divInt a b = q at *
    generalize (b : Rat) = d at *
    generalize (B : Rat) = N at *
  · rcases (Rat.le_total : -N ≤ q ∨ q ≤ -N) with c | c
    · exact c
    · have := Rat.mul_nonneg (show (0 : Rat) ≤ -N - q by grind) (show (0 : Rat) ≤ d - 1 by grind)
      have := Rat.mul_nonneg n0 (show (0 : Rat) ≤ d - 1 by grind)
      grind
  · rcases (Rat.le_total : q ≤ N ∨ N ≤ q) with c | c
    · exact c
    · have := Rat.mul_nonneg (show (0 : Rat) ≤ q - N by grind) (show (0 : Rat) ≤ d - 1 by grind)
      have := Rat.mul_nonneg n0 (show (0 : Rat) ≤ d - 1 by grind)
      grind
theorem int_dv {a : Int} {B : Nat} (h1 : -(B : Int) ≤ a) (h2 : a ≤ (B : Int)) : Dv 1 B (a : Rat) := by
  refine ⟨Nat.dvd_refl 1, ?_, ?_⟩
  · have := Rat.intCast_le_intCast.mpr h1
    rwa [Rat.intCast_neg, Rat.intCast_natCast] at this
  · have := Rat.intCast_le_intCast.mpr h2
    rwa [Rat.intCast_natCast] at this
theorem share_of {a b : Int} (hb : 0 < b) (h1 : 0 < a) (h2 : a ≤ b) : 0 < Rat.divInt a b ∧ Rat.divInt a b ≤ 1 := by
  have b0 : (0 : Rat) < (b : Rat) := by exact_mod_cast hb
  have a0 : (0 : Rat) < (a : Rat) := by exact_mod_cast h1
  have ab : (a : Rat) ≤ (b : Rat) := by exact_mod_cast h2
  have e : Rat.divInt a b * (b : Rat) = (a : Rat) := by
    rw [Rat.divInt_eq_div]
    exact Rat.div_mul_cancel (by grind)
  generalize Rat.divInt a b = q at *
  generalize (b : Rat) = d at *
  generalize (a : Rat) = c at *
  constructor
  · rcases (Rat.le_total : 0 ≤ q ∨ q ≤ 0) with h | h
    · by_cases z : q = 0
      · subst z
        grind
      · grind
    · have := Rat.mul_nonneg (show (0 : Rat) ≤ -q by grind) (show (0 : Rat) ≤ d by grind)
      grind
  · rcases (Rat.le_total : q ≤ 1 ∨ 1 ≤ q) with h | h
    · exact h
    · by_cases z : q = 1
      · grind
      · have := Rat.mul_pos (show (0 : Rat) < q - 1 by grind) b0
        grind
theorem TL.refs {K : PySem.W.Frag} {H : Hp} {xs : List V} {qs : List Rat} (h : TL K H xs (qs.map dP)) : ∀ v ∈ xs, ∃ a, v = .ref a := by
  intro v hv
  obtain ⟨i, hi, rfl⟩ := List.getElem_of_mem hv
  obtain ⟨p, q, e, _⟩ := h.part (List.getElem?_eq_getElem hi)
  exact ⟨p, e⟩
theorem fx_new1 {H H1 H2 : Hp} {st gl pf : Addr} (n : New H pf) (F : Fx st gl H H1) (f : Fx pf pf H1 H2) : Fx st gl H H2 := by
  refine ⟨fun b o h h1 h2 => ?_, fun b xs h => f.tup _ _ (F.tup _ _ h)⟩
  have z : b ≠ pf := fun e => by subst e; rw [show H b = none from n] at h; cases h
  exact f.oth b o (F.oth b o h h1 h2) z z
theorem new_back {H H1 : Hp} {st gl pf : Addr} (F : Fx st gl H H1) (n : New H1 pf) (n1 : pf ≠ st) (n2 : pf ≠ gl) : New H pf := by
  rcases e : H pf with _ | o
  · exact e
  · have := F.oth _ _ e n1 n2
    rw [show H1 pf = none from n] at this
    cases this
theorem StoreAt.fx1 {H H' : Hp} {st gl pf : Addr} {n : Nat} {ys : List V} (S : StoreAt H st gl n) (h : H pf = some (.lst ys)) (hy : ∀ v ∈ ys, ∃ a, v = .ref a) (n1 : pf ≠ st) (n2 : pf ≠ gl) (f : Fx pf pf H H') : StoreAt H' st gl n := by
  obtain ⟨sm, gs, b, s, ss, S, l⟩ := S
  have n3 : pf ≠ sm := by
    rintro rfl
    have e := S.hsm
    rw [h] at e
    injection e with e
    injection e with e
    cases ss with
    | nil => exact absurd S.s0 (Nat.lt_irrefl _)
    | cons c r =>
      obtain ⟨a, ha⟩ := hy (.int c) (by rw [e]; simp)
      cases ha
  exact ⟨sm, gs, b, s, ss, { S with hst := f.oth _ _ S.hst (Ne.symm n1) (Ne.symm n1), hgl := f.oth _ _ S.hgl (Ne.symm n2) (Ne.symm n2), hsm := f.oth _ _ S.hsm (Ne.symm n3) (Ne.symm n3) }, l⟩
def spShare (K : PySem.W.Frag) : Sp := fun vs H Q _ => ∃ (st gl : Addr) (n : Nat), vs = [.ref st] ∧ StoreAt H st gl n ∧ n ≤ 50000000 ∧ ∀ (x : Rat) (p : Addr) H', x.den ≤ 1000 → 0 < x → x ≤ 1 → PartAt K H' p x → StoreAt H' st gl (n + 500) → Fx st gl H H' → Q (.ref p) H'
theorem c_share {K : PySem.W.Frag} {st gl : Addr} {n : Nat} {H : Hp} {Q : VK} {E : XK} (S : StoreAt H st gl n) (hn : n ≤ 50000000) (h : ∀ (x : Rat) (p : Addr) H', x.den ≤ 1000 → 0 < x → x ≤ 1 → PartAt K H' p x → StoreAt H' st gl (n + 500) → Fx st gl H H' → Q (.ref p) H') : spShare K ([.ref st] ++ []) H Q E := ⟨st, gl, n, rfl, S, hn, h⟩
def spTotals (K : PySem.W.Frag) : Sp := fun vs H Q _ => ∃ (st gl : Addr) (n : Nat) (m : Int), vs = [.ref st, .int m] ∧ StoreAt H st gl n ∧ n ≤ 40000000 ∧ 1 ≤ m ∧ m ≤ 120 ∧ ∀ (p : Addr) (xs : List V) (qs : List Rat) (D : Nat) H', New H p → p ≠ st → p ≠ gl → H' p = some (.lst xs) → TL K H' xs (qs.map dP) → qs.length ≤ 120 → 0 < D → D < 2 ^ 1340 → (∀ q ∈ qs, Dv D (2 ^ 24) q) → StoreAt H' st gl (n + 600000) → Fx st gl H H' → Q (.ref p) H'
theorem c_totals {K : PySem.W.Frag} {st gl : Addr} {n : Nat} {m : Int} {H : Hp} {Q : VK} {E : XK} (S : StoreAt H st gl n) (hn : n ≤ 40000000) (m1 : 1 ≤ m) (m2 : m ≤ 120) (h : ∀ (p : Addr) (xs : List V) (qs : List Rat) (D : Nat) H', New H p → p ≠ st → p ≠ gl → H' p = some (.lst xs) → TL K H' xs (qs.map dP) → qs.length ≤ 120 → 0 < D → D < 2 ^ 1340 → (∀ q ∈ qs, Dv D (2 ^ 24) q) → StoreAt H' st gl (n + 600000) → Fx st gl H H' → Q (.ref p) H') : spTotals K ([.ref st, .int m] ++ []) H Q E := ⟨st, gl, n, m, rfl, S, hn, m1, m2, h⟩
def spRows (K : PySem.W.Frag) : Sp := fun vs H Q _ => ∃ (p px : Addr) (xs : List V) (qs : List Rat) (x : Rat) (D E B : Nat), vs = [.ref p, .ref px] ∧ SqL K H p xs ∧ TL K H xs (qs.map dP) ∧ PartAt K H px x ∧ Lim D E ∧ Shr E x ∧ (∀ q ∈ qs, Dv D B q) ∧ B ≤ 2 ^ 30 ∧ qs.length ≤ 122 ∧
  ∀ r H', Same H H' → TD K H' (.ref r) (dRows (rowsTo x qs qs.length)) → Q (.ref r) H'
theorem c_rows {K : PySem.W.Frag} {p px : Addr} {xs : List V} {qs : List Rat} {x : Rat} {D E B : Nat} {H : Hp} {Q : VK} {E' : XK} (h0 : SqL K H p xs) (h1 : TL K H xs (qs.map dP)) (h2 : PartAt K H px x) (L : Lim D E) (S : Shr E x) (hq : ∀ q ∈ qs, Dv D B q) (hB : B ≤ 2 ^ 30) (hl : qs.length ≤ 122)
  (k : ∀ r H', Same H H' → TD K H' (.ref r) (dRows (rowsTo x qs qs.length)) → Q (.ref r) H') : spRows K ([.ref p, .ref px] ++ []) H Q E' := ⟨p, px, xs, qs, x, D, E, B, rfl, h0, h1, h2, L, S, hq, hB, hl, k⟩
theorem SqP.same {K : PySem.W.Frag} {H H' : Hp} {p : Addr} {t : Bool} {qs : List Rat} (h : SqP K H p t qs) (e : Same H H') : SqP K H' p t qs := by
  obtain ⟨xs, h1, h2⟩ := h
  refine ⟨xs, ?_, h2.tm (Tm.same e)⟩
  cases t
  · exact b_L e (by simpa using h1)
  · exact Tp.mono e (by simpa using h1)
theorem SqP.lst {K : PySem.W.Frag} {H : Hp} {p : Addr} {xs : List V} {qs : List Rat} (h : SqL K H p xs) (r : TL K H xs (qs.map dP)) : SqP K H p false qs := ⟨xs, by simpa using h, r⟩
theorem SqP.tup {K : PySem.W.Frag} {H : Hp} {p : Addr} {xs : List V} {qs : List Rat} (h : Tp K H p xs) (r : TL K H xs (qs.map dP)) : SqP K H p true qs := ⟨xs, by simpa using h, r⟩
theorem SqP.seq {K : PySem.W.Frag} {H : Hp} {p : Addr} {t : Bool} {qs : List Rat} (h : SqP K H p t qs) : ∃ xs, (SqL K H p xs ∨ Tp K H p xs) ∧ TL K H xs (qs.map dP) := by
  obtain ⟨xs, h1, h2⟩ := h
  refine ⟨xs, ?_, h2⟩
  cases t
  · exact .inl (by simpa using h1)
  · exact .inr (by simpa using h1)
theorem i_lstP {K : PySem.W.Frag} {H : Hp} {p : Addr} {t : Bool} {qs : List Rat} {Q : VK} (h : SqP K H p t qs) (k : ∀ a H' xs, New H a → Same H H' → H' a = some (.lst xs) → TL K H' xs (qs.map dP) → Q (.ref a) H') : rLstC K [.ref p] H Q := by
  obtain ⟨xs, h1, h2⟩ := h.seq
  exact i_lstC h1 fun a H' n s e => k a H' xs n s e (h2.tm (Tm.same s))
theorem lim_of {D : Nat} {E : Nat} (d0 : 0 < D) (d1 : D < 2 ^ 1340) (e0 : 0 < E) (e1 : E ≤ 1000) : Lim D E := by
  refine ⟨Nat.mul_pos d0 e0, ?_⟩
  have h : D * E < 2 ^ 1340 * 2 ^ 10 := Nat.mul_lt_mul'' d1 (by omega)
  have h2 : D * E * 2 ^ 40 < 2 ^ 1340 * 2 ^ 10 * 2 ^ 40 := Nat.mul_lt_mul_of_pos_right h (by decide)
  rw [← Nat.pow_add, ← Nat.pow_add] at h2
  exact Nat.lt_of_lt_of_le h2 (Nat.pow_le_pow_right (by decide) (by decide))
theorem shr_of {x : Rat} (x0 : 0 < x) (x1 : x ≤ 1) : Shr x.den x := ⟨Nat.dvd_refl _, x0, x1⟩
theorem shr_one : Shr 1 1 := ⟨Nat.dvd_refl _, by decide, by decide⟩
theorem Sh.up {n m : Nat} {d : PyData} (h : Sh n d) (e : n ≤ m) : Sh m d := ⟨h.cl, Nat.le_trans h.dp e⟩
theorem eqv_nil_list : PyData.eqv (.list []) (.list []) = true := by simp [PyData.eqv, PyData.eqvAll]
theorem eqv_nil_tuple : PyData.eqv (.tuple []) (.tuple []) = true := by simp [PyData.eqv, PyData.eqvAll]
theorem sh_parts (qs : List Rat) : Sh 2 (.list (qs.map dP)) := .lst (.all fun d hd => by
  obtain ⟨q, _, rfl⟩ := List.mem_map.mp hd
  exact sh_P (n := 0) q)
theorem eqv_refl_parts (qs : List Rat) : PyData.eqv (.list (qs.map dP)) (.list (qs.map dP)) = true := eqv_refl_lst fun d hd => by
  obtain ⟨q, _, rfl⟩ := List.mem_map.mp hd
  exact eqv_refl_P q
/-- what the law keeps of the turn ahead -/
structure Eld (K : PySem.W.Frag) (H : Hp) (pd px pr : Addr) (xs : List V) (qs : List Rat) (x : Rat) (D E : Nat) : Prop where
  l : H pd = some (.lst xs)
  tl : TL K H xs (qs.map dP)
  hx : PartAt K H px x
  r : TD K H (.ref pr) (dRows (rowsTo x qs qs.length))
  L : Lim D E
  S : Shr E x
  q : ∀ q ∈ qs, Dv D (2 ^ 24) q
  n : qs.length ≤ 120
def ElderAt (K : PySem.W.Frag) (H : Hp) (st gl e : Addr) : Prop := e ≠ st ∧ e ≠ gl ∧ (H e = some (.lst []) ∨ ∃ pd px pr xs qs x D E, H e = some (.lst [.ref pd, .ref px, .ref pr]) ∧ pd ≠ st ∧ pd ≠ gl ∧ Eld K H pd px pr xs qs x D E)
theorem ElderAt.fx {K : PySem.W.Frag} {H H' : Hp} {st gl e : Addr} (F : Fx st gl H H') (h : ElderAt K H st gl e) : ElderAt K H' st gl e := by
  obtain ⟨e1, e2, h⟩ := h
  refine ⟨e1, e2, ?_⟩
  rcases h with h | ⟨pd, px, pr, xs, qs, x, D, E, h, d1, d2, z⟩
  · exact .inl (F.oth _ _ h e1 e2)
  · exact .inr ⟨pd, px, pr, xs, qs, x, D, E, F.oth _ _ h e1 e2, d1, d2, { z with l := F.oth _ _ z.l d1 d2, tl := z.tl.tm (Tm.fx F), hx := z.hx.tm (Tm.fx F), r := z.r.tm (Tm.fx F) }⟩
theorem fl_le (x : Rat) : ((fl x : Int) : Rat) ≤ x ∧ x < ((fl x : Int) : Rat) + 1 := by
  have d0 : (0 : Rat) < (x.den : Rat) := by exact_mod_cast x.den_pos
  have e := rat_mul_den x
  have h1 : ((fl x : Int) : Rat) * (x.den : Rat) ≤ (x.num : Rat) := by
    have := Rat.intCast_le_intCast.mpr (floor_low x)
    rwa [Rat.intCast_mul, Rat.intCast_natCast] at this
  have h2 : (x.num : Rat) < (((fl x : Int) : Rat) + 1) * (x.den : Rat) := by
    have := Rat.intCast_lt_intCast.mpr (floor_high x)
    rwa [Rat.intCast_mul, Rat.intCast_natCast, Rat.intCast_add, Rat.intCast_one] at this
  rw [← e] at h1 h2
  generalize ((fl x : Int) : Rat) = f at *
  generalize (x.den : Rat) = d at *
  constructor
  · rcases (Rat.le_total : f ≤ x ∨ x ≤ f) with c | c
    · exact c
    · by_cases z : f = x
      · grind
      · have := Rat.mul_pos (show 0 < f - x by grind) d0
        grind
  · rcases (Rat.le_total : f + 1 ≤ x ∨ x ≤ f + 1) with c | c
    · have := Rat.mul_nonneg (show 0 ≤ x - (f + 1) by grind) (show 0 ≤ d by grind)
      grind
    · by_cases z : x = f + 1
      · subst z
        grind
      · grind
theorem fl_mono {x y : Rat} (h : x ≤ y) : fl x ≤ fl y := by
  have h1 := (fl_le x).1
  have h2 := (fl_le y).2
  by_cases c : fl y < fl x
  · have h3 : ((fl y + 1 : Int) : Rat) ≤ ((fl x : Int) : Rat) := Rat.intCast_le_intCast.mpr (by omega)
    rw [Rat.intCast_add, Rat.intCast_one] at h3
    grind
  · omega
theorem payNext_inall (x : Rat) (r : Row) (t l : Rat) : (payNext x r t l).inall = r.inall + (payNext x r t l).now := by
  unfold payNext
  split
  · exact (Rat.add_zero _).symm
  · split <;> rfl
theorem rows_getD {x : Rat} {qs : List Rat} {n i : Nat} (h : i < n) : (rowsTo x qs n).getD i ⟨0, 0, 0⟩ = rowAt x qs (i + 1) := by
  simp [rowsTo, List.getD_eq_getElem?_getD, List.getElem?_map, List.getElem?_range h]
theorem wl_rows {x : Rat} {qs : List Rat} {n : Nat} : ∀ i, i ≤ n → wl (rowsTo x qs n) i = fl (rowAt x qs i).inall
  | 0, _ => show (0 : Int) = fl 0 by decide
  | i + 1, h => by
    show fl ((rowsTo x qs n).getD i ⟨0, 0, 0⟩).inall = _
    rw [rows_getD (by omega)]
theorem wl_mono {D E B : Nat} {x : Rat} {qs : List Rat} (hx : Shr E x) (h : ∀ q ∈ qs, Dv D B q) {i : Nat} (hi : i < qs.length) : wl (rowsTo x qs qs.length) i ≤ wl (rowsTo x qs qs.length) (i + 1) := by
  rw [wl_rows i (by omega), wl_rows (i + 1) (by omega)]
  refine fl_mono ?_
  have e := payNext_inall x (rowAt x qs i) (tot qs (i + 1)) (tot qs i)
  have n0 := (row_ok hx h (i + 1) (by omega)).now0
  have e2 : (rowAt x qs (i + 1)).inall = (rowAt x qs i).inall + (rowAt x qs (i + 1)).now := e
  rw [e2]
  grind
theorem TL.wh {K : PySem.W.Frag} {H : Hp} {xs : List V} {rs : List Row} {n i : Nat} {v : V} (h : TL K H xs (whTo rs n)) (e : xs[i]? = some v) : ∃ p c, v = .ref p ∧ i < n ∧ Tp K H p [.int (wl rs (i + 1) - wl rs i), .int (wl rs (i + 1)), .ref c] := by
  obtain ⟨d, h1, h2⟩ := h.get e
  have hi : i < n := by
    have := (List.getElem?_eq_some_iff.mp h1).1
    rwa [whTo_len] at this
  have e2 : d = dWh (wl rs i) (rs.getD i ⟨0, 0, 0⟩) := by
    simp [whTo, List.getElem?_map, List.getElem?_range hi] at h1
    exact h1.symm
  subst e2
  obtain ⟨p, ys, rfl, hT, r⟩ := TD.inv h2
  obtain ⟨a, b, c, rfl, g1, g2, g3⟩ := r.inv3
  cases g1.inv_int
  cases g2.inv_int
  obtain ⟨c, rfl, _⟩ := g3.part
  exact ⟨p, c, rfl, hi, hT⟩
/-- what is paid, summed -/
def dls (rs : List Row) (i : Nat) : List Int := (List.range i).map fun j => wl rs (j + 1) - wl rs j
theorem dls_succ (rs : List Row) (i : Nat) : dls rs (i + 1) = dls rs i ++ [wl rs (i + 1) - wl rs i] := by
  unfold dls
  rw [List.range_succ, List.map_append]
  rfl
theorem dls_sum (rs : List Row) : ∀ i, (dls rs i).sum = wl rs i
  | 0 => rfl
  | i + 1 => by
    rw [dls_succ, List.sum_append, dls_sum rs i]
    simp
    omega
def wls (rs : List Row) (i : Nat) : List V := (List.range i).map fun j => V.int (wl rs (j + 1))
theorem wls_succ (rs : List Row) (i : Nat) : wls rs (i + 1) = wls rs i ++ [V.int (wl rs (i + 1))] := by
  unfold wls
  rw [List.range_succ, List.map_append]
  rfl
theorem wls_last (rs : List Row) : ∀ i, atI (V.int 0 :: wls rs i) (-1) = some (V.int (wl rs i))
  | 0 => rfl
  | i + 1 => by
    rw [wls_succ, ← List.cons_append]
    exact atI_last _ _
theorem ok_wh {l : Int} {r : Row} (h1 : l.natAbs < 2 ^ 1901) (h2 : (fl r.inall).natAbs < 2 ^ 1901) (h3 : Bd 1900 r.debt) : Ok 2 12100 (dWh l r) :=
  (Ok.tup' (.cons' (Ok.int (i := fl r.inall - l) (natAbs_up (lt_sub2 h2 h1) (by decide))) (.cons' (Ok.int (natAbs_up h2 (by decide))) (.cons' (ok_P (h3.mono (by decide))) .nil')))).mono (by decide) (Nat.le_of_ble_eq_true rfl)
theorem ok_whs {D E B : Nat} {x : Rat} {qs : List Rat} (L : Lim D E) (hx : Shr E x) (h : ∀ q ∈ qs, Dv D B q) (hl : qs.length ≤ 122) (hB : B ≤ 2 ^ 30) : Ok 3 1500000 (.tuple (whTo (rowsTo x qs qs.length) qs.length)) := by
  refine (Ok.tup (n := 2) (m := 12100) (k := 122) (.all fun d hd => ?_) ?_).mono (by decide) (by decide)
  · obtain ⟨j, hj, rfl⟩ := List.mem_map.mp hd
    have hj := List.mem_range.mp hj
    obtain ⟨b1, b2, b3⟩ := rows_bd L hx h hl hB (j + 1) (by omega)
    obtain ⟨_, c2, _⟩ := rows_bd L hx h hl hB j (by omega)
    rw [rows_getD hj]
    refine ok_wh ?_ (natAbs_up (fdiv_small (den_gt _) b2.1) (by decide)) b3
    rw [wl_rows j (by omega)]
    exact natAbs_up (fdiv_small (den_gt _) c2.1) (by decide)
  · rw [whTo_len]
    exact hl
def spDue (K : PySem.W.Frag) : Sp := fun vs H Q _ => ∃ (p : Addr) (rs : List Row), vs = [.ref p] ∧ TD K H (.ref p) (dRows rs) ∧ rs.length ≤ 122 ∧ (∀ r ∈ rs, Bd 4000 r.inall) ∧ ∀ a H', Same H H' → TD K H' (.ref a) (.tuple (whTo rs rs.length)) → Q (.ref a) H'
theorem c_due {K : PySem.W.Frag} {p : Addr} {rs : List Row} {H : Hp} {Q : VK} {E : XK} (h2 : TD K H (.ref p) (dRows rs)) (hl : rs.length ≤ 122) (b : ∀ r ∈ rs, Bd 4000 r.inall) (k : ∀ a H', Same H H' → TD K H' (.ref a) (.tuple (whTo rs rs.length)) → Q (.ref a) H') : spDue K ([.ref p] ++ []) H Q E := ⟨p, rs, rfl, h2, hl, b, k⟩
section
local macro_rules | `(tactic| wtm_at "lkP") => `(tactic| first
  | with_reducible assumption
  | exact PartK.pt (by with_reducible assumption)
  | exact PartAt.tm (by with_reducible assumption) (by wtm_at "tm") | fail)
/-! ### the steps as one word: wtm_at "v1" a step, wtm_at "v" as many as go -/
local macro_rules | `(tactic| wtm_at "tm") => `(tactic| first
  | exact Tm.refl _
  | exact Tm.same (by with_reducible assumption)
  | exact Tm.fx (by with_reducible assumption)
  | (refine Tm.trans ?_ (Tm.same (by with_reducible assumption)); wtm_at "tm")
  | (refine Tm.trans ?_ (Tm.fx (by with_reducible assumption)); wtm_at "tm") | fail)
local macro_rules | `(tactic| wtm_at "lkT1") => `(tactic| first
  | with_reducible assumption
  | exact TpK.tp (by with_reducible assumption)
  | exact TpH.tm (by with_reducible assumption) (by wtm_at "tm")
  | exact Tp.tm (by with_reducible assumption) (by wtm_at "tm")
  | exact Tp.of (by with_reducible assumption) | fail)
local macro_rules | `(tactic| wtm_at "lkT") => `(tactic| first
  | wtm_at "lkT1"
  | exact PartAt.tpe (by wtm_at "lkP") (by rfl)
  | fail)
local macro_rules | `(tactic| wtm_at "lk") => `(tactic| first
  | assumption
  | exact b_get (by assumption) (by wtm_at "lk")
  | exact b_lst (by assumption) (by wtm_at "ne") (by wtm_at "ne") (by wtm_at "lk") | fail)
local macro_rules | `(tactic| wtm_at "lkL") => `(tactic| first
  | assumption
  | exact SqL.of (by wtm_at "lk")
  | exact b_L (by assumption) (by wtm_at "lkL") | fail)
local macro_rules | `(tactic| wtm_at "intL") => `(tactic| first | exact IntL.nil | exact IntL.cons (by wtm_at "intL") | fail)
local macro_rules | `(tactic| wtm_at "ne") => `(tactic| first
  | assumption
  | exact Ne.symm (by assumption)
  | exact new_ne (by assumption) (by wtm_at "lk")
  | exact new_ne' (by assumption) (by wtm_at "lk") | fail)
local macro_rules | `(tactic| wtm_at "sm") => `(tactic| first
  | with_reducible assumption
  | exact Same.refl _
  | (refine Same.trans ?_ (by with_reducible assumption); wtm_at "sm") | fail)
local macro_rules | `(tactic| wtm_at "fx") => `(tactic| first
  | with_reducible assumption
  | exact Fx.same (Same.refl _)
  | exact Fx.same (by with_reducible assumption)
  | (refine Fx.trans ?_ (by with_reducible assumption); wtm_at "fx")
  | (refine Fx.trans ?_ (Fx.same (by with_reducible assumption)); wtm_at "fx") | fail)
local macro_rules | `(tactic| wtm_at "v0") => `(tactic| first
  | with_reducible refine i_seq ?_ | with_reducible refine i_asg ?_ | with_reducible refine i_var rfl ?_ | with_reducible refine i_c ?_ | with_reducible refine i_name ?_
  | with_reducible refine i_op ?_ | with_reducible refine i_ifS ?_ | with_reducible refine i_test ?_ | with_reducible refine i_tB ?_
  | with_reducible refine i_cons ?_ | with_reducible refine i_nil ?_ | with_reducible refine i_call ?_ | with_reducible refine i_callN ?_ | with_reducible refine i_callX ?_ | with_reducible refine i_callNX ?_ | with_reducible refine i_cb ?_
  | with_reducible refine i_tup ?_ | with_reducible refine i_lst ?_ | with_reducible refine i_ret ?_ | with_reducible refine i_retN ?_ | with_reducible refine i_drop ?_
  | with_reducible refine i_next ?_ | with_reducible refine i_par ?_ | with_reducible refine i_par2 ?_ | with_reducible refine i_ifE ?_ | with_reducible refine i_un ?_
  | with_reducible refine i_and ?_ | with_reducible refine i_or ?_ | with_reducible refine i_not ?_ | with_reducible refine i_andV ?_ | with_reducible refine i_orV ?_ | with_reducible refine i_notV ?_
  | with_reducible refine i_notV2 ?_ | with_reducible refine i_bif (A := fun _ => _) ?_ | with_reducible refine i_brk ?_ | with_reducible refine i_ctn ?_
  | with_reducible refine i_abs ?_ | with_reducible refine i_min ?_ | with_reducible refine i_max ?_ | with_reducible refine i_for ?_ | with_reducible refine i_iR1 ?_ | with_reducible refine i_iR2 ?_ | with_reducible refine i_iL ?_ | with_reducible refine i_iT ?_ | with_reducible refine i_wb ?_
  | with_reducible refine i_sl ?_ | with_reducible refine i_no ?_ | with_reducible refine i_so ?_ | with_reducible refine i_exI ?_ | with_reducible refine i_exB ?_ | with_reducible refine i_gcons ?_ | with_reducible refine i_gnil ?_ | with_reducible refine i_bm ?_ | with_reducible refine i_gsub ?_ | with_reducible refine i_lc ?_ | with_reducible refine i_yes ?_ | with_reducible refine i_iE ?_
  | with_reducible refine ite_1 ?_ | with_reducible refine i_pow6 ?_ | with_reducible refine i_pow18 ?_ | with_reducible refine i_pow30 ?_
  | with_reducible refine i_addI ?_ | with_reducible refine i_I0 ?_ | with_reducible refine i_U ?_ | with_reducible refine i_eqI ?_ | with_reducible refine i_neI ?_ | fail)
local macro_rules | `(tactic| wtm_at "v1") => `(tactic| first
  | wtm_at "v0"
  | ((with_reducible show rIx _ _ _ _ _); first | refine i_ixT (by wtm_at "lkT") rfl ?_ | refine i_ixL (by wtm_at "lkL") rfl ?_)
  | ((with_reducible show rLenU _ _ _ _); first | refine i_lenT (by wtm_at "lkT") ?_ | refine i_lenL (by wtm_at "lkL") ?_)
  | (with_reducible refine i_newTH (by first | decide | (simp; done)) ?_; intro _ _ _ _ _)
  | (with_reducible refine i_newL (by first | decide | (simp; done)) ?_; intro _ _ _ _ _) | fail)
local macro_rules | `(tactic| wtm_at "v") => `(tactic| repeat wtm_at "v1")
local macro_rules | `(tactic| wtm_at "vi") => `(tactic| repeat ((fail_if_success (with_reducible show tIfS _ _ _ _ _ _)); wtm_at "v1"))
variable {P : Program} {w : World} {K : PySem.W.Frag} {mg : Str → Option Value} {base : Heap}
abbrev s_law_store : Stmt := topS 26
theorem sc_law_store : FnScope ["script", "blend", "place", "cell", "great", "small"] ["script"] (defScope s_law_store) := ⟨rfl, rfl, rfl, by decide +kernel, rfl, by decide +kernel, by decide +kernel⟩
theorem ok_law_store {f : Addr} {fd : FuncData} (F : FunD K "_law_store" "_law_store" (defArgs s_law_store) (defBody s_law_store) (defScope s_law_store) [] [] f fd) (n_abs : mg "abs" = none) (n_enumerate : mg "enumerate" = none) : FnG P w K mg base CX0 1 f fd ["script"] (spStore K) := by
  refine okG (k := 0) F sc_law_store (fun vs H Q E h => ?_) (fun cdv A hG outer s H vs Q E hr h => ?_)
  · obtain ⟨a, b, rfl, _⟩ := h
    rfl
  · obtain ⟨a, ns, rfl, hS, hl, k⟩ := h
    refine ⟨_, (pss_cons (ps_set (i := 1) sc_law_store.nd rfl (Or.inl rfl) pe_int) (pss_cons (ps_for PassesOwn.never rfl (k_piE K (by rfl) n_enumerate (pa_cons (pe_slice (k_slL K) (pv 0) po_none (po_some pe_int)) pa_nil)) (k_gt K 2 rfl (pgs_cons (pg_name (i := 2) sc_law_store.nd rfl (Or.inl rfl)) (pgs_cons (pg_name (i := 3) sc_law_store.nd rfl (Or.inl rfl)) pgs_nil))) (pss_one (ps_set (i := 1) sc_law_store.nd rfl (Or.inl rfl) (pe_op op_modN (pe_op (k_add K) (pe_op (k_add K) (pe_op op_mulU (pv 1) (pv 1)) (pe_op op_modN (pv 3) pe_int)) (pe_op op_mulU pe_int (pv 2))) pe_int)))) (pss_cons (ps_setLc (i := 4) (own := [("cell", 3)]) rfl sc_law_store.nd rfl rfl (sw_true rfl rfl rfl (by decide +kernel)) (k_piL K (pe_slice (k_slL K) (pv 0) po_none (po_some pe_int))) (blkOk_by (N := ["script", "blend", "place", "cell", "great", "small"]) (sc := defScope s_law_store) (by decide +kernel)) (fun _ _ _ _ _ => (pg_name (i := 3) sc_law_store.nd rfl (Or.inl rfl))) (fun _ _ _ _ _ => (pts_one (pt_cmpR op_ge (pe_callB (call_absU) (by rfl) n_abs bt_abs (pa_cons (pv 3) pa_nil)) (pe_op op_pow pe_int pe_int) (nomark _)))) (fun _ _ _ _ _ => (pe_callB (call_absU) (by rfl) n_abs bt_abs (pa_cons (pv 3) pa_nil)))) (pss_cons (ps_setLc (i := 5) (own := [("cell", 3)]) rfl sc_law_store.nd rfl rfl (sw_true rfl rfl rfl (by decide +kernel)) (k_piL K (pe_slice (k_slL K) (pv 0) po_none (po_some pe_int))) (blkOk_by (N := ["script", "blend", "place", "cell", "great", "small"]) (sc := defScope s_law_store) (by decide +kernel)) (fun _ _ _ _ _ => (pg_name (i := 3) sc_law_store.nd rfl (Or.inl rfl))) (fun _ _ _ _ _ => (pts_one (pt_cmpR op_lt (pe_callB (call_absU) (by rfl) n_abs bt_abs (pa_cons (pv 3) pa_nil)) (pe_op op_pow pe_int pe_int) (nomark _)))) (fun _ _ _ _ _ => (pe_callB (call_absU) (by rfl) n_abs bt_abs (pa_cons (pv 3) pa_nil)))) (pss_one (ps_ret (pe_lst (pa_cons (pv 4) (pa_cons (pv 1) (pa_cons pe_int (pa_cons (pe_op (k_add K) (pv 5) (pe_lst (pa_cons pe_int pa_nil))) pa_nil))))))))))), ?_⟩
    wtm_at "v"
    refine i_slL (by wtm_at "lkL") ?_
    intro p1 H1 n1 s1 h1
    rw [cut63 (by simpa using hl)] at h1
    wtm_at "v"
    refine i_itE (SqL.of h1) ?_
    refine i_forE (xs := ns.map V.int) (fun i σ' H' => Same H1 H' ∧ ∃ (b : Int) (v2 v3 : Option V), σ' = [some (.ref a), some (.int b), v2, v3, none, none] ∧ 0 ≤ b ∧ b < 2147483648) ⟨Same.refl _, 271, none, none, rfl, by decide, by decide⟩ ?_ ?_ ?_
    · rintro i σ' H' _ ⟨sm, _⟩
      wtm_at "lkL"
    · rintro i x σ' H2 T H3 hx ⟨sm, b, v2, v3, rfl, hb0, hb1⟩ nT sT hT
      obtain ⟨c, hc, rfl⟩ : ∃ c, ns[i]? = some c ∧ V.int c = x := by simpa using hx
      have hi : i < ns.length := (List.getElem?_eq_some_iff.mp hc).1
      refine i_gtup (by wtm_at "lkT") rfl ?_
      wtm_at "v"
      have m1 : CMulW b b := wide_mul (a := 32) (b := 32) (by omega) (by omega) (by decide) (by decide) (by decide)
      refine i_mulI m1 ?_
      wtm_at "v"
      refine i_I (by decide) ?_
      wtm_at "v"
      have m2 : CMulW 40009 (i : Int) := wide_mul (a := 32) (b := 32) (by decide) (by omega) (by decide) (by decide) (by decide)
      refine i_mulI m2 ?_
      wtm_at "v"
      refine i_I (by decide) ?_
      wtm_at "v"
      refine ⟨sm.trans sT, _, _, _, rfl, ?_, ?_⟩
      · rw [Int.fmod_eq_emod_of_nonneg _ (by decide)]
        exact Int.emod_nonneg _ (by decide)
      · rw [Int.fmod_eq_emod_of_nonneg _ (by decide)]
        exact Int.lt_trans (Int.emod_lt_of_pos _ (by decide)) (by decide)
    · rintro σ' H2 ⟨sm, b, v2, v3, rfl, hb0, hb1⟩
      wtm_at "v"
      refine i_slL (by wtm_at "lkL") ?_
      intro p3 H3 n3 s3 h3
      rw [cut63 (by simpa using hl)] at h3
      refine i_itL (SqL.of h3) ?_
      refine i_lcL (xs := ns.map V.int) (SqL.of h3) (kept (fun c => (c.natAbs : Int)) (fun c => decide (1000000000000000000 ≤ c)) ns) rfl ?_ ?_
      · intro A i x H4 nA hx hi sA hA
        obtain ⟨c, hc, rfl⟩ : ∃ c, ns[i]? = some c ∧ V.int c = x := by simpa using hx
        have hlen := kept_len (fun c => (c.natAbs : Int)) (fun c => decide (1000000000000000000 ≤ c)) ns i
        wtm_at "v"
        refine ⟨rfl, ?_⟩
        wtm_at "v"
        with_reducible refine ite_d (fun c1 => ?_) (fun c1 => ?_)
        · wtm_at "v"
          exact lc_yes nA hA (kept_yes hc (decide_eq_true c1)) (by omega) sA
        · exact lc_no hA (kept_no hc (decide_eq_false c1)) sA
      intro p4 H4 n4 s4 h4
      wtm_at "v"
      refine i_slL (by wtm_at "lkL") ?_
      intro p5 H5 n5 s5 h5
      rw [cut63 (by simpa using hl)] at h5
      refine i_itL (SqL.of h5) ?_
      refine i_lcL (xs := ns.map V.int) (SqL.of h5) (kept (fun c => (c.natAbs : Int)) (fun c => decide (c < 1000000000000000000)) ns) rfl ?_ ?_
      · intro A i x H4 nA hx hi sA hA
        obtain ⟨c, hc, rfl⟩ : ∃ c, ns[i]? = some c ∧ V.int c = x := by simpa using hx
        have hlen := kept_len (fun c => (c.natAbs : Int)) (fun c => decide (c < 1000000000000000000)) ns i
        wtm_at "v"
        refine ⟨rfl, ?_⟩
        wtm_at "v"
        with_reducible refine ite_d (fun c1 => ?_) (fun c1 => ?_)
        · wtm_at "v"
          exact lc_yes nA hA (kept_yes hc (decide_eq_true c1)) (by omega) sA
        · exact lc_no hA (kept_no hc (decide_eq_false c1)) sA
      intro p6 H6 n6 s6 h6
      wtm_at "v"
      have l4 := kept_len (fun c => (c.natAbs : Int)) (fun c => decide (1000000000000000000 ≤ c)) ns ns.length
      have l6 := kept_len (fun c => (c.natAbs : Int)) (fun c => decide (c < 1000000000000000000)) ns ns.length
      simp only [List.length_map] at h4 h6
      refine i_addL (by wtm_at "lk") (by wtm_at "lk") (by simp; omega) ?_
      intro p8 H8 n8 s8 h8
      wtm_at "v"
      rename_i p9 H9 n9 s9 h9
      refine k p9 p4 _ (by wtm_at "sm") ((by wtm_at "sm" : Same H H8).free n9) ⟨p8, ((ns.take ns.length).map (fun c => (c.natAbs : Int))).filter (fun c => decide (1000000000000000000 ≤ c)), b, 0,
        ((ns.take ns.length).map (fun c => (c.natAbs : Int))).filter (fun c => decide (c < 1000000000000000000)) ++ [17], ?_, by decide⟩
      have l4' : (((ns.take ns.length).map (fun c => (c.natAbs : Int))).filter (fun c => decide (1000000000000000000 ≤ c))).length ≤ ns.length := by simpa [kept] using l4
      have l6' : (((ns.take ns.length).map (fun c => (c.natAbs : Int))).filter (fun c => decide (c < 1000000000000000000))).length ≤ ns.length := by simpa [kept] using l6
      refine { hst := h9, hgl := (by wtm_at "lk" : H9 p4 = some (.lst (kept (fun c => (c.natAbs : Int)) (fun c => decide (1000000000000000000 ≤ c)) ns ns.length))), hsm := ?_, ne := ?_, gn := ?_, sn := ?_, s0 := ?_, sl := ?_, gl_ := ?_, b0 := hb0, b1 := hb1, t0 := by decide }
      · rw [List.map_append]
        exact (by wtm_at "lk" : H9 p8 = some (.lst (kept (fun c => (c.natAbs : Int)) (fun c => decide (c < 1000000000000000000)) ns ns.length ++ [V.int 17])))
      · exact (new_ne n8 (by wtm_at "lk" : _ = some (.lst (kept (fun c => (c.natAbs : Int)) (fun c => decide (1000000000000000000 ≤ c)) ns ns.length)))).symm
      · intro g hg
        obtain ⟨c, _, rfl⟩ := List.mem_map.mp (List.mem_filter.mp hg).1
        omega
      · intro c hc
        rcases List.mem_append.mp hc with hc | hc
        · obtain ⟨h1, h2⟩ := List.mem_filter.mp hc
          obtain ⟨d, _, rfl⟩ := List.mem_map.mp h1
          exact ⟨by omega, of_decide_eq_true h2⟩
        · obtain rfl := List.mem_singleton.mp hc
          exact ⟨by decide, by decide⟩
      · simp
      · simp only [List.length_append, List.length_cons, List.length_nil]
        omega
      · omega
abbrev s_law_draw : Stmt := topS 27
theorem sc_law_draw : FnScope ["store", "many", "digit", "found", "turn", "step", "primes", "cell", "one", "two"] ["store", "many"] (defScope s_law_draw) := ⟨rfl, rfl, rfl, by decide +kernel, rfl, by decide +kernel, by decide +kernel⟩
/-- the first part of a draw: the noughts ahead are thrown away -/
def DrawW (st gl sm : Addr) (b s : Int) (ss : List Int) (H : Hp) (vs : List (Option V)) : Nat → L2.St → Hp → Prop := fun m σ' H' => ∃ gs, StoreIn H' st gl sm gs b s ss ∧ Fx st gl H H' ∧ σ' = vs ∧ m = gs.length
theorem ne_nil {gs : List Int} (h : (!gs.isEmpty) = true) : ∃ g r, gs = g :: r := by
  cases gs with
  | nil => cases h
  | cons g r => exact ⟨g, r, rfl⟩
theorem is_nil {gs : List Int} (h : (!gs.isEmpty) = false) : gs = [] := by
  cases gs with
  | nil => rfl
  | cons g r => cases h
theorem ok_law_draw1 {f : Addr} {fd : FuncData} (F : FunD K "_law_draw" "_law_draw" (defArgs s_law_draw) (defBody s_law_draw) (defScope s_law_draw) [] [] f fd) (n_len : mg "len" = none) (n_str : mg "str" = none) (n_range : mg "range" = none) : FnG P w K mg base CX0 1 f fd ["store", "many"] spDraw1 := by
  refine okG (k := 0) F sc_law_draw (fun vs H Q E h => ?_) (fun cdv A hG outer s H vs Q E hr h => ?_)
  · obtain ⟨a, b, c, d, rfl, _⟩ := h
    rfl
  · obtain ⟨st, gl, n, m, rfl, ⟨sm, gs0, b, sp, ss, S0, hsp⟩, hm, hm2, hn, k⟩ := h
    refine ⟨_, (pss_cons (ps_while PassesOwn.never ((pw_and (pt_cmpR (k_ne K hr) (pe_ix (k_ix K) (pv 0) pe_int (fun _ _ => rfl)) (pe_lst pa_nil) (nomark _)) (pw_and1 (pt_cmpR (k_eq K hr) (pe_ix (k_ix K) (pe_ix (k_ix K) (pv 0) pe_int (fun _ _ => rfl)) pe_int (fun _ _ => rfl)) pe_int (nomark _))))).pt (pss_one (ps_expr (pe_bm PySem.F.plainAttrs_list PySem.F.slot_list_pop PySem.F.type_list_pop (mt_popAt) (pe_ix (k_ix K) (pv 0) pe_int (fun _ _ => rfl)) (pa_cons pe_int pa_nil))))) (pss_cons (ps_if (pt_cmpR (k_ne K hr) (pe_ix (k_ix K) (pv 0) pe_int (fun _ _ => rfl)) (pe_lst pa_nil) (nomark _)) (pss_cons (ps_set (i := 2) sc_law_draw.nd rfl (Or.inl rfl) (pe_op op_modN (pe_ix (k_ix K) (pe_ix (k_ix K) (pv 0) pe_int (fun _ _ => rfl)) pe_int (fun _ _ => rfl)) (pv 1))) (pss_cons (ps_asg (pe_op op_fdivV (pe_ix (k_ix K) (pe_ix (k_ix K) (pv 0) pe_int (fun _ _ => rfl)) pe_int (fun _ _ => rfl)) (pv 1)) (pg_sub (pe_ix (k_ix K) (pv 0) pe_int (fun _ _ => rfl)) pe_int set_list)) (pss_one (ps_ret (pv 2))))) pss_nil) (pss_cons (ps_if (pt_cmpR op_gt (pv 1) (pe_op op_pow pe_int pe_int) (nomark _)) (pss_cons (ps_set (i := 3) sc_law_draw.nd rfl (Or.inl rfl) pe_int) (pss_cons ps_never (pss_one (ps_ret (pe_op op_modN (pv 3) (pv 1)))))) pss_nil) (pss_cons (ps_set (i := 5) sc_law_draw.nd rfl (Or.inl rfl) (pe_op (k_add K) (pe_ix (k_ix K) (pv 0) pe_int (fun _ _ => rfl)) pe_int)) (pss_cons (ps_asg (pv 5) (pg_sub (pv 0) pe_int set_list)) (pss_cons (ps_set (i := 6) sc_law_draw.nd rfl (Or.inl rfl) (pe_lst (pa_cons pe_int (pa_cons pe_int (pa_cons pe_int (pa_cons pe_int (pa_cons pe_int pa_nil))))))) (pss_cons (ps_set (i := 7) sc_law_draw.nd rfl (Or.inl rfl) (pe_ix (k_ix K) (pe_ix (k_ix K) (pv 0) pe_int (fun _ _ => rfl)) (pe_op op_modN (pv 5) (pe_callB (k_len K) (by rfl) n_len bt_len (pa_cons (pe_ix (k_ix K) (pv 0) pe_int (fun _ _ => rfl)) pa_nil))) (fun _ _ => rfl))) (pss_cons (ps_set (i := 8) sc_law_draw.nd rfl (Or.inl rfl) (pe_op op_modN (pe_op op_pow (pe_op (k_add K) (pe_op (k_add K) (pe_op (k_add K) (pe_ix (k_ix K) (pv 0) pe_int (fun _ _ => rfl)) (pv 7)) (pe_op op_mulU pe_int (pv 5))) pe_int) pe_int) (pe_ix (k_ix K) (pv 6) (pe_op op_modN (pv 5) pe_int) (fun _ _ => rfl)))) (pss_cons (ps_set (i := 9) sc_law_draw.nd rfl (Or.inl rfl) (pe_op (k_add K) (pe_op (k_add K) (pe_op op_mulU (pv 8) (pv 8)) (pe_op op_modN (pe_ix (k_ix K) (pv 0) pe_int (fun _ _ => rfl)) pe_int)) (pv 5))) (pss_one (ps_ret (pe_op op_modN (pe_op op_fdivV (pe_op op_modN (pe_op op_pow (pv 9) pe_int) (pe_ix (k_ix K) (pv 6) (pe_op op_modN (pe_op (k_add K) (pv 5) pe_int) pe_int) (fun _ _ => rfl))) pe_int) (pv 1))))))))))))), ?_⟩
    refine i_seq ?_
    refine i_cut (fun σ' H' => ∃ gs, StoreIn H' st gl sm gs b sp ss ∧ Fx st gl H H' ∧ (∀ r, gs ≠ 0 :: r) ∧ σ' = [some (.ref st), some (.int m), none, none, none, none, none, none, none, none]) ?_ ?_
    · intro N hN
      refine i_while (DrawW st gl sm b sp ss H _) _ ⟨gs0, S0, Fx.same (Same.refl _), rfl, rfl⟩ ?_
      rintro m' σ' H1 ⟨gs, S, F1, rfl, rfl⟩
      obtain ⟨hst, hgl, hsm, hne, hgn, hsn, hs0, hsl, hgl2, hb0, hb1, ht0⟩ := id S
      wtm_at "v"
      refine i_neD (.lst (SqL.of (by wtm_at "lk")) (dp_ints gs)) (.lst (SqL.of (by wtm_at "lk")) .nil) ((Sh.lst (ShAll.ints gs) : Sh 1 _).shaped (by decide)) ((Sh.lst .nil : Sh 1 _).shaped (by decide)) ?_
      rw [eqv_ints_nil]
      wtm_at "v"
      refine ite_b (fun c => ?_) (fun c => ?_)
      · obtain ⟨g, r, rfl⟩ := ne_nil c
        wtm_at "v"
        refine i_ixL (SqL.of (by wtm_at "lk")) (atI_nat (j := 0) rfl) ?_
        wtm_at "v"
        with_reducible refine ite_d (fun c2 => ?_) (fun c2 => ?_)
        · wtm_at "v"
          rename_i p2 H2 n2 s2 h2
          have S2 := S.same s2
          refine i_bmL S2.hgl ?_
          wtm_at "v"
          refine i_pop0 S2.hgl ?_
          wtm_at "v"
          refine ⟨r.length, by simp, r, ?_, F1.trans ((Fx.same s2).trans (fx_upd2 S2.hgl)), rfl, rfl⟩
          exact { S2 with hst := by rw [upd_ne S2.st_gl]; exact S2.hst, hgl := upd_same, hsm := by rw [upd_ne (Ne.symm hne)]; exact S2.hsm, gn := fun x hx => hgn x (List.mem_cons_of_mem _ hx), gl_ := by simp at hgl2; omega }
        · rename_i p2 H2 n2 s2 h2
          exact hN _ _ ⟨g :: r, S.same s2, F1.trans (Fx.same s2), (fun r' e => c2 (by injection e)), rfl⟩
      · rename_i p2 H2 n2 s2 h2
        obtain rfl := is_nil c
        exact hN _ _ ⟨[], S.same s2, F1.trans (Fx.same s2), (fun r' e => by cases e), rfl⟩
    rintro σ' H1 ⟨gs, S, F1, hz, rfl⟩
    obtain ⟨hst, hgl, hsm, hne, hgn, hsn, hs0, hsl, hgl2, hb0, hb1, ht0⟩ := id S
    wtm_at "v"
    refine i_neD (.lst (SqL.of (by wtm_at "lk")) (dp_ints gs)) (.lst (SqL.of (by wtm_at "lk")) .nil) ((Sh.lst (ShAll.ints gs) : Sh 1 _).shaped (by decide)) ((Sh.lst .nil : Sh 1 _).shaped (by decide)) ?_
    rw [eqv_ints_nil]
    wtm_at "v"
    rename_i p2 H2 n2 s2 h2
    have S2 := S.same s2
    refine ite_b (fun c => ?_) (fun c => ?_)
    · obtain ⟨g, r, rfl⟩ := ne_nil c
      wtm_at "v"
      refine i_ixL (SqL.of (by wtm_at "lk")) (atI_nat (j := 0) rfl) ?_
      wtm_at "v"
      refine i_mod (by omega) (fun d hd0 hd1 _ => ?_)
      wtm_at "v"
      refine i_ixL (SqL.of (by wtm_at "lk")) (atI_nat (j := 0) rfl) ?_
      wtm_at "v"
      refine i_I ⟨by omega, lg_of (n := 200) (by omega) (by decide) (by decide)⟩ ?_
      wtm_at "v"
      refine i_setL S2.hgl (ixN_at (j := 0) (by simp)) ?_
      wtm_at "v"
      refine k _ _ hd0 hd1 ⟨sm, g.fdiv m :: r, b, sp, ss, ?_, by omega⟩ (F1.trans ((Fx.same s2).trans (fx_upd2 S2.hgl)))
      refine { S2 with hst := by rw [upd_ne S2.st_gl]; exact S2.hst, hgl := upd_same, hsm := by rw [upd_ne (Ne.symm hne)]; exact S2.hsm, gn := fun x hx => ?_, gl_ := by simpa using hgl2 }
      rcases List.mem_cons.mp hx with e | hx
      · rw [e]
        exact cut_more (by omega) (hgn g (List.mem_cons_self ..))
      · exact hgn x (List.mem_cons_of_mem _ hx)
    · obtain rfl := is_nil c
      wtm_at "v"
      with_reducible refine ite_d (fun c2 => absurd c2 (by omega)) (fun c2 => ?_)
      wtm_at "v"
      refine i_setL S2.hst (ixN_at (j := 2) (by simp)) ?_
      have hst3 : (upd H2 st (.lst [.ref gl, .int b, .int (sp + 1), .ref sm])) st = some (.lst [.ref gl, .int b, .int (sp + 1), .ref sm]) := upd_same
      have hgl3 : (upd H2 st (.lst [.ref gl, .int b, .int (sp + 1), .ref sm])) gl = some (.lst (([] : List Int).map V.int)) := by rw [upd_ne (Ne.symm S2.st_gl)]; exact S2.hgl
      have hsm3 : (upd H2 st (.lst [.ref gl, .int b, .int (sp + 1), .ref sm])) sm = some (.lst (ss.map V.int)) := by rw [upd_ne (Ne.symm S2.st_sm)]; exact S2.hsm
      have F3 : Fx st gl H (upd H2 st (.lst [.ref gl, .int b, .int (sp + 1), .ref sm])) := F1.trans ((Fx.same s2).trans (fx_upd S2.hst))
      have S3 : StoreIn (upd H2 st (.lst [.ref gl, .int b, .int (sp + 1), .ref sm])) st gl sm [] b (sp + 1) ss := { S2 with hst := hst3, hgl := hgl3, hsm := hsm3, t0 := by omega }
      have hlist : [V.ref gl, V.int b, V.int sp, V.ref sm].set 2 (V.int (sp + 1)) = [.ref gl, .int b, .int (sp + 1), .ref sm] := rfl
      rw [hlist]
      generalize upd H2 st (.lst [.ref gl, .int b, .int (sp + 1), .ref sm]) = H3 at *
      wtm_at "v"
      rename_i p9 H9 n9 s9 h9
      refine i_mod (by rw [List.length_map]; omega) (fun j hj0 hj1 _ => ?_)
      rw [List.length_map] at hj1
      wtm_at "v"
      refine i_ixN (SqL.of (by wtm_at "lk")) rfl hj0 hj1 (fun cell hcell => ?_)
      obtain ⟨hc0, hc1⟩ := hsn cell hcell
      wtm_at "v"
      have m0 : CMulW 104729 (sp + 1) := wide_mul (a := 64) (b := 64) (by decide) (by omega) (by decide) (by decide) (by decide)
      refine i_mulI m0 ?_
      wtm_at "v"
      refine i_powV ⟨by decide, by decide, by omega⟩ (fun q _ => ?_)
      wtm_at "v"
      refine i_mod (by decide) (fun j1 hj10 hj11 _ => ?_)
      wtm_at "v"
      refine i_ixN (ns := [2147483563, 2147483549, 2147483543, 2147483497, 2147483489]) (SqL.of (by wtm_at "lk")) rfl hj10 hj11 (fun p1 hp1 => ?_)
      have hp1' : 0 < p1 ∧ p1 < 2147483648 := (by decide : ∀ p ∈ [(2147483563 : Int), 2147483549, 2147483543, 2147483497, 2147483489], 0 < p ∧ p < 2147483648) p1 hp1
      refine i_mod hp1'.1 (fun one ho0 ho1 _ => ?_)
      wtm_at "v"
      have m1 : CMulW one one := wide_mul (a := 32) (b := 32) (by omega) (by omega) (by decide) (by decide) (by decide)
      refine i_mulI m1 ?_
      have hoo : one * one ≤ 2147483647 * 2147483647 := Int.mul_le_mul (by omega) (by omega) ho0 (by decide)
      have hoo0 : 0 ≤ one * one := Int.mul_nonneg ho0 ho0
      generalize one * one = oo at *
      wtm_at "v"
      refine i_mod (by decide) (fun e1 he10 he11 _ => ?_)
      wtm_at "v"
      refine i_powV ⟨by decide, by decide, by omega⟩ (fun q5 _ => ?_)
      wtm_at "v"
      refine i_mod (by decide) (fun j2 hj20 hj21 _ => ?_)
      wtm_at "v"
      refine i_ixN (ns := [2147483563, 2147483549, 2147483543, 2147483497, 2147483489]) (SqL.of (by wtm_at "lk")) rfl hj20 hj21 (fun p2 hp2 => ?_)
      have hp2' : 0 < p2 ∧ p2 < 2147483648 := (by decide : ∀ p ∈ [(2147483563 : Int), 2147483549, 2147483543, 2147483497, 2147483489], 0 < p ∧ p < 2147483648) p2 hp2
      refine i_mod hp2'.1 (fun one2 ho20 ho21 _ => ?_)
      wtm_at "v"
      refine i_I ⟨by decide, by decide⟩ ?_
      wtm_at "v"
      refine i_mod (by omega) (fun d hd0 hd1 _ => ?_)
      exact k _ _ hd0 hd1 ⟨sm, [], b, sp + 1, ss, S3.same s9, by omega⟩ (F3.trans (Fx.same s9))
def spDrawB : Sp := fun vs H Q _ => ∃ (st gl : Addr) (n : Nat) (m : Int), vs = [.ref st, .int m] ∧ StoreAt H st gl n ∧ 1000000 < m ∧ m.natAbs < 2 ^ 200 ∧ n ≤ 100000000 ∧ ∀ (d : Int) H', 0 ≤ d → d < m → StoreAt H' st gl (n + 100) → Fx st gl H H' → Q (.int d) H'
theorem found_more {i : Nat} {f d : Int} (h0 : 0 ≤ f) (h1 : f < 2 ^ (20 * i)) (hd : 0 ≤ d) (hd1 : d < 1000000) : 0 ≤ f * 1000000 + d ∧ f * 1000000 + d < 2 ^ (20 * (i + 1)) := by
  have e : (2 : Int) ^ (20 * (i + 1)) = 2 ^ (20 * i) * 1048576 := by
    rw [Nat.mul_add, Int.pow_add]
    rfl
  rw [e]
  omega
theorem ok_law_drawB {f : Addr} {fd : FuncData} (F : FunD K "_law_draw" "_law_draw" (defArgs s_law_draw) (defBody s_law_draw) (defScope s_law_draw) [] [] f fd) (O_law_draw : Own P w K mg base CX0 1 "_law_draw" ["store", "many"] [] spDraw1) (n_len : mg "len" = none) (n_str : mg "str" = none) (n_range : mg "range" = none) : FnG P w K mg base CX0 2 f fd ["store", "many"] spDrawB := by
  refine okG (k := 1) F sc_law_draw (fun vs H Q E h => ?_) (fun cdv A hG outer s H vs Q E hr h => ?_)
  · obtain ⟨a, b, c, d, rfl, _⟩ := h
    rfl
  · obtain ⟨st, gl, n, m, rfl, ⟨sm, gs0, b, sp, ss, S0, hsp⟩, hm, hm2, hn, k⟩ := h
    refine ⟨_, (pss_cons (ps_while PassesOwn.never ((pw_and (pt_cmpR (k_ne K hr) (pe_ix (k_ix K) (pv 0) pe_int (fun _ _ => rfl)) (pe_lst pa_nil) (nomark _)) (pw_and1 (pt_cmpR (k_eq K hr) (pe_ix (k_ix K) (pe_ix (k_ix K) (pv 0) pe_int (fun _ _ => rfl)) pe_int (fun _ _ => rfl)) pe_int (nomark _))))).pt (pss_one (ps_expr (pe_bm PySem.F.plainAttrs_list PySem.F.slot_list_pop PySem.F.type_list_pop (mt_popAt) (pe_ix (k_ix K) (pv 0) pe_int (fun _ _ => rfl)) (pa_cons pe_int pa_nil))))) (pss_cons (ps_if (pt_cmpR (k_ne K hr) (pe_ix (k_ix K) (pv 0) pe_int (fun _ _ => rfl)) (pe_lst pa_nil) (nomark _)) (pss_cons (ps_set (i := 2) sc_law_draw.nd rfl (Or.inl rfl) (pe_op op_modN (pe_ix (k_ix K) (pe_ix (k_ix K) (pv 0) pe_int (fun _ _ => rfl)) pe_int (fun _ _ => rfl)) (pv 1))) (pss_cons (ps_asg (pe_op op_fdivV (pe_ix (k_ix K) (pe_ix (k_ix K) (pv 0) pe_int (fun _ _ => rfl)) pe_int (fun _ _ => rfl)) (pv 1)) (pg_sub (pe_ix (k_ix K) (pv 0) pe_int (fun _ _ => rfl)) pe_int set_list)) (pss_one (ps_ret (pv 2))))) pss_nil) (pss_cons (ps_if (pt_cmpR op_gt (pv 1) (pe_op op_pow pe_int pe_int) (nomark _)) (pss_cons (ps_set (i := 3) sc_law_draw.nd rfl (Or.inl rfl) pe_int) (pss_cons (ps_for PassesOwn.never rfl (pi_range1 (by rfl) n_range (pa_cons (pe_op (k_add K) pe_int (pe_op op_fdivV (pe_callB (call_lenStr) (by rfl) n_len bt_len (pa_cons (pe_callTy (call_strI) (by rfl) n_str bt_str (pa_cons (pv 1) pa_nil)) pa_nil)) pe_int)) pa_nil)) (pg_name (i := 4) sc_law_draw.nd rfl (Or.inl rfl)) (pss_one (ps_set (i := 3) sc_law_draw.nd rfl (Or.inl rfl) (pe_op (k_add K) (pe_op op_mulU (pv 3) (pe_op op_pow pe_int pe_int)) (pe_own O_law_draw hG (hr.mono (by decide)) pass0 (pa_cons (pv 0) (pa_cons (pe_op op_pow pe_int pe_int) pa_nil))))))) (pss_one (ps_ret (pe_op op_modN (pv 3) (pv 1)))))) pss_nil) (pss_cons ps_never (pss_cons (ps_asg (pv 5) (pg_sub (pv 0) pe_int set_list)) (pss_cons (ps_set (i := 6) sc_law_draw.nd rfl (Or.inl rfl) (pe_lst (pa_cons pe_int (pa_cons pe_int (pa_cons pe_int (pa_cons pe_int (pa_cons pe_int pa_nil))))))) (pss_cons (ps_set (i := 7) sc_law_draw.nd rfl (Or.inl rfl) (pe_ix (k_ix K) (pe_ix (k_ix K) (pv 0) pe_int (fun _ _ => rfl)) (pe_op op_modN (pv 5) (pe_callB (k_len K) (by rfl) n_len bt_len (pa_cons (pe_ix (k_ix K) (pv 0) pe_int (fun _ _ => rfl)) pa_nil))) (fun _ _ => rfl))) (pss_cons (ps_set (i := 8) sc_law_draw.nd rfl (Or.inl rfl) (pe_op op_modN (pe_op op_pow (pe_op (k_add K) (pe_op (k_add K) (pe_op (k_add K) (pe_ix (k_ix K) (pv 0) pe_int (fun _ _ => rfl)) (pv 7)) (pe_op op_mulU pe_int (pv 5))) pe_int) pe_int) (pe_ix (k_ix K) (pv 6) (pe_op op_modN (pv 5) pe_int) (fun _ _ => rfl)))) (pss_cons (ps_set (i := 9) sc_law_draw.nd rfl (Or.inl rfl) (pe_op (k_add K) (pe_op (k_add K) (pe_op op_mulU (pv 8) (pv 8)) (pe_op op_modN (pe_ix (k_ix K) (pv 0) pe_int (fun _ _ => rfl)) pe_int)) (pv 5))) (pss_one (ps_ret (pe_op op_modN (pe_op op_fdivV (pe_op op_modN (pe_op op_pow (pv 9) pe_int) (pe_ix (k_ix K) (pv 6) (pe_op op_modN (pe_op (k_add K) (pv 5) pe_int) pe_int) (fun _ _ => rfl))) pe_int) (pv 1))))))))))))), ?_⟩
    refine i_seq ?_
    refine i_cut (fun σ' H' => ∃ gs, StoreIn H' st gl sm gs b sp ss ∧ Fx st gl H H' ∧ (∀ r, gs ≠ 0 :: r) ∧ σ' = [some (.ref st), some (.int m), none, none, none, none, none, none, none, none]) ?_ ?_
    · intro N hN
      refine i_while (DrawW st gl sm b sp ss H _) _ ⟨gs0, S0, Fx.same (Same.refl _), rfl, rfl⟩ ?_
      rintro m' σ' H1 ⟨gs, S, F1, rfl, rfl⟩
      obtain ⟨hst, hgl, hsm, hne, hgn, hsn, hs0, hsl, hgl2, hb0, hb1, ht0⟩ := id S
      wtm_at "v"
      refine i_neD (.lst (SqL.of (by wtm_at "lk")) (dp_ints gs)) (.lst (SqL.of (by wtm_at "lk")) .nil) ((Sh.lst (ShAll.ints gs) : Sh 1 _).shaped (by decide)) ((Sh.lst .nil : Sh 1 _).shaped (by decide)) ?_
      rw [eqv_ints_nil]
      wtm_at "v"
      refine ite_b (fun c => ?_) (fun c => ?_)
      · obtain ⟨g, r, rfl⟩ := ne_nil c
        wtm_at "v"
        refine i_ixL (SqL.of (by wtm_at "lk")) (atI_nat (j := 0) rfl) ?_
        wtm_at "v"
        with_reducible refine ite_d (fun c2 => ?_) (fun c2 => ?_)
        · wtm_at "v"
          rename_i p2 H2 n2 s2 h2
          have S2 := S.same s2
          refine i_bmL S2.hgl ?_
          wtm_at "v"
          refine i_pop0 S2.hgl ?_
          wtm_at "v"
          refine ⟨r.length, by simp, r, ?_, F1.trans ((Fx.same s2).trans (fx_upd2 S2.hgl)), rfl, rfl⟩
          exact { S2 with hst := by rw [upd_ne S2.st_gl]; exact S2.hst, hgl := upd_same, hsm := by rw [upd_ne (Ne.symm hne)]; exact S2.hsm, gn := fun x hx => hgn x (List.mem_cons_of_mem _ hx), gl_ := by simp at hgl2; omega }
        · rename_i p2 H2 n2 s2 h2
          exact hN _ _ ⟨g :: r, S.same s2, F1.trans (Fx.same s2), (fun r' e => c2 (by injection e)), rfl⟩
      · rename_i p2 H2 n2 s2 h2
        obtain rfl := is_nil c
        exact hN _ _ ⟨[], S.same s2, F1.trans (Fx.same s2), (fun r' e => by cases e), rfl⟩
    rintro σ' H1 ⟨gs, S, F1, hz, rfl⟩
    obtain ⟨hst, hgl, hsm, hne, hgn, hsn, hs0, hsl, hgl2, hb0, hb1, ht0⟩ := id S
    wtm_at "v"
    refine i_neD (.lst (SqL.of (by wtm_at "lk")) (dp_ints gs)) (.lst (SqL.of (by wtm_at "lk")) .nil) ((Sh.lst (ShAll.ints gs) : Sh 1 _).shaped (by decide)) ((Sh.lst .nil : Sh 1 _).shaped (by decide)) ?_
    rw [eqv_ints_nil]
    wtm_at "v"
    rename_i p2 H2 n2 s2 h2
    have S2 := S.same s2
    refine ite_b (fun c => ?_) (fun c => ?_)
    · obtain ⟨g, r, rfl⟩ := ne_nil c
      wtm_at "v"
      refine i_ixL (SqL.of (by wtm_at "lk")) (atI_nat (j := 0) rfl) ?_
      wtm_at "v"
      refine i_mod (by omega) (fun d hd0 hd1 _ => ?_)
      wtm_at "v"
      refine i_ixL (SqL.of (by wtm_at "lk")) (atI_nat (j := 0) rfl) ?_
      wtm_at "v"
      refine i_I ⟨by omega, lg_of (n := 200) (by omega) (by decide) (by decide)⟩ ?_
      wtm_at "v"
      refine i_setL S2.hgl (ixN_at (j := 0) (by simp)) ?_
      wtm_at "v"
      refine k _ _ hd0 hd1 ⟨sm, g.fdiv m :: r, b, sp, ss, ?_, by omega⟩ (F1.trans ((Fx.same s2).trans (fx_upd2 S2.hgl)))
      refine { S2 with hst := by rw [upd_ne S2.st_gl]; exact S2.hst, hgl := upd_same, hsm := by rw [upd_ne (Ne.symm hne)]; exact S2.hsm, gn := fun x hx => ?_, gl_ := by simpa using hgl2 }
      rcases List.mem_cons.mp hx with e | hx
      · rw [e]
        exact cut_more (by omega) (hgn g (List.mem_cons_self ..))
      · exact hgn x (List.mem_cons_of_mem _ hx)
    · obtain rfl := is_nil c
      wtm_at "v"
      with_reducible refine ite_d (fun c2 => ?_) (fun c2 => absurd hm (by omega))
      wtm_at "v"
      refine i_strI (Nat.lt_of_lt_of_le (PySem.Flt.log2_lt_of (by decide) hm2) (by decide)) ?_
      wtm_at "v"
      have hlen : (Str.ofString (toString m)).length ≤ 202 := by
        rw [PySem.ofString_length]
        exact int_text_length_le (k := 201) (by decide) (Nat.lt_of_lt_of_le (PySem.Flt.log2_lt_of (by decide) hm2) (by decide))
      refine i_lenS (Nat.le_trans hlen (by decide)) ?_
      wtm_at "v"
      refine i_I ⟨by decide, by decide⟩ ?_
      wtm_at "v"
      have hdiv : ((Str.ofString (toString m)).length : Int).fdiv 6 ≤ 34 ∧ 0 ≤ ((Str.ofString (toString m)).length : Int).fdiv 6 := by
        rw [Int.fdiv_eq_ediv_of_nonneg _ (by decide)]
        omega
      generalize ((Str.ofString (toString m)).length : Int).fdiv 6 = turns at *
      refine i_rng1 (by omega) (by omega) ?_
      refine i_forR (fun i σ' H' => ∃ (fo : Int) (v4 : Option V), σ' = [some (.ref st), some (.int m), none, some (.int fo), v4, none, none, none, none, none] ∧ 0 ≤ fo ∧ fo < 2 ^ (20 * i) ∧ StoreAt H' st gl (n + i) ∧ Fx st gl H H') ⟨0, none, rfl, by decide, by decide, ⟨sm, [], b, sp, ss, S2, by omega⟩, F1.trans (Fx.same s2)⟩ ?_ ?_
      · rintro i σ' H' hi ⟨fo, v4, rfl, h0, h1, S', F'⟩
        wtm_at "v"
        have m1 : CMulW fo 1000000 := by
          refine wide_mul (a := 20 * i + 1) (b := 20) ?_ (by decide) (by omega) (by decide) (by omega)
          have e : (2 : Nat) ^ (20 * i + 1) = 2 ^ (20 * i) * 2 := Nat.pow_succ ..
          have e2 : ((2 : Nat) ^ (20 * i) : Nat) = ((2 : Int) ^ (20 * i)).toNat := by
            have : ((2 ^ (20 * i) : Nat) : Int) = (2 : Int) ^ (20 * i) := by simp
            omega
          omega
        refine i_mulI m1 ?_
        wtm_at "v"
        refine c_draw1 S' (by decide) (by decide) (by omega) (fun d H2 hd0 hd1 S3 F3 => ?_)
        wtm_at "v"
        obtain ⟨a1, a2⟩ := found_more h0 h1 hd0 hd1
        exact ⟨_, _, rfl, a1, a2, S3, F'.trans F3⟩
      · rintro σ' H' ⟨fo, v4, rfl, h0, h1, S', F'⟩
        wtm_at "v"
        refine i_mod (by omega) (fun d hd0 hd1 _ => ?_)
        exact k _ _ hd0 hd1 (S'.mono (by omega)) F'
theorem FnG.or3 {CX : CXT} {k : Nat} {f : Addr} {fd : FuncData} {ps : List Str} {sp sp' sp2 : Sp} (a : FnG P w K mg base CX k f fd ps sp) (b : FnG P w K mg base CX k f fd ps sp') (h : ∀ vs H Q E, sp2 vs H Q E → sp vs H Q E ∨ sp' vs H Q E) : FnG P w K mg base CX k f fd ps sp2 := by
  refine ⟨fun vs H Q E z => (h vs H Q E z).elim (a.len _ _ _ _) (b.len _ _ _ _), fun A g o s H args us vs Q E r e bb v z => ?_⟩
  rcases h _ _ _ _ z with z | z
  · exact a.run A g o s H args us vs Q E r e bb v z
  · exact b.run A g o s H args us vs Q E r e bb v z
theorem FnG.up {CX : CXT} {j k : Nat} {f : Addr} {fd : FuncData} {ps : List Str} {sp : Sp} (a : FnG P w K mg base CX j f fd ps sp) (h : j ≤ k) : FnG P w K mg base CX k f fd ps sp := ⟨a.len, fun A g o s H args us vs Q E r => a.run A g o s H args us vs Q E (r.mono h)⟩
theorem ok_law_draw {f : Addr} {fd : FuncData} (F : FunD K "_law_draw" "_law_draw" (defArgs s_law_draw) (defBody s_law_draw) (defScope s_law_draw) [] [] f fd) (gf : mg "_law_draw" = some (.ref f)) (kf : PySem.W.keepIn K (.ref f) = true) (bf : Binds K fd ["store", "many"] []) (n_len : mg "len" = none) (n_str : mg "str" = none) (n_range : mg "range" = none) :
    FnG P w K mg base CX0 2 f fd ["store", "many"] spDraw := by
  have a := ok_law_draw1 (P := P) (w := w) (base := base) F n_len n_str n_range
  have b := ok_law_drawB (P := P) (w := w) (base := base) F ⟨f, fd, [], a, gf, kf, bf, .nil⟩ n_len n_str n_range
  refine FnG.or3 (a.up (by decide)) b fun vs H Q E z => ?_
  obtain ⟨st, gl, n, m, rfl, S, hm, hm2, hn, k⟩ := z
  by_cases c : m ≤ 1000000
  · exact .inl ⟨st, gl, n, m, rfl, S, hm, c, by omega, fun d H' h0 h1 S' F' => k d H' h0 h1 (S'.mono (by omega)) F'⟩
  · exact .inr ⟨st, gl, n, m, rfl, S, by omega, hm2, hn, k⟩
end
section
local macro_rules | `(tactic| wtm_at "lkP") => `(tactic| first
  | with_reducible assumption
  | exact PartK.pt (by with_reducible assumption)
  | exact PartAt.tm (by with_reducible assumption) (by wtm_at "tm") | fail)
/-! ### the steps as one word: wtm_at "v1" a step, wtm_at "v" as many as go -/
local macro_rules | `(tactic| wtm_at "tm") => `(tactic| first
  | exact Tm.refl _
  | exact Tm.same (by with_reducible assumption)
  | exact Tm.fx (by with_reducible assumption)
  | (refine Tm.trans ?_ (Tm.same (by with_reducible assumption)); wtm_at "tm")
  | (refine Tm.trans ?_ (Tm.fx (by with_reducible assumption)); wtm_at "tm") | fail)
local macro_rules | `(tactic| wtm_at "lkT1") => `(tactic| first
  | with_reducible assumption
  | exact TpK.tp (by with_reducible assumption)
  | exact TpH.tm (by with_reducible assumption) (by wtm_at "tm")
  | exact Tp.tm (by with_reducible assumption) (by wtm_at "tm")
  | exact Tp.of (by with_reducible assumption) | fail)
local macro_rules | `(tactic| wtm_at "lkT") => `(tactic| first
  | wtm_at "lkT1"
  | exact PartAt.tpe (by wtm_at "lkP") (by rfl)
  | fail)
local macro_rules | `(tactic| wtm_at "lk") => `(tactic| first
  | assumption
  | exact b_get (by assumption) (by wtm_at "lk")
  | exact b_lst (by assumption) (by wtm_at "ne") (by wtm_at "ne") (by wtm_at "lk") | fail)
local macro_rules | `(tactic| wtm_at "lkL") => `(tactic| first
  | assumption
  | exact SqL.of (by wtm_at "lk")
  | exact b_L (by assumption) (by wtm_at "lkL") | fail)
local macro_rules | `(tactic| wtm_at "intL") => `(tactic| first | exact IntL.nil | exact IntL.cons (by wtm_at "intL") | fail)
local macro_rules | `(tactic| wtm_at "lkS0") => `(tactic| first
  | with_reducible assumption
  | exact StoreAt.same (by with_reducible assumption) (by wtm_at "lkS0") | fail)
local macro_rules | `(tactic| wtm_at "lkS") => `(tactic| first
  | with_reducible assumption
  | exact StoreAt.from (by with_reducible assumption) (by wtm_at "sm") | fail)
local macro_rules | `(tactic| wtm_at "ne") => `(tactic| first
  | assumption
  | exact Ne.symm (by assumption)
  | exact st_ne1 (by with_reducible assumption) (by wtm_at "lkS0")
  | exact st_ne2 (by with_reducible assumption) (by wtm_at "lkS0")
  | exact new_ne (by assumption) (by wtm_at "lk")
  | exact new_ne' (by assumption) (by wtm_at "lk") | fail)
local macro_rules | `(tactic| wtm_at "sm") => `(tactic| first
  | with_reducible assumption
  | exact Same.refl _
  | (refine Same.trans ?_ (by with_reducible assumption); wtm_at "sm") | fail)
local macro_rules | `(tactic| wtm_at "fx") => `(tactic| first
  | with_reducible assumption
  | exact Fx.same (Same.refl _)
  | exact Fx.same (by with_reducible assumption)
  | (refine Fx.trans ?_ (by with_reducible assumption); wtm_at "fx")
  | (refine Fx.trans ?_ (Fx.same (by with_reducible assumption)); wtm_at "fx") | fail)
local macro_rules | `(tactic| wtm_at "v0") => `(tactic| first
  | with_reducible refine i_seq ?_ | with_reducible refine i_asg ?_ | with_reducible refine i_var rfl ?_ | with_reducible refine i_c ?_ | with_reducible refine i_name ?_
  | with_reducible refine i_op ?_ | with_reducible refine i_ifS ?_ | with_reducible refine i_test ?_ | with_reducible refine i_tB ?_
  | with_reducible refine i_cons ?_ | with_reducible refine i_nil ?_ | with_reducible refine i_call ?_ | with_reducible refine i_callN ?_ | with_reducible refine i_callX ?_ | with_reducible refine i_callNX ?_ | with_reducible refine i_cb ?_
  | with_reducible refine i_tup ?_ | with_reducible refine i_lst ?_ | with_reducible refine i_ret ?_ | with_reducible refine i_retN ?_ | with_reducible refine i_drop ?_
  | with_reducible refine i_next ?_ | with_reducible refine i_par ?_ | with_reducible refine i_par2 ?_ | with_reducible refine i_ifE ?_ | with_reducible refine i_un ?_
  | with_reducible refine i_and ?_ | with_reducible refine i_or ?_ | with_reducible refine i_not ?_ | with_reducible refine i_andV ?_ | with_reducible refine i_orV ?_ | with_reducible refine i_notV ?_
  | with_reducible refine i_notV2 ?_ | with_reducible refine i_bif (A := fun _ => _) ?_ | with_reducible refine i_brk ?_ | with_reducible refine i_ctn ?_
  | with_reducible refine i_abs ?_ | with_reducible refine i_min ?_ | with_reducible refine i_max ?_ | with_reducible refine i_for ?_ | with_reducible refine i_iR1 ?_ | with_reducible refine i_iR2 ?_ | with_reducible refine i_iL ?_ | with_reducible refine i_iT ?_ | with_reducible refine i_wb ?_
  | with_reducible refine i_sl ?_ | with_reducible refine i_no ?_ | with_reducible refine i_so ?_ | with_reducible refine i_exI ?_ | with_reducible refine i_exB ?_ | with_reducible refine i_gcons ?_ | with_reducible refine i_gnil ?_ | with_reducible refine i_bm ?_ | with_reducible refine i_gsub ?_ | with_reducible refine i_lc ?_ | with_reducible refine i_yes ?_ | with_reducible refine i_iE ?_
  | with_reducible refine ite_1 ?_ | with_reducible refine i_pow6 ?_ | with_reducible refine i_pow18 ?_ | with_reducible refine i_pow30 ?_
  | with_reducible refine i_addI ?_ | with_reducible refine i_I0 ?_ | with_reducible refine i_U ?_ | with_reducible refine i_eqI ?_ | with_reducible refine i_neI ?_ | fail)
local macro_rules | `(tactic| wtm_at "v1") => `(tactic| first
  | wtm_at "v0"
  | ((with_reducible show rIx _ _ _ _ _); first | refine i_ixT (by wtm_at "lkT") rfl ?_ | refine i_ixL (by wtm_at "lkL") rfl ?_)
  | ((with_reducible show rLenU _ _ _ _); first | refine i_lenT (by wtm_at "lkT") ?_ | refine i_lenL (by wtm_at "lkL") ?_)
  | ((with_reducible show spDraw _ _ _ _); refine c_draw (by wtm_at "lkS") (by first | decide | omega) (by first | decide | omega) (by omega) ?_; intro _ _ _ _ _ _)
  | (with_reducible refine i_newTH (by first | decide | (simp; done)) ?_; intro _ _ _ _ _)
  | (with_reducible refine i_newL (by first | decide | (simp; done)) ?_; intro _ _ _ _ _) | fail)
local macro_rules | `(tactic| wtm_at "v") => `(tactic| repeat wtm_at "v1")
local macro_rules | `(tactic| wtm_at "vi") => `(tactic| repeat ((fail_if_success (with_reducible show tIfS _ _ _ _ _ _)); wtm_at "v1"))
local macro_rules | `(tactic| wtm_at "v1") => `(tactic| first
  | ((with_reducible refine i_mulI ?hm ?_); (case hm => exact wide_mul (a := 128) (b := 128) (by omega) (by omega) (by decide) (by decide) (by decide)))
  | ((with_reducible refine i_mod ?hm ?_); (case hm => first | decide | omega); intro _ _ _ _) | fail)
variable {P : Program} {w : World} {K : PySem.W.Frag} {mg : Str → Option Value} {base : Heap}
abbrev s_divisor : Stmt := topS 8
theorem sc_divisor : FnScope ["one", "other"] ["one", "other"] (defScope s_divisor) := ⟨rfl, rfl, rfl, by decide +kernel, rfl, by decide +kernel, by decide +kernel⟩
theorem ok_divisor {f : Addr} {fd : FuncData} (F : FunD K "divisor" "divisor" (defArgs s_divisor) (defBody s_divisor) (defScope s_divisor) [] [] f fd) (n_abs : mg "abs" = none) : FnG P w K mg base CX0 1 f fd ["one", "other"] spDiv := by
  refine okG (k := 0) F sc_divisor (fun vs H Q E h => ?_) (fun cdv A hG outer s H vs Q E hr h => ?_)
  · obtain ⟨a, b, rfl, _⟩ := h
    rfl
  · obtain ⟨a, b, rfl, k⟩ := h
    refine ⟨_, (pss_cons (ps_par (i := 0) (j := 1) rfl sc_divisor.nd rfl rfl (by decide) rfl rfl (pa_cons (pe_callB (call_absU) (by rfl) n_abs bt_abs (pa_cons (pv 0) pa_nil)) (pa_cons (pe_callB (call_absU) (by rfl) n_abs bt_abs (pa_cons (pv 1) pa_nil)) pa_nil)) rfl) (pss_cons (ps_while PassesOwn.never (pt_cmpR op_gt (pv 1) pe_int (nomark _)) (pss_one (ps_par (i := 0) (j := 1) rfl sc_divisor.nd rfl rfl (by decide) rfl rfl (pa_cons (pv 1) (pa_cons (pe_op op_modN (pv 0) (pv 1)) pa_nil)) rfl))) (pss_one (ps_ret (pv 0))))), ?_⟩
    wtm_at "v"
    refine i_while (fun m σ' H' => H' = H ∧ ∃ x y : Int, σ' = [some (.int x), some (.int y)] ∧ 0 ≤ x ∧ 0 ≤ y ∧ Int.gcd x y = Int.gcd a b ∧ m = y.toNat) _ ⟨rfl, _, _, rfl, by omega, by omega, gcd_abs a b, rfl⟩ ?_
    rintro m σ' H' ⟨rfl, x, y, rfl, hx, hy, hg, rfl⟩
    wtm_at "v"
    with_reducible refine ite_d (fun c => ?_) (fun c => ?_)
    · wtm_at "v"
      rename_i d hd0 hd1 hd
      exact ⟨_, by omega, rfl, _, _, rfl, hy, by omega, (by rw [hd]; exact gcd_turn' x y c : Int.gcd y d = Int.gcd x y).trans hg, rfl⟩
    · wtm_at "v"
      have e : y = 0 := by omega
      subst e
      have e2 : x = (Int.gcd a b : Int) := by rw [← hg, Int.gcd_zero_right]; omega
      rw [e2]
      exact k
abbrev s_part : Stmt := topS 12
theorem sc_part : FnScope ["a", "b", "by"] ["a", "b"] (defScope s_part) := ⟨rfl, rfl, rfl, by decide +kernel, rfl, by decide +kernel, by decide +kernel⟩
theorem ok_part {f : Addr} {fd : FuncData} {dvs : List V} {kws : List (Str × V)} (F : FunD K "part" "part" (defArgs s_part) (defBody s_part) (defScope s_part) dvs kws f fd) (O_divisor : Own P w K mg base CX0 1 "divisor" ["one", "other"] [] spDiv) : FnG P w K mg base CX0 2 f fd ["a", "b"] (spPart K) := by
  refine okG (k := 1) F sc_part (fun vs H Q E h => ?_) (fun cdv A hG outer s H vs Q E hr h => ?_)
  · obtain ⟨a, b, rfl, _⟩ := h
    rfl
  · obtain ⟨a, b, rfl, hb, hb2, ha2, k⟩ := h
    have hg := gcd_pos (a := a) hb
    have hg2 : (Int.gcd a b) ≤ b.natAbs := Nat.le_of_dvd (by omega) (Int.ofNat_dvd_left.mp (Int.gcd_dvd_right a b))
    refine ⟨_, (pss_cons (ps_if (pt_cmpR (k_eq K hr) (pv 1) pe_int (nomark _)) (pss_one ps_never) pss_nil) (pss_cons (ps_set (i := 2) sc_part.nd rfl (Or.inl rfl) (pe_ifExp (pt_cmpR op_gt (pv 1) pe_int (nomark _)) (pe_own O_divisor hG (hr.mono (by decide)) pass0 (pa_cons (pv 0) (pa_cons (pv 1) pa_nil))) (pe_op op_sub pe_int (pe_own O_divisor hG (hr.mono (by decide)) pass0 (pa_cons (pv 0) (pa_cons (pv 1) pa_nil)))))) (pss_one (ps_ret (pe_tup (pa_cons (pe_op op_fdivV (pv 0) (pv 2)) (pa_cons (pe_op op_fdivV (pv 1) (pv 2)) pa_nil))))))), ?_⟩
    wtm_at "v"
    with_reducible refine ite_d (fun c => absurd c hb) (fun _ => ?_)
    wtm_at "v"
    with_reducible refine ite_d (fun c => ?_) (fun c => ?_)
    · wtm_at "v"
      refine c_div ?_
      wtm_at "v"
      have hl : (Int.gcd a b : Int) ≠ 0 ∧ (Int.gcd a b : Int).natAbs.log2 < 9000 := ⟨by omega, lg9 (Nat.lt_of_le_of_lt (by omega) hb2)⟩
      refine i_I hl ?_
      wtm_at "v"
      refine i_I hl ?_
      wtm_at "v"
      refine k _ _ (by wtm_at "sm") ?_
      refine ⟨?_⟩
      rw [num_pos c, den_pos c]
      wtm_at "lkT"
    · wtm_at "v"
      refine c_div ?_
      wtm_at "v"
      have hl : (0 - (Int.gcd a b : Int)) ≠ 0 ∧ (0 - (Int.gcd a b : Int)).natAbs.log2 < 9000 := ⟨by omega, lg9 (Nat.lt_of_le_of_lt (by omega) hb2)⟩
      refine i_I hl ?_
      wtm_at "v"
      refine i_I hl ?_
      wtm_at "v"
      have c' : b < 0 := by omega
      refine k _ _ (by wtm_at "sm") ?_
      refine ⟨?_⟩
      rw [num_neg c', den_neg c']
      wtm_at "lkT"
abbrev s_law_part : Stmt := topS 28
theorem sc_law_part : FnScope ["above", "below", "one", "other", "sign"] ["above", "below"] (defScope s_law_part) := ⟨rfl, rfl, rfl, by decide +kernel, rfl, by decide +kernel, by decide +kernel⟩
theorem ok_law_part {f : Addr} {fd : FuncData} {dvs : List V} {kws : List (Str × V)} (F : FunD K "_law_part" "_law_part" (defArgs s_law_part) (defBody s_law_part) (defScope s_law_part) dvs kws f fd) (n_abs : mg "abs" = none) : FnG P w K mg base CX0 1 f fd ["above", "below"] (spPart K) := by
  refine okG (k := 0) F sc_law_part (fun vs H Q E h => ?_) (fun cdv A hG outer s H vs Q E hr h => ?_)
  · obtain ⟨a, b, rfl, _⟩ := h
    rfl
  · obtain ⟨a, b, rfl, hb, hb2, ha2, k⟩ := h
    have hg := gcd_pos (a := a) hb
    have hg2 : (Int.gcd a b) ≤ b.natAbs := Nat.le_of_dvd (by omega) (Int.ofNat_dvd_left.mp (Int.gcd_dvd_right a b))
    refine ⟨_, (pss_cons (ps_par (i := 2) (j := 3) rfl sc_law_part.nd rfl rfl (by decide) rfl rfl (pa_cons (pe_callB (call_absU) (by rfl) n_abs bt_abs (pa_cons (pv 0) pa_nil)) (pa_cons (pe_callB (call_absU) (by rfl) n_abs bt_abs (pa_cons (pv 1) pa_nil)) pa_nil)) rfl) (pss_cons (ps_while PassesOwn.never (pt_cmpR op_gt (pv 3) pe_int (nomark _)) (pss_one (ps_par (i := 2) (j := 3) rfl sc_law_part.nd rfl rfl (by decide) rfl rfl (pa_cons (pv 3) (pa_cons (pe_op op_modN (pv 2) (pv 3)) pa_nil)) rfl))) (pss_cons (ps_set (i := 4) sc_law_part.nd rfl (Or.inl rfl) (pe_ifExp (pt_cmpR op_gt (pv 1) pe_int (nomark _)) pe_int (pe_un un_neg pe_int))) (pss_one (ps_ret (pe_tup (pa_cons (pe_op op_fdivV (pe_op op_mulU (pv 4) (pv 0)) (pv 2)) (pa_cons (pe_op op_fdivV (pe_callB (call_absU) (by rfl) n_abs bt_abs (pa_cons (pv 1) pa_nil)) (pv 2)) pa_nil)))))))), ?_⟩
    wtm_at "v"
    refine i_while (fun m σ' H' => H = H' ∧ ∃ x y : Int, σ' = [some (.int a), some (.int b), some (.int x), some (.int y), none] ∧ 0 ≤ x ∧ 0 ≤ y ∧ Int.gcd x y = Int.gcd a b ∧ m = y.toNat) _ ⟨rfl, _, _, rfl, by omega, by omega, gcd_abs a b, rfl⟩ ?_
    rintro m σ' H' ⟨rfl, x, y, rfl, hx, hy, hgc, rfl⟩
    wtm_at "v"
    with_reducible refine ite_d (fun c => ?_) (fun c => ?_)
    · wtm_at "v"
      rename_i d hd0 hd1 hd
      exact ⟨_, by omega, rfl, _, _, rfl, hy, by omega, (by rw [hd]; exact gcd_turn' x y c : Int.gcd y d = Int.gcd x y).trans hgc, rfl⟩
    · have e : y = 0 := by omega
      subst e
      have e2 : x = (Int.gcd a b : Int) := by rw [← hgc, Int.gcd_zero_right]; omega
      subst e2
      have hl : (Int.gcd a b : Int) ≠ 0 ∧ (Int.gcd a b : Int).natAbs.log2 < 9000 := ⟨by omega, lg9 (Nat.lt_of_le_of_lt (by omega) hb2)⟩
      with_reducible refine i_seq ?_
      with_reducible refine i_asg ?_
      refine i_cutE (fun v H' => v = .int (if 0 < b then 1 else -1) ∧ H = H') (fun Q' hQ => ?_) ?_
      · with_reducible refine i_ifE ?_
        wtm_at "v"
        with_reducible refine ite_d (fun c3 => ?_) (fun c3 => ?_)
        · wtm_at "v"
          exact hQ _ _ ⟨by rw [if_pos c3], rfl⟩
        · wtm_at "v"
          exact hQ _ _ ⟨by rw [if_neg c3], rfl⟩
      rintro v H' ⟨rfl, rfl⟩
      wtm_at "v"
      have m1 : CMulW (if 0 < b then 1 else -1) a := wide_mul (a := 1) (b := 400000) (by split <;> decide) ha2 (by decide) (by decide) (by decide)
      refine i_mulI m1 ?_
      wtm_at "v"
      refine i_I hl ?_
      wtm_at "v"
      refine i_I hl ?_
      wtm_at "v"
      refine k _ _ (by wtm_at "sm") ?_
      refine ⟨?_⟩
      rw [num_law hb, den_law hb]
      wtm_at "lkT"
end
section
local macro_rules | `(tactic| wtm_at "lkP") => `(tactic| first
  | with_reducible assumption
  | exact PartK.pt (by with_reducible assumption)
  | exact PartAt.tm (by with_reducible assumption) (by wtm_at "tm") | fail)
/-! ### the steps as one word: wtm_at "v1" a step, wtm_at "v" as many as go -/
local macro_rules | `(tactic| wtm_at "tm") => `(tactic| first
  | exact Tm.refl _
  | exact Tm.same (by with_reducible assumption)
  | exact Tm.fx (by with_reducible assumption)
  | (refine Tm.trans ?_ (Tm.same (by with_reducible assumption)); wtm_at "tm")
  | (refine Tm.trans ?_ (Tm.fx (by with_reducible assumption)); wtm_at "tm") | fail)
local macro_rules | `(tactic| wtm_at "lkT1") => `(tactic| first
  | with_reducible assumption
  | exact TpK.tp (by with_reducible assumption)
  | exact TpH.tm (by with_reducible assumption) (by wtm_at "tm")
  | exact Tp.tm (by with_reducible assumption) (by wtm_at "tm")
  | exact Tp.of (by with_reducible assumption) | fail)
local macro_rules | `(tactic| wtm_at "lkT") => `(tactic| first
  | wtm_at "lkT1"
  | exact PartAt.tpe (by wtm_at "lkP") (by rfl)
  | fail)
local macro_rules | `(tactic| wtm_at "lk") => `(tactic| first
  | assumption
  | exact b_get (by assumption) (by wtm_at "lk")
  | exact b_lst (by assumption) (by wtm_at "ne") (by wtm_at "ne") (by wtm_at "lk") | fail)
local macro_rules | `(tactic| wtm_at "lkL") => `(tactic| first
  | assumption
  | exact SqL.of (by wtm_at "lk")
  | exact b_L (by assumption) (by wtm_at "lkL") | fail)
local macro_rules | `(tactic| wtm_at "intL") => `(tactic| first | exact IntL.nil | exact IntL.cons (by wtm_at "intL") | fail)
local macro_rules | `(tactic| wtm_at "lkS0") => `(tactic| first
  | with_reducible assumption
  | exact StoreAt.same (by with_reducible assumption) (by wtm_at "lkS0") | fail)
local macro_rules | `(tactic| wtm_at "lkS") => `(tactic| first
  | with_reducible assumption
  | exact StoreAt.from (by with_reducible assumption) (by wtm_at "sm") | fail)
local macro_rules | `(tactic| wtm_at "ne") => `(tactic| first
  | assumption
  | exact Ne.symm (by assumption)
  | exact st_ne1 (by with_reducible assumption) (by wtm_at "lkS0")
  | exact st_ne2 (by with_reducible assumption) (by wtm_at "lkS0")
  | exact new_ne (by assumption) (by wtm_at "lk")
  | exact new_ne' (by assumption) (by wtm_at "lk") | fail)
local macro_rules | `(tactic| wtm_at "sm") => `(tactic| first
  | with_reducible assumption
  | exact Same.refl _
  | (refine Same.trans ?_ (by with_reducible assumption); wtm_at "sm") | fail)
local macro_rules | `(tactic| wtm_at "fx") => `(tactic| first
  | with_reducible assumption
  | exact Fx.same (Same.refl _)
  | exact Fx.same (by with_reducible assumption)
  | (refine Fx.trans ?_ (by with_reducible assumption); wtm_at "fx")
  | (refine Fx.trans ?_ (Fx.same (by with_reducible assumption)); wtm_at "fx") | fail)
local macro_rules | `(tactic| wtm_at "v0") => `(tactic| first
  | with_reducible refine i_seq ?_ | with_reducible refine i_asg ?_ | with_reducible refine i_var rfl ?_ | with_reducible refine i_c ?_ | with_reducible refine i_name ?_
  | with_reducible refine i_op ?_ | with_reducible refine i_ifS ?_ | with_reducible refine i_test ?_ | with_reducible refine i_tB ?_
  | with_reducible refine i_cons ?_ | with_reducible refine i_nil ?_ | with_reducible refine i_call ?_ | with_reducible refine i_callN ?_ | with_reducible refine i_callX ?_ | with_reducible refine i_callNX ?_ | with_reducible refine i_cb ?_
  | with_reducible refine i_tup ?_ | with_reducible refine i_lst ?_ | with_reducible refine i_ret ?_ | with_reducible refine i_retN ?_ | with_reducible refine i_drop ?_
  | with_reducible refine i_next ?_ | with_reducible refine i_par ?_ | with_reducible refine i_par2 ?_ | with_reducible refine i_ifE ?_ | with_reducible refine i_un ?_
  | with_reducible refine i_and ?_ | with_reducible refine i_or ?_ | with_reducible refine i_not ?_ | with_reducible refine i_andV ?_ | with_reducible refine i_orV ?_ | with_reducible refine i_notV ?_
  | with_reducible refine i_notV2 ?_ | with_reducible refine i_bif (A := fun _ => _) ?_ | with_reducible refine i_brk ?_ | with_reducible refine i_ctn ?_
  | with_reducible refine i_abs ?_ | with_reducible refine i_min ?_ | with_reducible refine i_max ?_ | with_reducible refine i_for ?_ | with_reducible refine i_iR1 ?_ | with_reducible refine i_iR2 ?_ | with_reducible refine i_iL ?_ | with_reducible refine i_iT ?_ | with_reducible refine i_wb ?_
  | with_reducible refine i_sl ?_ | with_reducible refine i_no ?_ | with_reducible refine i_so ?_ | with_reducible refine i_exI ?_ | with_reducible refine i_exB ?_ | with_reducible refine i_gcons ?_ | with_reducible refine i_gnil ?_ | with_reducible refine i_bm ?_ | with_reducible refine i_gsub ?_ | with_reducible refine i_lc ?_ | with_reducible refine i_yes ?_ | with_reducible refine i_iE ?_
  | with_reducible refine ite_1 ?_ | with_reducible refine i_pow6 ?_ | with_reducible refine i_pow18 ?_ | with_reducible refine i_pow30 ?_
  | with_reducible refine i_addI ?_ | with_reducible refine i_I0 ?_ | with_reducible refine i_U ?_ | with_reducible refine i_eqI ?_ | with_reducible refine i_neI ?_ | fail)
local macro_rules | `(tactic| wtm_at "v1") => `(tactic| first
  | wtm_at "v0"
  | ((with_reducible show rIx _ _ _ _ _); first | refine i_ixT (by wtm_at "lkT") rfl ?_ | refine i_ixL (by wtm_at "lkL") rfl ?_)
  | ((with_reducible show rLenU _ _ _ _); first | refine i_lenT (by wtm_at "lkT") ?_ | refine i_lenL (by wtm_at "lkL") ?_)
  | ((with_reducible show spDraw _ _ _ _); refine c_draw (by wtm_at "lkS") (by first | decide | omega) (by first | decide | omega) (by omega) ?_; intro _ _ _ _ _ _)
  | (with_reducible refine i_newTH (by first | decide | (simp; done)) ?_; intro _ _ _ _ _)
  | (with_reducible refine i_newL (by first | decide | (simp; done)) ?_; intro _ _ _ _ _) | fail)
local macro_rules | `(tactic| wtm_at "v") => `(tactic| repeat wtm_at "v1")
local macro_rules | `(tactic| wtm_at "vi") => `(tactic| repeat ((fail_if_success (with_reducible show tIfS _ _ _ _ _ _)); wtm_at "v1"))
local macro_rules | `(tactic| wtm_at "nz") => `(tactic| first | assumption | decide | omega | fail)
local macro_rules | `(tactic| wtm_at "bi") => `(tactic| first | exact natAbs_up (by assumption) (by decide) | exact natAbs_up (n := 64) (by decide) (by decide) | exact natAbs_up (n := 64) (by omega) (by decide) | fail)
local macro_rules | `(tactic| wtm_at "v0") => `(tactic| first
  | ((with_reducible show spPart _ _ _ _ _); refine c_part (by wtm_at "nz") (by wtm_at "bi") (by wtm_at "bi") ?_; intro _ _ _ _) | fail)
/-! products of parts' numbers, known by their bits -/
local macro_rules | `(tactic| wtm_at "nb") => `(tactic| first | exact Bd.n (by assumption) | exact Bd.d (by assumption) | fail)
local macro_rules | `(tactic| wtm_at "nz") => `(tactic| first | exact den_ne _ | exact num_ne (by assumption) | exact mul_ne (by wtm_at "nz") (by wtm_at "nz") | fail)
local macro_rules | `(tactic| wtm_at "bi") => `(tactic| first
  | exact natAbs_up (mul_lt2 (by wtm_at "nb") (by wtm_at "nb")) (by decide)
  | exact natAbs_up (lt_add2 (mul_lt2 (by wtm_at "nb") (by wtm_at "nb")) (mul_lt2 (by wtm_at "nb") (by wtm_at "nb"))) (by decide)
  | exact natAbs_up (lt_sub2 (mul_lt2 (by wtm_at "nb") (by wtm_at "nb")) (mul_lt2 (by wtm_at "nb") (by wtm_at "nb"))) (by decide)
  | fail)
local macro_rules | `(tactic| wtm_at "v1") => `(tactic| first
  | ((with_reducible refine i_mulI ?hm ?_); (case hm => exact mulBd (by wtm_at "nb") (by wtm_at "nb"))) | fail)
variable {P : Program} {w : World} {K : PySem.W.Frag} {mg : Str → Option Value} {base : Heap}
abbrev s_plus : Stmt := topS 13
theorem sc_plus : FnScope ["one", "other"] ["one", "other"] (defScope s_plus) := ⟨rfl, rfl, rfl, by decide +kernel, rfl, by decide +kernel, by decide +kernel⟩
theorem ok_plus {f : Addr} {fd : FuncData} (F : FunD K "plus" "plus" (defArgs s_plus) (defBody s_plus) (defScope s_plus) [] [] f fd) (O_part : Own P w K mg base CX0 2 "part" ["a", "b"] [] (spPart K)) : FnG P w K mg base CX0 3 f fd ["one", "other"] (spPP K CT (· + ·)) := by
  refine okG (k := 2) F sc_plus (fun vs H Q E h => ?_) (fun cdv A hG outer s H vs Q E hr h => ?_)
  · obtain ⟨a, b, x, y, rfl, _⟩ := h
    rfl
  · obtain ⟨p, q, x, y, rfl, h1, h2, b1, b2, hy, k⟩ := h
    have k' : ∀ r H', Same H H' → PartAt K H' r (Rat.divInt (x.num * y.den + y.num * x.den) (x.den * y.den)) → Q (.ref r) H' := by rw [← add_eq]; exact k
    refine ⟨_, (pss_one (ps_ret (pe_own O_part hG (hr.mono (by decide)) pass0 (pa_cons (pe_op (k_add K) (pe_op op_mulU (pe_ix (k_ix K) (pv 0) pe_int (fun _ _ => rfl)) (pe_ix (k_ix K) (pv 1) pe_int (fun _ _ => rfl))) (pe_op op_mulU (pe_ix (k_ix K) (pv 1) pe_int (fun _ _ => rfl)) (pe_ix (k_ix K) (pv 0) pe_int (fun _ _ => rfl)))) (pa_cons (pe_op op_mulU (pe_ix (k_ix K) (pv 0) pe_int (fun _ _ => rfl)) (pe_ix (k_ix K) (pv 1) pe_int (fun _ _ => rfl))) pa_nil))))), ?_⟩
    wtm_at "v"
    exact k' _ _ (by assumption) (by assumption)
abbrev s_less : Stmt := topS 14
theorem sc_less : FnScope ["one", "other"] ["one", "other"] (defScope s_less) := ⟨rfl, rfl, rfl, by decide +kernel, rfl, by decide +kernel, by decide +kernel⟩
theorem ok_less {f : Addr} {fd : FuncData} (F : FunD K "less" "less" (defArgs s_less) (defBody s_less) (defScope s_less) [] [] f fd) (O_part : Own P w K mg base CX0 2 "part" ["a", "b"] [] (spPart K)) : FnG P w K mg base CX0 3 f fd ["one", "other"] (spPP K CT (· - ·)) := by
  refine okG (k := 2) F sc_less (fun vs H Q E h => ?_) (fun cdv A hG outer s H vs Q E hr h => ?_)
  · obtain ⟨a, b, x, y, rfl, _⟩ := h
    rfl
  · obtain ⟨p, q, x, y, rfl, h1, h2, b1, b2, hy, k⟩ := h
    have k' : ∀ r H', Same H H' → PartAt K H' r (Rat.divInt (x.num * y.den - y.num * x.den) (x.den * y.den)) → Q (.ref r) H' := by rw [← sub_eq]; exact k
    refine ⟨_, (pss_one (ps_ret (pe_own O_part hG (hr.mono (by decide)) pass0 (pa_cons (pe_op op_sub (pe_op op_mulU (pe_ix (k_ix K) (pv 0) pe_int (fun _ _ => rfl)) (pe_ix (k_ix K) (pv 1) pe_int (fun _ _ => rfl))) (pe_op op_mulU (pe_ix (k_ix K) (pv 1) pe_int (fun _ _ => rfl)) (pe_ix (k_ix K) (pv 0) pe_int (fun _ _ => rfl)))) (pa_cons (pe_op op_mulU (pe_ix (k_ix K) (pv 0) pe_int (fun _ _ => rfl)) (pe_ix (k_ix K) (pv 1) pe_int (fun _ _ => rfl))) pa_nil))))), ?_⟩
    wtm_at "v"
    exact k' _ _ (by assumption) (by assumption)
abbrev s_times : Stmt := topS 15
theorem sc_times : FnScope ["one", "other"] ["one", "other"] (defScope s_times) := ⟨rfl, rfl, rfl, by decide +kernel, rfl, by decide +kernel, by decide +kernel⟩
theorem ok_times {f : Addr} {fd : FuncData} (F : FunD K "times" "times" (defArgs s_times) (defBody s_times) (defScope s_times) [] [] f fd) (O_part : Own P w K mg base CX0 2 "part" ["a", "b"] [] (spPart K)) : FnG P w K mg base CX0 3 f fd ["one", "other"] (spPP K CT (· * ·)) := by
  refine okG (k := 2) F sc_times (fun vs H Q E h => ?_) (fun cdv A hG outer s H vs Q E hr h => ?_)
  · obtain ⟨a, b, x, y, rfl, _⟩ := h
    rfl
  · obtain ⟨p, q, x, y, rfl, h1, h2, b1, b2, hy, k⟩ := h
    have k' : ∀ r H', Same H H' → PartAt K H' r (Rat.divInt (x.num * y.num) (x.den * y.den)) → Q (.ref r) H' := by rw [← mul_eq]; exact k
    refine ⟨_, (pss_one (ps_ret (pe_own O_part hG (hr.mono (by decide)) pass0 (pa_cons (pe_op op_mulU (pe_ix (k_ix K) (pv 0) pe_int (fun _ _ => rfl)) (pe_ix (k_ix K) (pv 1) pe_int (fun _ _ => rfl))) (pa_cons (pe_op op_mulU (pe_ix (k_ix K) (pv 0) pe_int (fun _ _ => rfl)) (pe_ix (k_ix K) (pv 1) pe_int (fun _ _ => rfl))) pa_nil))))), ?_⟩
    wtm_at "v"
    exact k' _ _ (by assumption) (by assumption)
abbrev s_is_less : Stmt := topS 16
theorem sc_is_less : FnScope ["one", "other"] ["one", "other"] (defScope s_is_less) := ⟨rfl, rfl, rfl, by decide +kernel, rfl, by decide +kernel, by decide +kernel⟩
theorem ok_is_less {f : Addr} {fd : FuncData} (F : FunD K "is_less" "is_less" (defArgs s_is_less) (defBody s_is_less) (defScope s_is_less) [] [] f fd) : FnG P w K mg base CX0 1 f fd ["one", "other"] (spLess K) := by
  refine okG (k := 0) F sc_is_less (fun vs H Q E h => ?_) (fun cdv A hG outer s H vs Q E hr h => ?_)
  · obtain ⟨a, b, x, y, rfl, _⟩ := h
    rfl
  · obtain ⟨p, q, x, y, rfl, h1, h2, b1, b2, k⟩ := h
    rw [show decide (x < y) = decide (x.num * y.den < y.num * x.den) from decide_eq_decide.mpr (lt_eq x y)] at k
    refine ⟨_, (pss_one (ps_ret (pe_cmpR op_lt (pe_op op_mulU (pe_ix (k_ix K) (pv 0) pe_int (fun _ _ => rfl)) (pe_ix (k_ix K) (pv 1) pe_int (fun _ _ => rfl))) (pe_op op_mulU (pe_ix (k_ix K) (pv 1) pe_int (fun _ _ => rfl)) (pe_ix (k_ix K) (pv 0) pe_int (fun _ _ => rfl))) (nomark _)))), ?_⟩
    wtm_at "v"
    exact k
abbrev s_law_sum : Stmt := topS 29
theorem sc_law_sum : FnScope ["one", "other"] ["one", "other"] (defScope s_law_sum) := ⟨rfl, rfl, rfl, by decide +kernel, rfl, by decide +kernel, by decide +kernel⟩
theorem ok_law_sum {f : Addr} {fd : FuncData} (F : FunD K "_law_sum" "_law_sum" (defArgs s_law_sum) (defBody s_law_sum) (defScope s_law_sum) [] [] f fd) (O_law_part : Own P w K mg base CX0 1 "_law_part" ["above", "below"] [] (spPart K)) : FnG P w K mg base CX0 2 f fd ["one", "other"] (spPP K CT (· + ·)) := by
  refine okG (k := 1) F sc_law_sum (fun vs H Q E h => ?_) (fun cdv A hG outer s H vs Q E hr h => ?_)
  · obtain ⟨a, b, x, y, rfl, _⟩ := h
    rfl
  · obtain ⟨p, q, x, y, rfl, h1, h2, b1, b2, hy, k⟩ := h
    have k' : ∀ r H', Same H H' → PartAt K H' r (Rat.divInt (x.num * y.den + y.num * x.den) (x.den * y.den)) → Q (.ref r) H' := by rw [← add_eq]; exact k
    refine ⟨_, (pss_one (ps_ret (pe_own O_law_part hG (hr.mono (by decide)) pass0 (pa_cons (pe_op (k_add K) (pe_op op_mulU (pe_ix (k_ix K) (pv 0) pe_int (fun _ _ => rfl)) (pe_ix (k_ix K) (pv 1) pe_int (fun _ _ => rfl))) (pe_op op_mulU (pe_ix (k_ix K) (pv 1) pe_int (fun _ _ => rfl)) (pe_ix (k_ix K) (pv 0) pe_int (fun _ _ => rfl)))) (pa_cons (pe_op op_mulU (pe_ix (k_ix K) (pv 0) pe_int (fun _ _ => rfl)) (pe_ix (k_ix K) (pv 1) pe_int (fun _ _ => rfl))) pa_nil))))), ?_⟩
    wtm_at "v"
    exact k' _ _ (by assumption) (by assumption)
abbrev s_law_rest : Stmt := topS 30
theorem sc_law_rest : FnScope ["one", "other"] ["one", "other"] (defScope s_law_rest) := ⟨rfl, rfl, rfl, by decide +kernel, rfl, by decide +kernel, by decide +kernel⟩
theorem ok_law_rest {f : Addr} {fd : FuncData} (F : FunD K "_law_rest" "_law_rest" (defArgs s_law_rest) (defBody s_law_rest) (defScope s_law_rest) [] [] f fd) (O_law_part : Own P w K mg base CX0 1 "_law_part" ["above", "below"] [] (spPart K)) : FnG P w K mg base CX0 2 f fd ["one", "other"] (spPP K CT (· - ·)) := by
  refine okG (k := 1) F sc_law_rest (fun vs H Q E h => ?_) (fun cdv A hG outer s H vs Q E hr h => ?_)
  · obtain ⟨a, b, x, y, rfl, _⟩ := h
    rfl
  · obtain ⟨p, q, x, y, rfl, h1, h2, b1, b2, hy, k⟩ := h
    have k' : ∀ r H', Same H H' → PartAt K H' r (Rat.divInt (x.num * y.den - y.num * x.den) (x.den * y.den)) → Q (.ref r) H' := by rw [← sub_eq]; exact k
    refine ⟨_, (pss_one (ps_ret (pe_own O_law_part hG (hr.mono (by decide)) pass0 (pa_cons (pe_op op_sub (pe_op op_mulU (pe_ix (k_ix K) (pv 0) pe_int (fun _ _ => rfl)) (pe_ix (k_ix K) (pv 1) pe_int (fun _ _ => rfl))) (pe_op op_mulU (pe_ix (k_ix K) (pv 1) pe_int (fun _ _ => rfl)) (pe_ix (k_ix K) (pv 0) pe_int (fun _ _ => rfl)))) (pa_cons (pe_op op_mulU (pe_ix (k_ix K) (pv 0) pe_int (fun _ _ => rfl)) (pe_ix (k_ix K) (pv 1) pe_int (fun _ _ => rfl))) pa_nil))))), ?_⟩
    wtm_at "v"
    exact k' _ _ (by assumption) (by assumption)
abbrev s_law_fold : Stmt := topS 31
theorem sc_law_fold : FnScope ["one", "other"] ["one", "other"] (defScope s_law_fold) := ⟨rfl, rfl, rfl, by decide +kernel, rfl, by decide +kernel, by decide +kernel⟩
theorem ok_law_fold {f : Addr} {fd : FuncData} (F : FunD K "_law_fold" "_law_fold" (defArgs s_law_fold) (defBody s_law_fold) (defScope s_law_fold) [] [] f fd) (O_law_part : Own P w K mg base CX0 1 "_law_part" ["above", "below"] [] (spPart K)) : FnG P w K mg base CX0 2 f fd ["one", "other"] (spPP K CT (· * ·)) := by
  refine okG (k := 1) F sc_law_fold (fun vs H Q E h => ?_) (fun cdv A hG outer s H vs Q E hr h => ?_)
  · obtain ⟨a, b, x, y, rfl, _⟩ := h
    rfl
  · obtain ⟨p, q, x, y, rfl, h1, h2, b1, b2, hy, k⟩ := h
    have k' : ∀ r H', Same H H' → PartAt K H' r (Rat.divInt (x.num * y.num) (x.den * y.den)) → Q (.ref r) H' := by rw [← mul_eq]; exact k
    refine ⟨_, (pss_one (ps_ret (pe_own O_law_part hG (hr.mono (by decide)) pass0 (pa_cons (pe_op op_mulU (pe_ix (k_ix K) (pv 0) pe_int (fun _ _ => rfl)) (pe_ix (k_ix K) (pv 1) pe_int (fun _ _ => rfl))) (pa_cons (pe_op op_mulU (pe_ix (k_ix K) (pv 0) pe_int (fun _ _ => rfl)) (pe_ix (k_ix K) (pv 1) pe_int (fun _ _ => rfl))) pa_nil))))), ?_⟩
    wtm_at "v"
    exact k' _ _ (by assumption) (by assumption)
abbrev s_law_under : Stmt := topS 32
theorem sc_law_under : FnScope ["one", "other"] ["one", "other"] (defScope s_law_under) := ⟨rfl, rfl, rfl, by decide +kernel, rfl, by decide +kernel, by decide +kernel⟩
theorem ok_law_under {f : Addr} {fd : FuncData} (F : FunD K "_law_under" "_law_under" (defArgs s_law_under) (defBody s_law_under) (defScope s_law_under) [] [] f fd) : FnG P w K mg base CX0 1 f fd ["one", "other"] (spLess K) := by
  refine okG (k := 0) F sc_law_under (fun vs H Q E h => ?_) (fun cdv A hG outer s H vs Q E hr h => ?_)
  · obtain ⟨a, b, x, y, rfl, _⟩ := h
    rfl
  · obtain ⟨p, q, x, y, rfl, h1, h2, b1, b2, k⟩ := h
    rw [show decide (x < y) = decide (x.num * y.den < y.num * x.den) from decide_eq_decide.mpr (lt_eq x y)] at k
    refine ⟨_, (pss_one (ps_ret (pe_cmpR op_lt (pe_op op_mulU (pe_ix (k_ix K) (pv 0) pe_int (fun _ _ => rfl)) (pe_ix (k_ix K) (pv 1) pe_int (fun _ _ => rfl))) (pe_op op_mulU (pe_ix (k_ix K) (pv 1) pe_int (fun _ _ => rfl)) (pe_ix (k_ix K) (pv 0) pe_int (fun _ _ => rfl))) (nomark _)))), ?_⟩
    wtm_at "v"
    exact k
abbrev s_floor : Stmt := topS 17
theorem sc_floor : FnScope ["one"] ["one"] (defScope s_floor) := ⟨rfl, rfl, rfl, by decide +kernel, rfl, by decide +kernel, by decide +kernel⟩
theorem ok_floor {f : Addr} {fd : FuncData} (F : FunD K "floor" "floor" (defArgs s_floor) (defBody s_floor) (defScope s_floor) [] [] f fd) : FnG P w K mg base CX0 1 f fd ["one"] (spFloor K) := by
  refine okG (k := 0) F sc_floor (fun vs H Q E h => ?_) (fun cdv A hG outer s H vs Q E hr h => ?_)
  · obtain ⟨a, b, rfl, _⟩ := h
    rfl
  · obtain ⟨p, x, rfl, h1, b1, k⟩ := h
    refine ⟨_, (pss_one (ps_ret (pe_op op_fdivV (pe_ix (k_ix K) (pv 0) pe_int (fun _ _ => rfl)) (pe_ix (k_ix K) (pv 0) pe_int (fun _ _ => rfl))))), ?_⟩
    wtm_at "v"
    refine i_I (bd_lg b1) ?_
    exact k
end
section
local macro_rules | `(tactic| wtm_at "lkP") => `(tactic| first
  | with_reducible assumption
  | exact PartK.pt (by with_reducible assumption)
  | exact PartAt.tm (by with_reducible assumption) (by wtm_at "tm") | fail)
/-! ### the steps as one word: wtm_at "v1" a step, wtm_at "v" as many as go -/
local macro_rules | `(tactic| wtm_at "tm") => `(tactic| first
  | exact Tm.refl _
  | exact Tm.same (by with_reducible assumption)
  | exact Tm.fx (by with_reducible assumption)
  | (refine Tm.trans ?_ (Tm.same (by with_reducible assumption)); wtm_at "tm")
  | (refine Tm.trans ?_ (Tm.fx (by with_reducible assumption)); wtm_at "tm") | fail)
local macro_rules | `(tactic| wtm_at "lkT1") => `(tactic| first
  | with_reducible assumption
  | exact TpK.tp (by with_reducible assumption)
  | exact TpH.tm (by with_reducible assumption) (by wtm_at "tm")
  | exact Tp.tm (by with_reducible assumption) (by wtm_at "tm")
  | exact Tp.of (by with_reducible assumption) | fail)
local macro_rules | `(tactic| wtm_at "lkT") => `(tactic| first
  | wtm_at "lkT1"
  | exact PartAt.tpe (by wtm_at "lkP") (by rfl)
  | fail)
local macro_rules | `(tactic| wtm_at "lk") => `(tactic| first
  | assumption
  | exact b_get (by assumption) (by wtm_at "lk")
  | exact b_lst (by assumption) (by wtm_at "ne") (by wtm_at "ne") (by wtm_at "lk") | fail)
local macro_rules | `(tactic| wtm_at "lkL") => `(tactic| first
  | assumption
  | exact SqL.of (by wtm_at "lk")
  | exact b_L (by assumption) (by wtm_at "lkL") | fail)
local macro_rules | `(tactic| wtm_at "intL") => `(tactic| first | exact IntL.nil | exact IntL.cons (by wtm_at "intL") | fail)
local macro_rules | `(tactic| wtm_at "lkS0") => `(tactic| first
  | with_reducible assumption
  | exact StoreAt.same (by with_reducible assumption) (by wtm_at "lkS0") | fail)
local macro_rules | `(tactic| wtm_at "lkS") => `(tactic| first
  | with_reducible assumption
  | exact StoreAt.from (by with_reducible assumption) (by wtm_at "sm") | fail)
local macro_rules | `(tactic| wtm_at "ne") => `(tactic| first
  | assumption
  | exact Ne.symm (by assumption)
  | exact st_ne1 (by with_reducible assumption) (by wtm_at "lkS0")
  | exact st_ne2 (by with_reducible assumption) (by wtm_at "lkS0")
  | exact new_ne (by assumption) (by wtm_at "lk")
  | exact new_ne' (by assumption) (by wtm_at "lk") | fail)
local macro_rules | `(tactic| wtm_at "sm") => `(tactic| first
  | with_reducible assumption
  | exact Same.refl _
  | (refine Same.trans ?_ (by with_reducible assumption); wtm_at "sm") | fail)
local macro_rules | `(tactic| wtm_at "fx") => `(tactic| first
  | with_reducible assumption
  | exact Fx.same (Same.refl _)
  | exact Fx.same (by with_reducible assumption)
  | (refine Fx.trans ?_ (by with_reducible assumption); wtm_at "fx")
  | (refine Fx.trans ?_ (Fx.same (by with_reducible assumption)); wtm_at "fx") | fail)
local macro_rules | `(tactic| wtm_at "v0") => `(tactic| first
  | with_reducible refine i_seq ?_ | with_reducible refine i_asg ?_ | with_reducible refine i_var rfl ?_ | with_reducible refine i_c ?_ | with_reducible refine i_name ?_
  | with_reducible refine i_op ?_ | with_reducible refine i_ifS ?_ | with_reducible refine i_test ?_ | with_reducible refine i_tB ?_
  | with_reducible refine i_cons ?_ | with_reducible refine i_nil ?_ | with_reducible refine i_call ?_ | with_reducible refine i_callN ?_ | with_reducible refine i_callX ?_ | with_reducible refine i_callNX ?_ | with_reducible refine i_cb ?_
  | with_reducible refine i_tup ?_ | with_reducible refine i_lst ?_ | with_reducible refine i_ret ?_ | with_reducible refine i_retN ?_ | with_reducible refine i_drop ?_
  | with_reducible refine i_next ?_ | with_reducible refine i_par ?_ | with_reducible refine i_par2 ?_ | with_reducible refine i_ifE ?_ | with_reducible refine i_un ?_
  | with_reducible refine i_and ?_ | with_reducible refine i_or ?_ | with_reducible refine i_not ?_ | with_reducible refine i_andV ?_ | with_reducible refine i_orV ?_ | with_reducible refine i_notV ?_
  | with_reducible refine i_notV2 ?_ | with_reducible refine i_bif (A := fun _ => _) ?_ | with_reducible refine i_brk ?_ | with_reducible refine i_ctn ?_
  | with_reducible refine i_abs ?_ | with_reducible refine i_min ?_ | with_reducible refine i_max ?_ | with_reducible refine i_for ?_ | with_reducible refine i_iR1 ?_ | with_reducible refine i_iR2 ?_ | with_reducible refine i_iL ?_ | with_reducible refine i_iT ?_ | with_reducible refine i_wb ?_
  | with_reducible refine i_sl ?_ | with_reducible refine i_no ?_ | with_reducible refine i_so ?_ | with_reducible refine i_exI ?_ | with_reducible refine i_exB ?_ | with_reducible refine i_gcons ?_ | with_reducible refine i_gnil ?_ | with_reducible refine i_bm ?_ | with_reducible refine i_gsub ?_ | with_reducible refine i_lc ?_ | with_reducible refine i_yes ?_ | with_reducible refine i_iE ?_
  | with_reducible refine ite_1 ?_ | with_reducible refine i_pow6 ?_ | with_reducible refine i_pow18 ?_ | with_reducible refine i_pow30 ?_
  | with_reducible refine i_addI ?_ | with_reducible refine i_I0 ?_ | with_reducible refine i_U ?_ | with_reducible refine i_eqI ?_ | with_reducible refine i_neI ?_ | fail)
local macro_rules | `(tactic| wtm_at "v1") => `(tactic| first
  | wtm_at "v0"
  | ((with_reducible show rIx _ _ _ _ _); first | refine i_ixT (by wtm_at "lkT") rfl ?_ | refine i_ixL (by wtm_at "lkL") rfl ?_)
  | ((with_reducible show rLenU _ _ _ _); first | refine i_lenT (by wtm_at "lkT") ?_ | refine i_lenL (by wtm_at "lkL") ?_)
  | ((with_reducible show spDraw _ _ _ _); refine c_draw (by wtm_at "lkS") (by first | decide | omega) (by first | decide | omega) (by omega) ?_; intro _ _ _ _ _ _)
  | (with_reducible refine i_newTH (by first | decide | (simp; done)) ?_; intro _ _ _ _ _)
  | (with_reducible refine i_newL (by first | decide | (simp; done)) ?_; intro _ _ _ _ _) | fail)
local macro_rules | `(tactic| wtm_at "v") => `(tactic| repeat wtm_at "v1")
local macro_rules | `(tactic| wtm_at "vi") => `(tactic| repeat ((fail_if_success (with_reducible show tIfS _ _ _ _ _ _)); wtm_at "v1"))
local macro_rules | `(tactic| wtm_at "v0") => `(tactic| first | with_reducible refine ite_0 ?_ | with_reducible refine ite_n0 ?_ | with_reducible refine ite_n1 ?_ | fail)
variable {P : Program} {w : World} {K : PySem.W.Frag} {mg : Str → Option Value} {base : Heap}
abbrev s_is_whole : Stmt := topS 7
theorem sc_is_whole : FnScope ["thing"] ["thing"] (defScope s_is_whole) := ⟨rfl, rfl, rfl, by decide +kernel, rfl, by decide +kernel, by decide +kernel⟩
theorem ok_is_whole {f : Addr} {fd : FuncData} {dvs : List V} {kws : List (Str × V)} (F : FunD K "is_whole" "is_whole" (defArgs s_is_whole) (defBody s_is_whole) (defScope s_is_whole) dvs kws f fd) (n_isinstance : mg "isinstance" = none) (n_int : mg "int" = none) (n_bool : mg "bool" = none) : FnG P w K mg base CX0 1 f fd ["thing"] (spWhole K) := by
  refine okG (k := 0) F sc_is_whole (fun vs H Q E h => ?_) (fun cdv A hG outer s H vs Q E hr h => ?_)
  · obtain ⟨a, rfl, _⟩ := h
    rfl
  · obtain ⟨v, rfl, hv, k⟩ := h
    obtain ⟨t, b, c, h1, h2, h3, h4⟩ := hv.ty
    refine ⟨_, (pss_one (ps_ret (pe_and (pe_callB (k_isi K) (by rfl) n_isinstance bt_isinstance (pa_cons (pv 0) (pa_cons (pe_bltn (v := .ty "int") (by rfl) n_int (by decide +kernel) rfl) pa_nil))) (pe_one (pe_not (pe_callB (k_isi K) (by rfl) n_isinstance bt_isinstance (pa_cons (pv 0) (pa_cons (pe_bltn (v := .ty "bool") (by rfl) n_bool (by decide +kernel) rfl) pa_nil)))))))), ?_⟩
    wtm_at "v"
    refine i_isi h1 h2 ?_
    wtm_at "v"
    rw [← h4] at k
    refine ite_b (fun e => ?_) (fun e => ?_)
    · wtm_at "v"
      refine i_isi h1 h3 ?_
      wtm_at "v"
      rw [e] at k
      exact k
    · wtm_at "v"
      rw [e] at k
      exact k
abbrev s_is_part : Stmt := topS 9
theorem sc_is_part : FnScope ["thing", "number"] ["thing"] (defScope s_is_part) := ⟨rfl, rfl, rfl, by decide +kernel, rfl, by decide +kernel, by decide +kernel⟩
theorem ok_is_part {f : Addr} {fd : FuncData} {dvs : List V} {kws : List (Str × V)} (F : FunD K "is_part" "is_part" (defArgs s_is_part) (defBody s_is_part) (defScope s_is_part) dvs kws f fd) (O_is_whole : Own P w K mg base CX0 1 "is_whole" ["thing"] [] (spWhole K)) (O_divisor : Own P w K mg base CX0 1 "divisor" ["one", "other"] [] spDiv)
    (n_isinstance : mg "isinstance" = none) (n_len : mg "len" = none) (n_all : mg "all" = none) (n_tuple : mg "tuple" = none) : FnG P w K mg base CX0 2 f fd ["thing"] (spIsPart K) := by
  refine okG (k := 1) F sc_is_part (fun vs H Q E h => ?_) (fun cdv A hG outer s H vs Q E hr h => ?_)
  · obtain ⟨a, b, c, rfl, _⟩ := h
    rfl
  · obtain ⟨v, b, c, rfl, hv, k⟩ := h
    refine ⟨_, (pss_cons (ps_if ((pw_or (pt_not (pt_val (pe_callB (k_isi K) (by rfl) n_isinstance bt_isinstance (pa_cons (pv 0) (pa_cons (pe_bltn (v := .ty "tuple") (by rfl) n_tuple (by decide +kernel) rfl) pa_nil))))) (pw_or (pt_cmpR (k_ne K hr) (pe_callB (k_len K) (by rfl) n_len bt_len (pa_cons (pv 0) pa_nil)) pe_int (nomark _)) (pw_or1 (pt_not (pt_val (pe_callB (k_all K rfl) (by rfl) n_all bt_all (pa_cons (pe_lc (own := [("number", 1)]) rfl sc_is_part.nd (k_piT K (pv 0)) (blkOk_by (N := ["thing", "number"]) (sc := defScope s_is_part) (by decide +kernel)) (fun _ _ _ _ _ => (pg_name (i := 1) sc_is_part.nd rfl (Or.inl rfl))) (fun _ _ _ _ _ => pts_nil) (fun _ _ _ _ _ => (pe_own O_is_whole hG (hr.mono (by decide)) pass0 (pa_cons (pv 1) pa_nil)))) pa_nil)))))))).pt (pss_one (ps_ret pe_bl)) pss_nil) (pss_one (ps_ret (pe_and (pe_cmpR op_gt (pe_ix (k_ix K) (pv 0) pe_int (fun _ _ => rfl)) pe_int (nomark _)) (pe_one (pe_cmpR (k_eq K hr) (pe_own O_divisor hG (hr.mono (by decide)) pass0 (pa_cons (pe_ix (k_ix K) (pv 0) pe_int (fun _ _ => rfl)) (pa_cons (pe_ix (k_ix K) (pv 0) pe_int (fun _ _ => rfl)) pa_nil))) pe_int (nomark _))))))), ?_⟩
    have pair : ∀ (p : Addr) (x y : V), Tp K H p [x, y] → Known K H x → Known K H y → True := fun _ _ _ _ _ _ => trivial
    cases hv with
    | oth h =>
      obtain ⟨t, b, c, h1, h2, h3, h4, h5⟩ := h.ty
      wtm_at "v"
      refine i_isi h1 h5 ?_
      wtm_at "v"
      exact k _ (Same.refl _)
    | @len p xs h hl =>
      wtm_at "v"
      refine i_isi (ty_tup h) kb_tuple_tuple ?_
      wtm_at "v"
      with_reducible refine ite_n (fun _ => ?_) (fun c => absurd c (by omega))
      wtm_at "v"
      exact k _ (Same.refl _)
    | @odd p x y h hx hy ho =>
      wtm_at "v"
      refine i_isi (ty_tup h) kb_tuple_tuple ?_
      wtm_at "v"
      with_reducible refine ite_n (fun c => absurd rfl c) (fun _ => ?_)
      wtm_at "v"
      refine i_itT h ?_
      refine i_lcT h (fun i => ([V.bl (isW x), V.bl (isW y)]).take i) rfl ?_ ?_
      · intro A i z H4 nA hz hi sA hA
        wtm_at "v"
        have hi2 : i = 0 ∨ i = 1 := by simp at hi; omega
        have kz : Known K H4 z := by
          rcases hi2 with rfl | rfl
          · obtain rfl : x = z := by simpa using hz
            exact hx.same sA
          · obtain rfl : y = z := by simpa using hz
            exact hy.same sA
        refine ⟨rfl, ?_⟩
        wtm_at "v"
        refine c_whole kz ?_
        refine lc_yes nA hA ?_ (by simp; omega) sA
        rcases hi2 with rfl | rfl
        · obtain rfl : x = z := by simpa using hz
          rfl
        · obtain rfl : y = z := by simpa using hz
          rfl
      intro p4 H4 n4 s4 h4
      refine ⟨p4, [isW x, isW y], rfl, SqL.of h4, ?_⟩
      rw [show [isW x, isW y].all id = (isW x && isW y) from by simp, ho]
      wtm_at "v"
      exact k _ (by wtm_at "sm")
    | @two p a b h ha hb =>
      wtm_at "v"
      refine i_isi (ty_tup h) kb_tuple_tuple ?_
      wtm_at "v"
      with_reducible refine ite_n (fun c => absurd rfl c) (fun _ => ?_)
      wtm_at "v"
      refine i_itT h ?_
      refine i_lcT h (fun i => ([V.bl true, V.bl true]).take i) rfl ?_ ?_
      · intro A i z H4 nA hz hi sA hA
        wtm_at "v"
        have hi2 : i = 0 ∨ i = 1 := by simp at hi; omega
        have kz : ∃ n, z = .int n := by
          rcases hi2 with rfl | rfl
          · exact ⟨a, by simpa using hz.symm⟩
          · exact ⟨b, by simpa using hz.symm⟩
        obtain ⟨n, rfl⟩ := kz
        refine ⟨rfl, ?_⟩
        wtm_at "v"
        refine c_whole (.nt (.int _)) ?_
        refine lc_yes nA hA ?_ (by simp; omega) sA
        rcases hi2 with rfl | rfl <;> rfl
      intro p4 H4 n4 s4 h4
      refine ⟨p4, [true, true], rfl, SqL.of h4, ?_⟩
      wtm_at "v"
      refine ite_n1 ?_
      wtm_at "v"
      with_reducible refine ite_d (fun c => ?_) (fun c => ?_)
      · wtm_at "v"
        refine c_div ?_
        wtm_at "v"
        have k' := k H4 (by wtm_at "sm")
        rw [decide_eq_true c, Bool.true_and] at k'
        rw [show decide ((Int.gcd a b : Int) = 1) = decide (Int.gcd a b = 1) from decide_eq_decide.mpr (by omega)]
        exact k'
      · wtm_at "v"
        have k' := k H4 (by wtm_at "sm")
        rw [decide_eq_false c, Bool.false_and] at k'
        exact k'
abbrev s_is_above : Stmt := topS 10
theorem sc_is_above : FnScope ["thing"] ["thing"] (defScope s_is_above) := ⟨rfl, rfl, rfl, by decide +kernel, rfl, by decide +kernel, by decide +kernel⟩
theorem ok_is_above {f : Addr} {fd : FuncData} {dvs : List V} {kws : List (Str × V)} (F : FunD K "is_above" "is_above" (defArgs s_is_above) (defBody s_is_above) (defScope s_is_above) dvs kws f fd) (O_is_part : Own P w K mg base CX0 2 "is_part" ["thing"] [] (spIsPart K)) : FnG P w K mg base CX0 3 f fd ["thing"] (spTh K fAbove) := by
  refine okG (k := 2) F sc_is_above (fun vs H Q E h => ?_) (fun cdv A hG outer s H vs Q E hr h => ?_)
  · obtain ⟨a, rfl, _⟩ := h
    rfl
  · obtain ⟨v, rfl, h⟩ := h
    refine ⟨_, (pss_one (ps_ret (pe_and (pe_own O_is_part hG (hr.mono (by decide)) pass0 (pa_cons (pv 0) pa_nil)) (pe_one (pe_cmpR op_gt (pe_ix (k_ix K) (pv 0) pe_int (fun _ _ => rfl)) pe_int (nomark _)))))), ?_⟩
    rcases h with ⟨c, hv, k⟩ | ⟨p, x, rfl, h1, b, k⟩
    · wtm_at "v"
      refine c_isPart hv (fun H1 s1 => ?_)
      wtm_at "v"
      exact k _ s1
    · wtm_at "v"
      refine c_isPart (h1.thing b) (fun H1 s1 => ?_)
      wtm_at "v"
      rw [show decide (0 < x.num) = fAbove x from decide_eq_decide.mpr num_pos_iff]
      exact k _ s1
abbrev s_is_share : Stmt := topS 11
theorem sc_is_share : FnScope ["thing"] ["thing"] (defScope s_is_share) := ⟨rfl, rfl, rfl, by decide +kernel, rfl, by decide +kernel, by decide +kernel⟩
theorem ok_is_share {f : Addr} {fd : FuncData} {dvs : List V} {kws : List (Str × V)} (F : FunD K "is_share" "is_share" (defArgs s_is_share) (defBody s_is_share) (defScope s_is_share) dvs kws f fd) (O_is_above : Own P w K mg base CX0 3 "is_above" ["thing"] [] (spTh K fAbove)) : FnG P w K mg base CX0 4 f fd ["thing"] (spTh K fShare) := by
  refine okG (k := 3) F sc_is_share (fun vs H Q E h => ?_) (fun cdv A hG outer s H vs Q E hr h => ?_)
  · obtain ⟨a, rfl, _⟩ := h
    rfl
  · obtain ⟨v, rfl, h⟩ := h
    refine ⟨_, (pss_one (ps_ret (pe_and (pe_own O_is_above hG (hr.mono (by decide)) pass0 (pa_cons (pv 0) pa_nil)) (pe_one (pe_cmpR op_le (pe_ix (k_ix K) (pv 0) pe_int (fun _ _ => rfl)) (pe_ix (k_ix K) (pv 0) pe_int (fun _ _ => rfl)) (nomark _)))))), ?_⟩
    rcases h with ⟨c, hv, k⟩ | ⟨p, x, rfl, h1, b, k⟩
    · wtm_at "v"
      refine c_thN hv (fun H1 s1 => ?_)
      wtm_at "v"
      exact k _ s1
    · wtm_at "v"
      refine c_thP h1 b (fun H1 s1 => ?_)
      wtm_at "v"
      with_reducible refine ite_d (fun c => ?_) (fun c => ?_)
      · wtm_at "v"
        have k' := k H1 s1
        rw [show fShare x = decide (x ≤ 1) from by simp [fShare, c]] at k'
        rw [show decide (x.num ≤ (x.den : Int)) = decide (x ≤ 1) from decide_eq_decide.mpr num_le_den_iff]
        exact k'
      · have k' := k H1 s1
        rw [show fShare x = false from by simp [fShare, c]] at k'
        exact k'
end
section
local macro_rules | `(tactic| wtm_at "lkP") => `(tactic| first
  | with_reducible assumption
  | exact PartK.pt (by with_reducible assumption)
  | exact PartAt.tm (by with_reducible assumption) (by wtm_at "tm") | fail)
/-! ### the steps as one word: wtm_at "v1" a step, wtm_at "v" as many as go -/
local macro_rules | `(tactic| wtm_at "tm") => `(tactic| first
  | exact Tm.refl _
  | exact Tm.same (by with_reducible assumption)
  | exact Tm.fx (by with_reducible assumption)
  | (refine Tm.trans ?_ (Tm.same (by with_reducible assumption)); wtm_at "tm")
  | (refine Tm.trans ?_ (Tm.fx (by with_reducible assumption)); wtm_at "tm") | fail)
local macro_rules | `(tactic| wtm_at "lkT1") => `(tactic| first
  | with_reducible assumption
  | exact TpK.tp (by with_reducible assumption)
  | exact TpH.tm (by with_reducible assumption) (by wtm_at "tm")
  | exact Tp.tm (by with_reducible assumption) (by wtm_at "tm")
  | exact Tp.of (by with_reducible assumption) | fail)
local macro_rules | `(tactic| wtm_at "lkT") => `(tactic| first
  | wtm_at "lkT1"
  | exact PartAt.tpe (by wtm_at "lkP") (by rfl)
  | fail)
local macro_rules | `(tactic| wtm_at "lk") => `(tactic| first
  | assumption
  | exact b_get (by assumption) (by wtm_at "lk")
  | exact b_lst (by assumption) (by wtm_at "ne") (by wtm_at "ne") (by wtm_at "lk") | fail)
local macro_rules | `(tactic| wtm_at "lkL") => `(tactic| first
  | assumption
  | exact SqL.of (by wtm_at "lk")
  | exact b_L (by assumption) (by wtm_at "lkL") | fail)
local macro_rules | `(tactic| wtm_at "intL") => `(tactic| first | exact IntL.nil | exact IntL.cons (by wtm_at "intL") | fail)
local macro_rules | `(tactic| wtm_at "lkS0") => `(tactic| first
  | with_reducible assumption
  | exact StoreAt.same (by with_reducible assumption) (by wtm_at "lkS0") | fail)
local macro_rules | `(tactic| wtm_at "lkS") => `(tactic| first
  | with_reducible assumption
  | exact StoreAt.from (by with_reducible assumption) (by wtm_at "sm") | fail)
local macro_rules | `(tactic| wtm_at "ne") => `(tactic| first
  | assumption
  | exact Ne.symm (by assumption)
  | exact st_ne1 (by with_reducible assumption) (by wtm_at "lkS0")
  | exact st_ne2 (by with_reducible assumption) (by wtm_at "lkS0")
  | exact new_ne (by assumption) (by wtm_at "lk")
  | exact new_ne' (by assumption) (by wtm_at "lk") | fail)
local macro_rules | `(tactic| wtm_at "sm") => `(tactic| first
  | with_reducible assumption
  | exact Same.refl _
  | (refine Same.trans ?_ (by with_reducible assumption); wtm_at "sm") | fail)
local macro_rules | `(tactic| wtm_at "fx") => `(tactic| first
  | with_reducible assumption
  | exact Fx.same (Same.refl _)
  | exact Fx.same (by with_reducible assumption)
  | (refine Fx.trans ?_ (by with_reducible assumption); wtm_at "fx")
  | (refine Fx.trans ?_ (Fx.same (by with_reducible assumption)); wtm_at "fx") | fail)
local macro_rules | `(tactic| wtm_at "v0") => `(tactic| first
  | with_reducible refine i_seq ?_ | with_reducible refine i_asg ?_ | with_reducible refine i_var rfl ?_ | with_reducible refine i_c ?_ | with_reducible refine i_name ?_
  | with_reducible refine i_op ?_ | with_reducible refine i_ifS ?_ | with_reducible refine i_test ?_ | with_reducible refine i_tB ?_
  | with_reducible refine i_cons ?_ | with_reducible refine i_nil ?_ | with_reducible refine i_call ?_ | with_reducible refine i_callN ?_ | with_reducible refine i_callX ?_ | with_reducible refine i_callNX ?_ | with_reducible refine i_cb ?_
  | with_reducible refine i_tup ?_ | with_reducible refine i_lst ?_ | with_reducible refine i_ret ?_ | with_reducible refine i_retN ?_ | with_reducible refine i_drop ?_
  | with_reducible refine i_next ?_ | with_reducible refine i_par ?_ | with_reducible refine i_par2 ?_ | with_reducible refine i_ifE ?_ | with_reducible refine i_un ?_
  | with_reducible refine i_and ?_ | with_reducible refine i_or ?_ | with_reducible refine i_not ?_ | with_reducible refine i_andV ?_ | with_reducible refine i_orV ?_ | with_reducible refine i_notV ?_
  | with_reducible refine i_notV2 ?_ | with_reducible refine i_bif (A := fun _ => _) ?_ | with_reducible refine i_brk ?_ | with_reducible refine i_ctn ?_
  | with_reducible refine i_abs ?_ | with_reducible refine i_min ?_ | with_reducible refine i_max ?_ | with_reducible refine i_for ?_ | with_reducible refine i_iR1 ?_ | with_reducible refine i_iR2 ?_ | with_reducible refine i_iL ?_ | with_reducible refine i_iT ?_ | with_reducible refine i_wb ?_
  | with_reducible refine i_sl ?_ | with_reducible refine i_no ?_ | with_reducible refine i_so ?_ | with_reducible refine i_exI ?_ | with_reducible refine i_exB ?_ | with_reducible refine i_gcons ?_ | with_reducible refine i_gnil ?_ | with_reducible refine i_bm ?_ | with_reducible refine i_gsub ?_ | with_reducible refine i_lc ?_ | with_reducible refine i_yes ?_ | with_reducible refine i_iE ?_
  | with_reducible refine ite_1 ?_ | with_reducible refine i_pow6 ?_ | with_reducible refine i_pow18 ?_ | with_reducible refine i_pow30 ?_
  | with_reducible refine i_addI ?_ | with_reducible refine i_I0 ?_ | with_reducible refine i_U ?_ | with_reducible refine i_eqI ?_ | with_reducible refine i_neI ?_ | fail)
local macro_rules | `(tactic| wtm_at "v1") => `(tactic| first
  | wtm_at "v0"
  | ((with_reducible show rIx _ _ _ _ _); first | refine i_ixT (by wtm_at "lkT") rfl ?_ | refine i_ixL (by wtm_at "lkL") rfl ?_)
  | ((with_reducible show rLenU _ _ _ _); first | refine i_lenT (by wtm_at "lkT") ?_ | refine i_lenL (by wtm_at "lkL") ?_)
  | ((with_reducible show spDraw _ _ _ _); refine c_draw (by wtm_at "lkS") (by first | decide | omega) (by first | decide | omega) (by omega) ?_; intro _ _ _ _ _ _)
  | (with_reducible refine i_newTH (by first | decide | (simp; done)) ?_; intro _ _ _ _ _)
  | (with_reducible refine i_newL (by first | decide | (simp; done)) ?_; intro _ _ _ _ _) | fail)
local macro_rules | `(tactic| wtm_at "v") => `(tactic| repeat wtm_at "v1")
local macro_rules | `(tactic| wtm_at "vi") => `(tactic| repeat ((fail_if_success (with_reducible show tIfS _ _ _ _ _ _)); wtm_at "v1"))
/-! ### data shown and compared: found by themselves -/
local macro_rules | `(tactic| wtm_at "bd") => `(tactic| first | assumption | exact Bd.mono (by assumption) (by decide) | fail)
local macro_rules | `(tactic| wtm_at "bi") => `(tactic| first | exact natAbs_up (by assumption) (by decide) | exact natAbs_up (n := 64) (by decide) (by decide) | exact natAbs_up (n := 64) (by omega) (by decide) | fail)
local macro_rules | `(tactic| wtm_at "dpA") => `(tactic| first | exact DpAll.nil | exact DpAll.cons (by wtm_at "dp") (by wtm_at "dpA") | fail)
local macro_rules | `(tactic| wtm_at "dp") => `(tactic| first
  | exact Dp.int _ | exact Dp.bl _ | exact Dp.non | exact Dp.str _
  | exact dp_PA (by wtm_at "lkP")
  | exact Dp.tup (Tp.sq (by wtm_at "lkT")) (by wtm_at "dpA")
  | exact Dp.lst (by wtm_at "lkL") (by wtm_at "dpA") | fail)
local macro_rules | `(tactic| wtm_at "okA") => `(tactic| first | exact OkAll.nil' | exact OkAll.cons' (by wtm_at "ok") (by wtm_at "okA") | fail)
local macro_rules | `(tactic| wtm_at "ok") => `(tactic| first
  | ((with_reducible show Ok _ _ (dP _)); exact ok_P (by wtm_at "bd"))
  | exact Ok.int (by wtm_at "bi") | exact Ok.bool _ | exact Ok.none
  | ((with_reducible show Ok _ _ (.list _)); exact Ok.lst' (by wtm_at "okA")) | ((with_reducible show Ok _ _ (.tuple _)); exact Ok.tup' (by wtm_at "okA")) | fail)
local macro_rules | `(tactic| wtm_at "shA") => `(tactic| first | exact ShAll.nil | (refine ShAll.cons ?ha ?hb; (case ha => wtm_at "sh"); (case hb => wtm_at "shA")) | exact ShAll.ints _ | fail)
local macro_rules | `(tactic| wtm_at "sh") => `(tactic| first
  | ((with_reducible show Sh _ (dP _)); exact sh_P _)
  | exact Sh.int _ | exact Sh.bool _ | exact Sh.none | (refine Sh.lst ?_; wtm_at "shA") | (refine Sh.tup ?_; wtm_at "shA") | fail)
local macro_rules | `(tactic| wtm_at "v0") => `(tactic| first
  | ((with_reducible refine i_lens ?ha ?hb ?_); (case ha => rfl); (case hb => rfl))
  | with_reducible refine ite_0 ?_ | with_reducible refine ite_n0 ?_ | with_reducible refine ite_n1 ?_
  | ((with_reducible show rEqU _ (.ref _) (.ref _) _ _); refine i_eqP (by wtm_at "lkP") (by wtm_at "lkP") ?_)
  | ((with_reducible show rNeU _ (.ref _) (.ref _) _ _); refine i_neP (by wtm_at "lkP") (by wtm_at "lkP") ?_)
  | ((with_reducible show rEqU _ (.ref _) (.ref _) _ _); refine i_eqD (by wtm_at "dp") (by wtm_at "dp") (Sh.shaped (n := 9) (by wtm_at "sh") (by decide)) (Sh.shaped (n := 9) (by wtm_at "sh") (by decide)) ?_)
  | ((with_reducible show rNeU _ (.ref _) (.ref _) _ _); refine i_neD (by wtm_at "dp") (by wtm_at "dp") (Sh.shaped (n := 9) (by wtm_at "sh") (by decide)) (Sh.shaped (n := 9) (by wtm_at "sh") (by decide)) ?_)
  | ((with_reducible show rReprD _ _ _ _); refine i_repr (by wtm_at "dp") (by wtm_at "ok") (Nat.le_of_ble_eq_true rfl) (Nat.le_of_ble_eq_true rfl) ?_) | fail)
/-! calls of the reckoning; what is alike is alike -/
local macro_rules | `(tactic| wtm_at "v0") => `(tactic| first
  | ((with_reducible show spPP _ CT _ _ _ _ _); refine c_PP (by wtm_at "lkP") (by wtm_at "lkP") (by wtm_at "bd") (by wtm_at "bd") True.intro ?_; intro _ _ _ _)
  | ((with_reducible show spLess _ _ _ _ _); refine c_less (by wtm_at "lkP") (by wtm_at "lkP") (by wtm_at "bd") (by wtm_at "bd") ?_)
  | with_reducible refine ite_n (fun c => absurd rfl c) (fun _ => ?_)
  | ((with_reducible show rNeU _ (.bl _) (.bl _) _ _); refine i_neB rfl ?_)
  | ((with_reducible show rEqU _ (.bl _) (.bl _) _ _); refine i_eqB rfl ?_)
  | ((with_reducible show rNeU _ (.str _) (.str _) _ _); refine i_neS rfl ?_)
  | ((with_reducible show rEqU _ (.str _) (.str _) _ _); refine i_eqS rfl ?_) | fail)
/-! deep data -/
local macro_rules | `(tactic| wtm_at "td") => `(tactic| first
  | with_reducible assumption
  | exact TD.tm (by with_reducible assumption) (by wtm_at "tm")
  | exact PartAt.td (by wtm_at "lkP") | fail)
local macro_rules | `(tactic| wtm_at "tl") => `(tactic| first
  | with_reducible assumption
  | exact TL.tm (by with_reducible assumption) (by wtm_at "tm") | fail)
variable {P : Program} {w : World} {K : PySem.W.Frag} {mg : Str → Option Value} {base : Heap}
abbrev s_need_share : Stmt := topS 19
theorem sc_need_share : FnScope ["share"] ["share"] (defScope s_need_share) := ⟨rfl, rfl, rfl, by decide +kernel, rfl, by decide +kernel, by decide +kernel⟩
theorem ok_need_share {f : Addr} {fd : FuncData} {dvs : List V} {kws : List (Str × V)} (F : FunD K "need_share" "need_share" (defArgs s_need_share) (defBody s_need_share) (defScope s_need_share) dvs kws f fd) (O_is_share : Own P w K mg base CX0 4 "is_share" ["thing"] [] (spTh K fShare)) : FnG P w K mg base CX0 5 f fd ["share"] (spNeed K) := by
  refine okG (k := 4) F sc_need_share (fun vs H Q E h => ?_) (fun cdv A hG outer s H vs Q E hr h => ?_)
  · obtain ⟨a, b, rfl, _⟩ := h
    rfl
  · obtain ⟨p, x, rfl, h1, b, x0, x1, k⟩ := h
    refine ⟨_, (pss_one (ps_if (pt_not (pt_val (pe_own O_is_share hG (hr.mono (by decide)) pass0 (pa_cons (pv 0) pa_nil)))) (pss_one ps_never) pss_nil)), ?_⟩
    wtm_at "v"
    refine c_thP h1 b (fun H1 s1 => ?_)
    rw [show fShare x = true from by simp [fShare, x0, x1]]
    wtm_at "v"
    exact k _ s1
abbrev s_paid_next : Stmt := topS 20
theorem sc_paid_next : FnScope ["ahead", "total", "last", "share", "now", "in_all", "debt", "new", "kept"] ["ahead", "total", "last", "share"] (defScope s_paid_next) := ⟨rfl, rfl, rfl, by decide +kernel, rfl, by decide +kernel, by decide +kernel⟩
theorem ok_paid_next {f c_NOUGHT : Addr} {fd : FuncData} {dvs : List V} {kws : List (Str × V)} (F : FunD K "paid_next" "paid_next" (defArgs s_paid_next) (defBody s_paid_next) (defScope s_paid_next) dvs kws f fd) (mg_NOUGHT : mg "NOUGHT" = some (.ref c_NOUGHT)) (t_NOUGHT : PartK K c_NOUGHT 0)
    (O_plus : Own P w K mg base CX0 3 "plus" ["one", "other"] [] (spPP K CT (· + ·))) (O_less : Own P w K mg base CX0 3 "less" ["one", "other"] [] (spPP K CT (· - ·))) (O_times : Own P w K mg base CX0 3 "times" ["one", "other"] [] (spPP K CT (· * ·))) (O_is_less : Own P w K mg base CX0 1 "is_less" ["one", "other"] [] (spLess K)) : FnG P w K mg base CX0 4 f fd ["ahead", "total", "last", "share"] (spNext K) := by
  refine okG (k := 3) F sc_paid_next (fun vs H Q E h => ?_) (fun cdv A hG outer s H vs Q E hr h => ?_)
  · obtain ⟨a, b, c, d, e, f, g, h, i, j, l, m, rfl, _⟩ := h
    rfl
  · obtain ⟨pa, pt, pl, px, r, t, l, x, D, E, B, C, rfl, h1, h2, h3, h4, L, S, t1, l1, r1, hc, k⟩ := h
    obtain ⟨_, a, b, c, e, hT, ha, hb, hcd⟩ := h1.row
    cases e
    have bt : Bd 1900 t := L.bdL t1 (by omega)
    have bl : Bd 1900 l := L.bdL l1 (by omega)
    have bx : Bd 1900 x := L.bdR S.dv (by decide)
    have nD : Dv D (B + B) (t - l) := t1.sub l1
    have bn : Bd 1900 (t - l) := L.bdL nD (by omega)
    have kD : Dv (D * E) (1 * (B + B)) (x * (t - l)) := by
      have := S.dv.mul nD
      rwa [Nat.mul_comm E D] at this
    have bk : Bd 1900 (x * (t - l)) := L.bd kD (by omega)
    have bd : Bd 1900 r.debt := L.bd r1.debt (by omega)
    have bi : Bd 1900 r.inall := L.bd r1.inall (by omega)
    have nE : Dv (D * E) (B + B) (t - l) := nD.up (Nat.dvd_mul_right ..) (Nat.le_refl _)
    have bn1 : Bd 1900 (t - l - r.debt) := L.bd (nE.sub r1.debt) (by omega)
    have bn2 : Bd 1900 (t - l - x * (t - l)) := L.bd (nE.sub kD) (by omega)
    refine ⟨_, (pss_cons (ps_asg (pv 0) (k_gt K 3 rfl (pgs_cons (pg_name (i := 4) sc_paid_next.nd rfl (Or.inl rfl)) (pgs_cons (pg_name (i := 5) sc_paid_next.nd rfl (Or.inl rfl)) (pgs_cons (pg_name (i := 6) sc_paid_next.nd rfl (Or.inl rfl)) pgs_nil))))) (pss_cons (ps_set (i := 7) sc_paid_next.nd rfl (Or.inl rfl) (pe_own O_less hG (hr.mono (by decide)) pass0 (pa_cons (pv 1) (pa_cons (pv 2) pa_nil)))) (pss_cons (ps_if (pt_cmpR op_le (pe_ix (k_ix K) (pv 7) pe_int (fun _ _ => rfl)) pe_int (nomark _)) (pss_one (ps_ret (pe_tup (pa_cons (pe_glob (v := .ref c_NOUGHT) (by rfl) mg_NOUGHT rfl) (pa_cons (pv 5) (pa_cons (pe_own O_less hG (hr.mono (by decide)) pass0 (pa_cons (pv 6) (pa_cons (pv 7) pa_nil))) pa_nil)))))) pss_nil) (pss_cons (ps_set (i := 8) sc_paid_next.nd rfl (Or.inl rfl) (pe_own O_times hG (hr.mono (by decide)) pass0 (pa_cons (pv 3) (pa_cons (pv 7) pa_nil)))) (pss_cons (ps_if (pt_val (pe_own O_is_less hG (hr.mono (by decide)) pass0 (pa_cons (pv 6) (pa_cons (pv 8) pa_nil)))) (pss_one (ps_set (i := 8) sc_paid_next.nd rfl (Or.inl rfl) (pv 6))) pss_nil) (pss_cons (ps_set (i := 4) sc_paid_next.nd rfl (Or.inl rfl) (pe_own O_less hG (hr.mono (by decide)) pass0 (pa_cons (pv 7) (pa_cons (pv 8) pa_nil)))) (pss_one (ps_ret (pe_tup (pa_cons (pv 4) (pa_cons (pe_own O_plus hG (hr.mono (by decide)) pass0 (pa_cons (pv 5) (pa_cons (pv 4) pa_nil))) (pa_cons (pe_own O_less hG (hr.mono (by decide)) pass0 (pa_cons (pv 6) (pa_cons (pv 8) pa_nil))) pa_nil)))))))))))), ?_⟩
    wtm_at "v"
    refine i_gtup hT rfl ?_
    wtm_at "v"
    with_reducible refine ite_d (fun c => ?_) (fun c => ?_)
    · have e : payNext x r t l = ⟨0, r.inall, r.debt - (t - l)⟩ := if_pos (num_nonpos_iff.mp c)
      rw [e] at k
      wtm_at "v"
      exact k _ _ (by wtm_at "sm") (row_td (by wtm_at "lkT") (by wtm_at "lkP") (by wtm_at "lkP") (by wtm_at "lkP"))
    · have c' : ¬ t - l ≤ 0 := fun h => c (num_nonpos_iff.mpr h)
      wtm_at "v"
      with_reducible refine ite_d (fun c2 => ?_) (fun c2 => ?_)
      · have e : payNext x r t l = ⟨t - l - r.debt, r.inall + (t - l - r.debt), r.debt - r.debt⟩ := by unfold payNext; rw [if_neg c', if_pos c2]
        rw [e] at k
        wtm_at "v"
        exact k _ _ (by wtm_at "sm") (row_td (by wtm_at "lkT") (by wtm_at "lkP") (by wtm_at "lkP") (by wtm_at "lkP"))
      · have e : payNext x r t l = ⟨t - l - x * (t - l), r.inall + (t - l - x * (t - l)), r.debt - x * (t - l)⟩ := by unfold payNext; rw [if_neg c', if_neg c2]
        rw [e] at k
        wtm_at "v"
        exact k _ _ (by wtm_at "sm") (row_td (by wtm_at "lkT") (by wtm_at "lkP") (by wtm_at "lkP") (by wtm_at "lkP"))
abbrev s_in_whole_pence : Stmt := topS 21
theorem sc_in_whole_pence : FnScope ["rows", "found", "last", "now", "in_all", "debt"] ["rows"] (defScope s_in_whole_pence) := ⟨rfl, rfl, rfl, by decide +kernel, rfl, by decide +kernel, by decide +kernel⟩
theorem ok_in_whole_pence {f : Addr} {fd : FuncData} {dvs : List V} {kws : List (Str × V)} (F : FunD K "in_whole_pence" "in_whole_pence" (defArgs s_in_whole_pence) (defBody s_in_whole_pence) (defScope s_in_whole_pence) dvs kws f fd) (O_floor : Own P w K mg base CX0 1 "floor" ["one"] [] (spFloor K)) : FnG P w K mg base CX0 2 f fd ["rows"] (spWhP K) := by
  refine okG (k := 1) F sc_in_whole_pence (fun vs H Q E h => ?_) (fun cdv A hG outer s H vs Q E hr h => ?_)
  · obtain ⟨a, b, c, rfl, _⟩ := h
    rfl
  · obtain ⟨p, xs, rs, rfl, h1, h2, hl, hb, k⟩ := h
    have el : xs.length = rs.length := by simpa using h2.len
    refine ⟨_, (pss_cons (ps_set (i := 1) sc_in_whole_pence.nd rfl (Or.inl rfl) (pe_lst pa_nil)) (pss_cons (ps_set (i := 2) sc_in_whole_pence.nd rfl (Or.inl rfl) pe_int) (pss_cons (ps_for PassesOwn.never rfl (k_piL K (pv 0)) (k_gt K 3 rfl (pgs_cons (pg_name (i := 3) sc_in_whole_pence.nd rfl (Or.inl rfl)) (pgs_cons (pg_name (i := 4) sc_in_whole_pence.nd rfl (Or.inl rfl)) (pgs_cons (pg_name (i := 5) sc_in_whole_pence.nd rfl (Or.inl rfl)) pgs_nil)))) (pss_cons (ps_expr (pe_bm PySem.F.plainAttrs_list PySem.F.slot_list_append PySem.F.type_list_append (mt_append) (pv 1) (pa_cons (pe_tup (pa_cons (pe_op op_sub (pe_own O_floor hG (hr.mono (by decide)) pass0 (pa_cons (pv 4) pa_nil)) (pv 2)) (pa_cons (pe_own O_floor hG (hr.mono (by decide)) pass0 (pa_cons (pv 4) pa_nil)) (pa_cons (pv 5) pa_nil)))) pa_nil))) (pss_one (ps_set (i := 2) sc_in_whole_pence.nd rfl (Or.inl rfl) (pe_own O_floor hG (hr.mono (by decide)) pass0 (pa_cons (pv 4) pa_nil)))))) (pss_one (ps_ret (pv 1)))))), ?_⟩
    wtm_at "v"
    rename_i pf H1 n1 s1 hf
    refine i_itL (b_L s1 h1) ?_
    refine i_forL (xs := xs) (fun i σ' H' => ∃ (ys : List V) (v3 v4 v5 : Option V), σ' = [some (.ref p), some (.ref pf), some (.int (wl rs i)), v3, v4, v5] ∧ H' pf = some (.lst ys) ∧ TL K H' ys (whTo rs i) ∧ Same H H') ⟨[], none, none, none, rfl, hf, TL.nil, s1⟩ ?_ ?_ ?_
    · rintro i σ' H' _ ⟨ys, v3, v4, v5, rfl, hf, tl, sm⟩
      exact b_L sm h1
    · rintro i x σ' H2 hx ⟨ys, v3, v4, v5, rfl, hf2, tl, sm⟩
      obtain ⟨r, hr, hd⟩ := (h2.tm (Tm.same sm)).row hx
      obtain ⟨p3, a, b, c, rfl, hT, ha, hb2, hc⟩ := hd.row
      have bi : Bd 4000 r.inall := hb r (List.mem_of_getElem? hr)
      have hi : i < xs.length := (List.getElem?_eq_some_iff.mp hx).1
      have e2 : rs.getD i ⟨0, 0, 0⟩ = r := by simp [List.getD_eq_getElem?_getD, hr]
      have e1 : wl rs (i + 1) = r.inall.num.fdiv r.inall.den := by
        show fl (rs.getD i ⟨0, 0, 0⟩).inall = _
        rw [e2]
        rfl
      refine i_gtup hT rfl ?_
      wtm_at "v"
      refine i_bmL hf2 ?_
      wtm_at "v"
      refine c_floor hb2 bi ?_
      wtm_at "v"
      refine c_floor hb2 bi ?_
      wtm_at "v"
      have ly : ys.length = i := by rw [tl.len, whTo_len]
      refine i_append (by wtm_at "lk") (by omega) (fun H5 f5 h5 => ?_)
      wtm_at "v"
      refine c_floor (by wtm_at "lkP") bi ?_
      wtm_at "v"
      rename_i pt H4 n4 s4 ht
      refine ⟨ys ++ [.ref pt], some (.ref a), some (.ref b), some (.ref c), by rw [e1]; rfl, h5, ?_, same_fx1 n1 (sm.trans s4) f5⟩
      rw [whTo_succ, e2]
      have ht2 : Tp K H5 pt [.int (fl r.inall - wl rs i), .int (fl r.inall), .ref c] := (by wtm_at "lkT" : Tp K H5 pt [.int (r.inall.num.fdiv r.inall.den - wl rs i), .int (r.inall.num.fdiv r.inall.den), .ref c])
      exact TL.snoc (by wtm_at "tl") (.of ht2 (.cons (.int _) (.cons (.int _) (.cons (by wtm_at "td") .nil))))
    · rintro σ' H2 ⟨ys, v3, v4, v5, rfl, hf2, tl, sm⟩
      rw [el] at tl
      wtm_at "v"
      exact k _ ys _ n1 sm hf2 tl
abbrev s_payments : Stmt := topS 22
theorem sc_payments : FnScope ["totals", "share", "whole", "rows", "ahead", "last", "total"] ["totals", "share", "whole"] (defScope s_payments) := ⟨rfl, rfl, rfl, by decide +kernel, rfl, by decide +kernel, by decide +kernel⟩
theorem ok_paymentsL {f c_NOUGHT : Addr} {fd : FuncData} {dvs : List V} {kws : List (Str × V)} (F : FunD K "payments" "payments" (defArgs s_payments) (defBody s_payments) (defScope s_payments) dvs kws f fd) (mg_NOUGHT : mg "NOUGHT" = some (.ref c_NOUGHT)) (t_NOUGHT : PartK K c_NOUGHT 0)
    (O_need_share : Own P w K mg base CX0 5 "need_share" ["share"] [] (spNeed K)) (O_paid_next : Own P w K mg base CX0 4 "paid_next" ["ahead", "total", "last", "share"] [] (spNext K)) (O_in_whole_pence : Own P w K mg base CX0 2 "in_whole_pence" ["rows"] [] (spWhP K)) (n_tuple : mg "tuple" = none) : FnG P w K mg base CX0 6 f fd ["totals", "share", "whole"] (spPay1 K false) := by
  refine okG (k := 5) F sc_payments (fun vs H Q E h => ?_) (fun cdv A hG outer s H vs Q E hr h => ?_)
  · obtain ⟨a, b, c, d, e, g, i, j, rfl, _⟩ := h
    rfl
  · obtain ⟨p, px, w, qs, x, D, E, B, rfl, ⟨xs, h1, h2⟩, h3, L, S, hq, hB, hl, k⟩ := h
    have h1 : SqL K H p xs := by simpa using h1
    have el : xs.length = qs.length := by simpa using h2.len
    have bx : Bd 4000 x := (L.bdR S.dv (by decide)).mono (by decide)
    refine ⟨_, (pss_cons (ps_expr (pe_own O_need_share hG (hr.mono (by decide)) pass0 (pa_cons (pv 1) pa_nil))) (pss_cons (ps_set (i := 3) sc_payments.nd rfl (Or.inl rfl) (pe_lst pa_nil)) (pss_cons (ps_set (i := 4) sc_payments.nd rfl (Or.inl rfl) (pe_tup (pa_cons (pe_glob (v := .ref c_NOUGHT) (by rfl) mg_NOUGHT rfl) (pa_cons (pe_glob (v := .ref c_NOUGHT) (by rfl) mg_NOUGHT rfl) (pa_cons (pe_glob (v := .ref c_NOUGHT) (by rfl) mg_NOUGHT rfl) pa_nil))))) (pss_cons (ps_set (i := 5) sc_payments.nd rfl (Or.inl rfl) (pe_glob (v := .ref c_NOUGHT) (by rfl) mg_NOUGHT rfl)) (pss_cons (ps_for PassesOwn.never rfl (k_piL K (pv 0)) (pg_name (i := 6) sc_payments.nd rfl (Or.inl rfl)) (pss_cons (ps_set (i := 4) sc_payments.nd rfl (Or.inl rfl) (pe_own O_paid_next hG (hr.mono (by decide)) pass0 (pa_cons (pv 4) (pa_cons (pv 6) (pa_cons (pv 5) (pa_cons (pv 1) pa_nil)))))) (pss_cons (ps_set (i := 5) sc_payments.nd rfl (Or.inl rfl) (pv 6)) (pss_one (ps_expr (pe_bm PySem.F.plainAttrs_list PySem.F.slot_list_append PySem.F.type_list_append (mt_append) (pv 3) (pa_cons (pv 4) pa_nil))))))) (pss_one (ps_ret (pe_callTy (k_tupL K) (by rfl) n_tuple bt_tuple (pa_cons (pe_ifExp (pt_val (pv 2)) (pe_own O_in_whole_pence hG (hr.mono (by decide)) pass0 (pa_cons (pv 3) pa_nil)) (pv 3)) pa_nil))))))))), ?_⟩
    wtm_at "v"
    refine c_need h3 bx S.x0 S.x1 (fun H1 s1 => ?_)
    wtm_at "v"
    rename_i pr H2 n2 s2 hr2 pa H3 n3 s3 ta
    have n0 : New H pr := s1.free n2
    have s03 : Same H H3 := by wtm_at "sm"
    have hr3 := s3 _ _ hr2
    refine i_itL (b_L s03 h1) ?_
    refine i_forL (xs := xs) (fun i σ' H' => ∃ (ys : List V) (va al : Addr) (vt : Option V), σ' = [some (.ref p), some (.ref px), some (.bl w), some (.ref pr), some (.ref va), some (.ref al), vt] ∧ H' pr = some (.lst ys) ∧ TL K H' ys ((rowsTo x qs i).map dRow) ∧ TD K H' (.ref va) (dRow (rowAt x qs i)) ∧ PartAt K H' al (tot qs i) ∧ Same H H') ⟨[], pa, c_NOUGHT, none, rfl, hr3, TL.nil, row_td (by wtm_at "lkT") t_NOUGHT.pt t_NOUGHT.pt t_NOUGHT.pt, t_NOUGHT.pt, s03⟩ ?_ ?_ ?_
    · rintro i σ' H' _ ⟨ys, va, al, vt, rfl, hr4, tl, hd, ha, sm⟩
      exact b_L sm h1
    · rintro i y σ' H4 hx ⟨ys, va, al, vt, rfl, hr4, tl, hd, ha, sm⟩
      obtain ⟨pt, q, rfl, hqi, hp⟩ := (h2.tm (Tm.same sm)).part hx
      have hi : i < xs.length := (List.getElem?_eq_some_iff.mp hx).1
      have ly : ys.length = i := by rw [tl.len, List.length_map, rowsTo_len]
      have e := getD_at hqi
      have hC : i * (2 * B) + 4 * B ≤ 2 ^ 40 := by
        have := Nat.mul_le_mul (show i ≤ 122 by omega) (show 2 * B ≤ 2 ^ 31 by omega)
        omega
      wtm_at "v"
      refine c_next hd hp ha (PartAt.mono sm h3) L S (hq q (List.mem_of_getElem? hqi)) (tot_ok hq i (by omega)) (row_ok S hq i (by omega)) hC (fun v H5 s5 t5 => ?_)
      obtain ⟨pv, _, _, _, rfl, _⟩ := t5.row
      have t6 : TD K H5 (.ref pv) (dRow (rowAt x qs (i + 1))) := by
        show TD K H5 (.ref pv) (dRow (payNext x (rowAt x qs i) (tot qs (i + 1)) (tot qs i)))
        rw [e]
        exact t5
      wtm_at "v"
      refine i_bmL (by wtm_at "lk") ?_
      wtm_at "v"
      refine i_append (by wtm_at "lk") (by omega) (fun H6 f6 h6 => ?_)
      wtm_at "v"
      refine ⟨ys ++ [.ref pv], pv, pt, _, rfl, h6, ?_, by wtm_at "td", ?_, same_fx1 n0 (sm.trans s5) f6⟩
      · rw [rowsTo_succ, List.map_append]
        exact TL.snoc (by wtm_at "tl") (by wtm_at "td")
      · rw [e]
        wtm_at "lkP"
    · rintro σ' H4 ⟨ys, va, al, vt, rfl, hr4, tl, hd, ha, sm⟩
      rw [el] at tl
      wtm_at "v"
      cases w with
      | false =>
        wtm_at "v"
        refine i_tupL (SqL.of hr4) (fun a H5 n5 s5 h5 => ?_)
        exact k _ _ (by wtm_at "sm") (.of (Tp.of h5) (tl.tm (Tm.same s5)))
      | true =>
        wtm_at "v"
        refine c_whp (SqL.of hr4) tl (by rw [rowsTo_len]; omega) (fun r hr => ?_) (fun a ys2 H5 n5 s5 h5 t5 => ?_)
        · obtain ⟨j, hj, rfl⟩ := List.mem_map.mp hr
          exact (rows_bd L S hq hl hB (j + 1) (by have := List.mem_range.mp hj; omega)).2.1.mono (by decide)
        · wtm_at "v"
          refine i_tupL (SqL.of h5) (fun b H6 n6 s6 h6 => ?_)
          rw [rowsTo_len] at t5
          exact k _ _ (by wtm_at "sm") (.of (Tp.of h6) (t5.tm (Tm.same s6)))
theorem ok_paymentsT {f c_NOUGHT : Addr} {fd : FuncData} {dvs : List V} {kws : List (Str × V)} (F : FunD K "payments" "payments" (defArgs s_payments) (defBody s_payments) (defScope s_payments) dvs kws f fd) (mg_NOUGHT : mg "NOUGHT" = some (.ref c_NOUGHT)) (t_NOUGHT : PartK K c_NOUGHT 0)
    (O_need_share : Own P w K mg base CX0 5 "need_share" ["share"] [] (spNeed K)) (O_paid_next : Own P w K mg base CX0 4 "paid_next" ["ahead", "total", "last", "share"] [] (spNext K)) (O_in_whole_pence : Own P w K mg base CX0 2 "in_whole_pence" ["rows"] [] (spWhP K)) (n_tuple : mg "tuple" = none) : FnG P w K mg base CX0 6 f fd ["totals", "share", "whole"] (spPay1 K true) := by
  refine okG (k := 5) F sc_payments (fun vs H Q E h => ?_) (fun cdv A hG outer s H vs Q E hr h => ?_)
  · obtain ⟨a, b, c, d, e, g, i, j, rfl, _⟩ := h
    rfl
  · obtain ⟨p, px, w, qs, x, D, E, B, rfl, ⟨xs, h1, h2⟩, h3, L, S, hq, hB, hl, k⟩ := h
    have h1 : Tp K H p xs := by simpa using h1
    have el : xs.length = qs.length := by simpa using h2.len
    have bx : Bd 4000 x := (L.bdR S.dv (by decide)).mono (by decide)
    refine ⟨_, (pss_cons (ps_expr (pe_own O_need_share hG (hr.mono (by decide)) pass0 (pa_cons (pv 1) pa_nil))) (pss_cons (ps_set (i := 3) sc_payments.nd rfl (Or.inl rfl) (pe_lst pa_nil)) (pss_cons (ps_set (i := 4) sc_payments.nd rfl (Or.inl rfl) (pe_tup (pa_cons (pe_glob (v := .ref c_NOUGHT) (by rfl) mg_NOUGHT rfl) (pa_cons (pe_glob (v := .ref c_NOUGHT) (by rfl) mg_NOUGHT rfl) (pa_cons (pe_glob (v := .ref c_NOUGHT) (by rfl) mg_NOUGHT rfl) pa_nil))))) (pss_cons (ps_set (i := 5) sc_payments.nd rfl (Or.inl rfl) (pe_glob (v := .ref c_NOUGHT) (by rfl) mg_NOUGHT rfl)) (pss_cons (ps_for PassesOwn.never rfl (k_piT K (pv 0)) (pg_name (i := 6) sc_payments.nd rfl (Or.inl rfl)) (pss_cons (ps_set (i := 4) sc_payments.nd rfl (Or.inl rfl) (pe_own O_paid_next hG (hr.mono (by decide)) pass0 (pa_cons (pv 4) (pa_cons (pv 6) (pa_cons (pv 5) (pa_cons (pv 1) pa_nil)))))) (pss_cons (ps_set (i := 5) sc_payments.nd rfl (Or.inl rfl) (pv 6)) (pss_one (ps_expr (pe_bm PySem.F.plainAttrs_list PySem.F.slot_list_append PySem.F.type_list_append (mt_append) (pv 3) (pa_cons (pv 4) pa_nil))))))) (pss_one (ps_ret (pe_callTy (k_tupL K) (by rfl) n_tuple bt_tuple (pa_cons (pe_ifExp (pt_val (pv 2)) (pe_own O_in_whole_pence hG (hr.mono (by decide)) pass0 (pa_cons (pv 3) pa_nil)) (pv 3)) pa_nil))))))))), ?_⟩
    wtm_at "v"
    refine c_need h3 bx S.x0 S.x1 (fun H1 s1 => ?_)
    wtm_at "v"
    rename_i pr H2 n2 s2 hr2 pa H3 n3 s3 ta
    have n0 : New H pr := s1.free n2
    have s03 : Same H H3 := by wtm_at "sm"
    have hr3 := s3 _ _ hr2
    refine i_itT (Tp.mono s03 h1) ?_
    refine i_forT (xs := xs) (fun i σ' H' => ∃ (ys : List V) (va al : Addr) (vt : Option V), σ' = [some (.ref p), some (.ref px), some (.bl w), some (.ref pr), some (.ref va), some (.ref al), vt] ∧ H' pr = some (.lst ys) ∧ TL K H' ys ((rowsTo x qs i).map dRow) ∧ TD K H' (.ref va) (dRow (rowAt x qs i)) ∧ PartAt K H' al (tot qs i) ∧ Same H H') ⟨[], pa, c_NOUGHT, none, rfl, hr3, TL.nil, row_td (by wtm_at "lkT") t_NOUGHT.pt t_NOUGHT.pt t_NOUGHT.pt, t_NOUGHT.pt, s03⟩ ?_ ?_ ?_
    · rintro i σ' H' _ ⟨ys, va, al, vt, rfl, hr4, tl, hd, ha, sm⟩
      exact Tp.mono sm h1
    · rintro i y σ' H4 hx ⟨ys, va, al, vt, rfl, hr4, tl, hd, ha, sm⟩
      obtain ⟨pt, q, rfl, hqi, hp⟩ := (h2.tm (Tm.same sm)).part hx
      have hi : i < xs.length := (List.getElem?_eq_some_iff.mp hx).1
      have ly : ys.length = i := by rw [tl.len, List.length_map, rowsTo_len]
      have e := getD_at hqi
      have hC : i * (2 * B) + 4 * B ≤ 2 ^ 40 := by
        have := Nat.mul_le_mul (show i ≤ 122 by omega) (show 2 * B ≤ 2 ^ 31 by omega)
        omega
      wtm_at "v"
      refine c_next hd hp ha (PartAt.mono sm h3) L S (hq q (List.mem_of_getElem? hqi)) (tot_ok hq i (by omega)) (row_ok S hq i (by omega)) hC (fun v H5 s5 t5 => ?_)
      obtain ⟨pv, _, _, _, rfl, _⟩ := t5.row
      have t6 : TD K H5 (.ref pv) (dRow (rowAt x qs (i + 1))) := by
        show TD K H5 (.ref pv) (dRow (payNext x (rowAt x qs i) (tot qs (i + 1)) (tot qs i)))
        rw [e]
        exact t5
      wtm_at "v"
      refine i_bmL (by wtm_at "lk") ?_
      wtm_at "v"
      refine i_append (by wtm_at "lk") (by omega) (fun H6 f6 h6 => ?_)
      wtm_at "v"
      refine ⟨ys ++ [.ref pv], pv, pt, _, rfl, h6, ?_, by wtm_at "td", ?_, same_fx1 n0 (sm.trans s5) f6⟩
      · rw [rowsTo_succ, List.map_append]
        exact TL.snoc (by wtm_at "tl") (by wtm_at "td")
      · rw [e]
        wtm_at "lkP"
    · rintro σ' H4 ⟨ys, va, al, vt, rfl, hr4, tl, hd, ha, sm⟩
      rw [el] at tl
      wtm_at "v"
      cases w with
      | false =>
        wtm_at "v"
        refine i_tupL (SqL.of hr4) (fun a H5 n5 s5 h5 => ?_)
        exact k _ _ (by wtm_at "sm") (.of (Tp.of h5) (tl.tm (Tm.same s5)))
      | true =>
        wtm_at "v"
        refine c_whp (SqL.of hr4) tl (by rw [rowsTo_len]; omega) (fun r hr => ?_) (fun a ys2 H5 n5 s5 h5 t5 => ?_)
        · obtain ⟨j, hj, rfl⟩ := List.mem_map.mp hr
          exact (rows_bd L S hq hl hB (j + 1) (by have := List.mem_range.mp hj; omega)).2.1.mono (by decide)
        · wtm_at "v"
          refine i_tupL (SqL.of h5) (fun b H6 n6 s6 h6 => ?_)
          rw [rowsTo_len] at t5
          exact k _ _ (by wtm_at "sm") (.of (Tp.of h6) (t5.tm (Tm.same s6)))
theorem ok_payments {f c_NOUGHT : Addr} {fd : FuncData} {dvs : List V} {kws : List (Str × V)} (F : FunD K "payments" "payments" (defArgs s_payments) (defBody s_payments) (defScope s_payments) dvs kws f fd) (mg_NOUGHT : mg "NOUGHT" = some (.ref c_NOUGHT)) (t_NOUGHT : PartK K c_NOUGHT 0)
    (O_need_share : Own P w K mg base CX0 5 "need_share" ["share"] [] (spNeed K)) (O_paid_next : Own P w K mg base CX0 4 "paid_next" ["ahead", "total", "last", "share"] [] (spNext K)) (O_in_whole_pence : Own P w K mg base CX0 2 "in_whole_pence" ["rows"] [] (spWhP K)) (n_tuple : mg "tuple" = none) : FnG P w K mg base CX0 6 f fd ["totals", "share", "whole"] (spPay K) :=
  FnG.or3 (ok_paymentsL F mg_NOUGHT t_NOUGHT O_need_share O_paid_next O_in_whole_pence n_tuple) (ok_paymentsT F mg_NOUGHT t_NOUGHT O_need_share O_paid_next O_in_whole_pence n_tuple) fun vs H Q E ⟨t, h⟩ => by
    cases t
    · exact .inl h
    · exact .inr h
end
section
local macro_rules | `(tactic| wtm_at "lkP") => `(tactic| first
  | with_reducible assumption
  | exact PartK.pt (by with_reducible assumption)
  | exact PartAt.tm (by with_reducible assumption) (by wtm_at "tm") | fail)
/-! ### the steps as one word: wtm_at "v1" a step, wtm_at "v" as many as go -/
local macro_rules | `(tactic| wtm_at "tm") => `(tactic| first
  | exact Tm.refl _
  | exact Tm.same (by with_reducible assumption)
  | exact Tm.fx (by with_reducible assumption)
  | (refine Tm.trans ?_ (Tm.same (by with_reducible assumption)); wtm_at "tm")
  | (refine Tm.trans ?_ (Tm.fx (by with_reducible assumption)); wtm_at "tm") | fail)
local macro_rules | `(tactic| wtm_at "lkT1") => `(tactic| first
  | with_reducible assumption
  | exact TpK.tp (by with_reducible assumption)
  | exact TpH.tm (by with_reducible assumption) (by wtm_at "tm")
  | exact Tp.tm (by with_reducible assumption) (by wtm_at "tm")
  | exact Tp.of (by with_reducible assumption) | fail)
local macro_rules | `(tactic| wtm_at "lkT") => `(tactic| first
  | wtm_at "lkT1"
  | exact PartAt.tpe (by wtm_at "lkP") (by rfl)
  | fail)
local macro_rules | `(tactic| wtm_at "lk") => `(tactic| first
  | assumption
  | exact b_get (by assumption) (by wtm_at "lk")
  | exact b_lst (by assumption) (by wtm_at "ne") (by wtm_at "ne") (by wtm_at "lk") | fail)
local macro_rules | `(tactic| wtm_at "lkL") => `(tactic| first
  | assumption
  | exact SqL.of (by wtm_at "lk")
  | exact b_L (by assumption) (by wtm_at "lkL") | fail)
local macro_rules | `(tactic| wtm_at "intL") => `(tactic| first | exact IntL.nil | exact IntL.cons (by wtm_at "intL") | fail)
local macro_rules | `(tactic| wtm_at "lkS0") => `(tactic| first
  | with_reducible assumption
  | exact StoreAt.same (by with_reducible assumption) (by wtm_at "lkS0") | fail)
local macro_rules | `(tactic| wtm_at "lkS") => `(tactic| first
  | with_reducible assumption
  | exact StoreAt.from (by with_reducible assumption) (by wtm_at "sm") | fail)
local macro_rules | `(tactic| wtm_at "ne") => `(tactic| first
  | assumption
  | exact Ne.symm (by assumption)
  | exact st_ne1 (by with_reducible assumption) (by wtm_at "lkS0")
  | exact st_ne2 (by with_reducible assumption) (by wtm_at "lkS0")
  | exact new_ne (by assumption) (by wtm_at "lk")
  | exact new_ne' (by assumption) (by wtm_at "lk") | fail)
local macro_rules | `(tactic| wtm_at "sm") => `(tactic| first
  | with_reducible assumption
  | exact Same.refl _
  | (refine Same.trans ?_ (by with_reducible assumption); wtm_at "sm") | fail)
local macro_rules | `(tactic| wtm_at "fx") => `(tactic| first
  | with_reducible assumption
  | exact Fx.same (Same.refl _)
  | exact Fx.same (by with_reducible assumption)
  | (refine Fx.trans ?_ (by with_reducible assumption); wtm_at "fx")
  | (refine Fx.trans ?_ (Fx.same (by with_reducible assumption)); wtm_at "fx") | fail)
local macro_rules | `(tactic| wtm_at "v0") => `(tactic| first
  | with_reducible refine i_seq ?_ | with_reducible refine i_asg ?_ | with_reducible refine i_var rfl ?_ | with_reducible refine i_c ?_ | with_reducible refine i_name ?_
  | with_reducible refine i_op ?_ | with_reducible refine i_ifS ?_ | with_reducible refine i_test ?_ | with_reducible refine i_tB ?_
  | with_reducible refine i_cons ?_ | with_reducible refine i_nil ?_ | with_reducible refine i_call ?_ | with_reducible refine i_callN ?_ | with_reducible refine i_callX ?_ | with_reducible refine i_callNX ?_ | with_reducible refine i_cb ?_
  | with_reducible refine i_tup ?_ | with_reducible refine i_lst ?_ | with_reducible refine i_ret ?_ | with_reducible refine i_retN ?_ | with_reducible refine i_drop ?_
  | with_reducible refine i_next ?_ | with_reducible refine i_par ?_ | with_reducible refine i_par2 ?_ | with_reducible refine i_ifE ?_ | with_reducible refine i_un ?_
  | with_reducible refine i_and ?_ | with_reducible refine i_or ?_ | with_reducible refine i_not ?_ | with_reducible refine i_andV ?_ | with_reducible refine i_orV ?_ | with_reducible refine i_notV ?_
  | with_reducible refine i_notV2 ?_ | with_reducible refine i_bif (A := fun _ => _) ?_ | with_reducible refine i_brk ?_ | with_reducible refine i_ctn ?_
  | with_reducible refine i_abs ?_ | with_reducible refine i_min ?_ | with_reducible refine i_max ?_ | with_reducible refine i_for ?_ | with_reducible refine i_iR1 ?_ | with_reducible refine i_iR2 ?_ | with_reducible refine i_iL ?_ | with_reducible refine i_iT ?_ | with_reducible refine i_wb ?_
  | with_reducible refine i_sl ?_ | with_reducible refine i_no ?_ | with_reducible refine i_so ?_ | with_reducible refine i_exI ?_ | with_reducible refine i_exB ?_ | with_reducible refine i_gcons ?_ | with_reducible refine i_gnil ?_ | with_reducible refine i_bm ?_ | with_reducible refine i_gsub ?_ | with_reducible refine i_lc ?_ | with_reducible refine i_yes ?_ | with_reducible refine i_iE ?_
  | with_reducible refine ite_1 ?_ | with_reducible refine i_pow6 ?_ | with_reducible refine i_pow18 ?_ | with_reducible refine i_pow30 ?_
  | with_reducible refine i_addI ?_ | with_reducible refine i_I0 ?_ | with_reducible refine i_U ?_ | with_reducible refine i_eqI ?_ | with_reducible refine i_neI ?_ | fail)
local macro_rules | `(tactic| wtm_at "v1") => `(tactic| first
  | wtm_at "v0"
  | ((with_reducible show rIx _ _ _ _ _); first | refine i_ixT (by wtm_at "lkT") rfl ?_ | refine i_ixL (by wtm_at "lkL") rfl ?_)
  | ((with_reducible show rLenU _ _ _ _); first | refine i_lenT (by wtm_at "lkT") ?_ | refine i_lenL (by wtm_at "lkL") ?_)
  | ((with_reducible show spDraw _ _ _ _); refine c_draw (by wtm_at "lkS") (by first | decide | omega) (by first | decide | omega) (by omega) ?_; intro _ _ _ _ _ _)
  | (with_reducible refine i_newTH (by first | decide | (simp; done)) ?_; intro _ _ _ _ _)
  | (with_reducible refine i_newL (by first | decide | (simp; done)) ?_; intro _ _ _ _ _) | fail)
local macro_rules | `(tactic| wtm_at "v") => `(tactic| repeat wtm_at "v1")
local macro_rules | `(tactic| wtm_at "vi") => `(tactic| repeat ((fail_if_success (with_reducible show tIfS _ _ _ _ _ _)); wtm_at "v1"))
variable {P : Program} {w : World} {K : PySem.W.Frag} {mg : Str → Option Value} {base : Heap}
abbrev s_law_small : Stmt := topS 33
theorem sc_law_small : FnScope ["store", "size", "below", "above"] ["store"] (defScope s_law_small) := ⟨rfl, rfl, rfl, by decide +kernel, rfl, by decide +kernel, by decide +kernel⟩
theorem ok_law_small {f : Addr} {fd : FuncData} (F : FunD K "_law_small" "_law_small" (defArgs s_law_small) (defBody s_law_small) (defScope s_law_small) [] [] f fd) (O_law_draw : Own P w K mg base CX0 2 "_law_draw" ["store", "many"] [] spDraw) (O_law_part : Own P w K mg base CX0 1 "_law_part" ["above", "below"] [] (spPart K)) : FnG P w K mg base CX0 3 f fd ["store"] (spSmallD K) := by
  refine okG (k := 2) F sc_law_small (fun vs H Q E h => ?_) (fun cdv A hG outer s H vs Q E hr h => ?_)
  · obtain ⟨a, b, c, rfl, _⟩ := h
    rfl
  · obtain ⟨st, gl, n, rfl, S, hn, k⟩ := h
    refine ⟨_, (pss_cons (ps_set (i := 1) sc_law_small.nd rfl (Or.inl rfl) (pe_own O_law_draw hG (hr.mono (by decide)) pass0 (pa_cons (pv 0) (pa_cons pe_int pa_nil)))) (pss_cons (ps_set (i := 2) sc_law_small.nd rfl (Or.inl rfl) (pe_ix (k_ix K) (pe_lst (pa_cons pe_int (pa_cons pe_int (pa_cons pe_int (pa_cons pe_int (pa_cons pe_int (pa_cons pe_int (pa_cons pe_int (pa_cons pe_int (pa_cons pe_int (pa_cons pe_int (pa_cons (pe_op (k_add K) pe_int (pe_own O_law_draw hG (hr.mono (by decide)) pass0 (pa_cons (pv 0) (pa_cons pe_int pa_nil)))) pa_nil)))))))))))) (pe_own O_law_draw hG (hr.mono (by decide)) pass0 (pa_cons (pv 0) (pa_cons pe_int pa_nil))) (fun _ _ => rfl))) (pss_cons (ps_set (i := 3) sc_law_small.nd rfl (Or.inl rfl) (pe_lst (pa_cons pe_int (pa_cons pe_int (pa_cons (pe_op (k_add K) pe_int (pe_own O_law_draw hG (hr.mono (by decide)) pass0 (pa_cons (pv 0) (pa_cons pe_int pa_nil)))) (pa_cons (pe_own O_law_draw hG (hr.mono (by decide)) pass0 (pa_cons (pv 0) (pa_cons pe_int pa_nil))) (pa_cons (pe_op op_sub (pe_op op_pow pe_int pe_int) (pe_own O_law_draw hG (hr.mono (by decide)) pass0 (pa_cons (pv 0) (pa_cons pe_int pa_nil)))) pa_nil))))))) (pss_cons (ps_set (i := 3) sc_law_small.nd rfl (Or.inl rfl) (pe_ix (k_ix K) (pe_op (k_add K) (pv 3) (pe_lst (pa_cons (pe_own O_law_draw hG (hr.mono (by decide)) pass0 (pa_cons (pv 0) (pa_cons (pe_op op_pow pe_int pe_int) pa_nil))) pa_nil))) (pv 1) (fun _ _ => rfl))) (pss_one (ps_ret (pe_own O_law_part hG (hr.mono (by decide)) pass0 (pa_cons (pe_op op_mulU (pv 3) (pe_ix (k_ix K) (pe_lst (pa_cons pe_int (pa_cons (pe_un un_neg pe_int) pa_nil))) (pe_own O_law_draw hG (hr.mono (by decide)) pass0 (pa_cons (pv 0) (pa_cons pe_int pa_nil))) (fun _ _ => rfl))) (pa_cons (pv 2) pa_nil))))))))), ?_⟩
    wtm_at "v"
    refine i_ixM (SqL.of (by wtm_at "lk")) (by wtm_at "intL") (by omega) (by simp; omega) (fun c hc => ?_)
    have b0 : 1 ≤ c ∧ c ≤ 1000 := by
      simp only [List.mem_cons, List.not_mem_nil, or_false] at hc
      omega
    wtm_at "v"
    refine i_addL (by wtm_at "lk") (by wtm_at "lk") (by simp) ?_
    intro p1 H1 n1 s1 h1
    wtm_at "v"
    refine i_ixM (SqL.of (by wtm_at "lk")) (by wtm_at "intL") (by omega) (by simp; omega) (fun c1 hc1 => ?_)
    have b1 : c1.natAbs < 2 ^ 22 := by
      simp only [List.mem_cons, List.mem_append, List.cons_append, List.nil_append, List.not_mem_nil, or_false] at hc1
      omega
    wtm_at "v"
    refine i_ixM (SqL.of (by wtm_at "lk")) (by wtm_at "intL") (by omega) (by simp; omega) (fun c2 hc2 => ?_)
    have b2 : c2 = 1 ∨ c2 = -1 := by simpa using hc2
    have m1 : CMulW c1 c2 := wide_mul (a := 64) (b := 64) (by omega) (by omega) (by decide) (by decide) (by decide)
    refine i_mulI m1 ?_
    have b3 : (c1 * c2).natAbs < 2 ^ 22 := by rcases b2 with rfl | rfl <;> omega
    generalize c1 * c2 = c3 at *
    wtm_at "v"
    refine c_part (by omega) (natAbs_up (n := 22) (by omega) (by decide)) (natAbs_up (n := 22) (by omega) (by decide)) (fun p H9 s9 h9 => ?_)
    exact k _ p H9 (bd_divInt (by omega) (by omega) (by omega)) (Nat.le_trans (den_le (by omega)) (by omega)) h9 (StoreAt.mono (by wtm_at "lkS") (by omega)) (by wtm_at "fx")
end
section
local macro_rules | `(tactic| wtm_at "lkP") => `(tactic| first
  | with_reducible assumption
  | exact PartK.pt (by with_reducible assumption)
  | exact PartAt.tm (by with_reducible assumption) (by wtm_at "tm") | fail)
/-! ### the steps as one word: wtm_at "v1" a step, wtm_at "v" as many as go -/
local macro_rules | `(tactic| wtm_at "tm") => `(tactic| first
  | exact Tm.refl _
  | exact Tm.same (by with_reducible assumption)
  | exact Tm.fx (by with_reducible assumption)
  | (refine Tm.trans ?_ (Tm.same (by with_reducible assumption)); wtm_at "tm")
  | (refine Tm.trans ?_ (Tm.fx (by with_reducible assumption)); wtm_at "tm") | fail)
local macro_rules | `(tactic| wtm_at "lkT1") => `(tactic| first
  | with_reducible assumption
  | exact TpK.tp (by with_reducible assumption)
  | exact TpH.tm (by with_reducible assumption) (by wtm_at "tm")
  | exact Tp.tm (by with_reducible assumption) (by wtm_at "tm")
  | exact Tp.of (by with_reducible assumption) | fail)
local macro_rules | `(tactic| wtm_at "lkT") => `(tactic| first
  | wtm_at "lkT1"
  | exact PartAt.tpe (by wtm_at "lkP") (by rfl)
  | fail)
local macro_rules | `(tactic| wtm_at "lk") => `(tactic| first
  | assumption
  | exact b_get (by assumption) (by wtm_at "lk")
  | exact b_lst (by assumption) (by wtm_at "ne") (by wtm_at "ne") (by wtm_at "lk") | fail)
local macro_rules | `(tactic| wtm_at "lkL") => `(tactic| first
  | assumption
  | exact SqL.of (by wtm_at "lk")
  | exact b_L (by assumption) (by wtm_at "lkL") | fail)
local macro_rules | `(tactic| wtm_at "intL") => `(tactic| first | exact IntL.nil | exact IntL.cons (by wtm_at "intL") | fail)
local macro_rules | `(tactic| wtm_at "lkS0") => `(tactic| first
  | with_reducible assumption
  | exact StoreAt.same (by with_reducible assumption) (by wtm_at "lkS0") | fail)
local macro_rules | `(tactic| wtm_at "lkS") => `(tactic| first
  | with_reducible assumption
  | exact StoreAt.from (by with_reducible assumption) (by wtm_at "sm") | fail)
local macro_rules | `(tactic| wtm_at "ne") => `(tactic| first
  | assumption
  | exact Ne.symm (by assumption)
  | exact st_ne1 (by with_reducible assumption) (by wtm_at "lkS0")
  | exact st_ne2 (by with_reducible assumption) (by wtm_at "lkS0")
  | exact new_ne (by assumption) (by wtm_at "lk")
  | exact new_ne' (by assumption) (by wtm_at "lk") | fail)
local macro_rules | `(tactic| wtm_at "sm") => `(tactic| first
  | with_reducible assumption
  | exact Same.refl _
  | (refine Same.trans ?_ (by with_reducible assumption); wtm_at "sm") | fail)
local macro_rules | `(tactic| wtm_at "fx") => `(tactic| first
  | with_reducible assumption
  | exact Fx.same (Same.refl _)
  | exact Fx.same (by with_reducible assumption)
  | (refine Fx.trans ?_ (by with_reducible assumption); wtm_at "fx")
  | (refine Fx.trans ?_ (Fx.same (by with_reducible assumption)); wtm_at "fx") | fail)
local macro_rules | `(tactic| wtm_at "v0") => `(tactic| first
  | with_reducible refine i_seq ?_ | with_reducible refine i_asg ?_ | with_reducible refine i_var rfl ?_ | with_reducible refine i_c ?_ | with_reducible refine i_name ?_
  | with_reducible refine i_op ?_ | with_reducible refine i_ifS ?_ | with_reducible refine i_test ?_ | with_reducible refine i_tB ?_
  | with_reducible refine i_cons ?_ | with_reducible refine i_nil ?_ | with_reducible refine i_call ?_ | with_reducible refine i_callN ?_ | with_reducible refine i_callX ?_ | with_reducible refine i_callNX ?_ | with_reducible refine i_cb ?_
  | with_reducible refine i_tup ?_ | with_reducible refine i_lst ?_ | with_reducible refine i_ret ?_ | with_reducible refine i_retN ?_ | with_reducible refine i_drop ?_
  | with_reducible refine i_next ?_ | with_reducible refine i_par ?_ | with_reducible refine i_par2 ?_ | with_reducible refine i_ifE ?_ | with_reducible refine i_un ?_
  | with_reducible refine i_and ?_ | with_reducible refine i_or ?_ | with_reducible refine i_not ?_ | with_reducible refine i_andV ?_ | with_reducible refine i_orV ?_ | with_reducible refine i_notV ?_
  | with_reducible refine i_notV2 ?_ | with_reducible refine i_bif (A := fun _ => _) ?_ | with_reducible refine i_brk ?_ | with_reducible refine i_ctn ?_
  | with_reducible refine i_abs ?_ | with_reducible refine i_min ?_ | with_reducible refine i_max ?_ | with_reducible refine i_for ?_ | with_reducible refine i_iR1 ?_ | with_reducible refine i_iR2 ?_ | with_reducible refine i_iL ?_ | with_reducible refine i_iT ?_ | with_reducible refine i_wb ?_
  | with_reducible refine i_sl ?_ | with_reducible refine i_no ?_ | with_reducible refine i_so ?_ | with_reducible refine i_exI ?_ | with_reducible refine i_exB ?_ | with_reducible refine i_gcons ?_ | with_reducible refine i_gnil ?_ | with_reducible refine i_bm ?_ | with_reducible refine i_gsub ?_ | with_reducible refine i_lc ?_ | with_reducible refine i_yes ?_ | with_reducible refine i_iE ?_
  | with_reducible refine ite_1 ?_ | with_reducible refine i_pow6 ?_ | with_reducible refine i_pow18 ?_ | with_reducible refine i_pow30 ?_
  | with_reducible refine i_addI ?_ | with_reducible refine i_I0 ?_ | with_reducible refine i_U ?_ | with_reducible refine i_eqI ?_ | with_reducible refine i_neI ?_ | fail)
local macro_rules | `(tactic| wtm_at "v1") => `(tactic| first
  | wtm_at "v0"
  | ((with_reducible show rIx _ _ _ _ _); first | refine i_ixT (by wtm_at "lkT") rfl ?_ | refine i_ixL (by wtm_at "lkL") rfl ?_)
  | ((with_reducible show rLenU _ _ _ _); first | refine i_lenT (by wtm_at "lkT") ?_ | refine i_lenL (by wtm_at "lkL") ?_)
  | ((with_reducible show spDraw _ _ _ _); refine c_draw (by wtm_at "lkS") (by first | decide | omega) (by first | decide | omega) (by omega) ?_; intro _ _ _ _ _ _)
  | (with_reducible refine i_newTH (by first | decide | (simp; done)) ?_; intro _ _ _ _ _)
  | (with_reducible refine i_newL (by first | decide | (simp; done)) ?_; intro _ _ _ _ _) | fail)
local macro_rules | `(tactic| wtm_at "v") => `(tactic| repeat wtm_at "v1")
local macro_rules | `(tactic| wtm_at "vi") => `(tactic| repeat ((fail_if_success (with_reducible show tIfS _ _ _ _ _ _)); wtm_at "v1"))
local macro_rules | `(tactic| wtm_at "v1") => `(tactic| first
  | ((with_reducible refine i_mulI ?hm ?_); (case hm => exact wide_mul (a := 128) (b := 128) (by omega) (by omega) (by decide) (by decide) (by decide)))
  | ((with_reducible refine i_mod ?hm ?_); (case hm => first | decide | omega); intro _ _ _ _) | fail)
/-! ### data shown and compared: found by themselves -/
local macro_rules | `(tactic| wtm_at "bd") => `(tactic| first | assumption | exact Bd.mono (by assumption) (by decide) | fail)
local macro_rules | `(tactic| wtm_at "bi") => `(tactic| first | exact natAbs_up (by assumption) (by decide) | exact natAbs_up (n := 64) (by decide) (by decide) | exact natAbs_up (n := 64) (by omega) (by decide) | fail)
local macro_rules | `(tactic| wtm_at "dpA") => `(tactic| first | exact DpAll.nil | exact DpAll.cons (by wtm_at "dp") (by wtm_at "dpA") | fail)
local macro_rules | `(tactic| wtm_at "dp") => `(tactic| first
  | exact Dp.int _ | exact Dp.bl _ | exact Dp.non | exact Dp.str _
  | exact dp_PA (by wtm_at "lkP")
  | exact Dp.tup (Tp.sq (by wtm_at "lkT")) (by wtm_at "dpA")
  | exact Dp.lst (by wtm_at "lkL") (by wtm_at "dpA") | fail)
local macro_rules | `(tactic| wtm_at "okA") => `(tactic| first | exact OkAll.nil' | exact OkAll.cons' (by wtm_at "ok") (by wtm_at "okA") | fail)
local macro_rules | `(tactic| wtm_at "ok") => `(tactic| first
  | ((with_reducible show Ok _ _ (dP _)); exact ok_P (by wtm_at "bd"))
  | exact Ok.int (by wtm_at "bi") | exact Ok.bool _ | exact Ok.none
  | ((with_reducible show Ok _ _ (.list _)); exact Ok.lst' (by wtm_at "okA")) | ((with_reducible show Ok _ _ (.tuple _)); exact Ok.tup' (by wtm_at "okA")) | fail)
local macro_rules | `(tactic| wtm_at "shA") => `(tactic| first | exact ShAll.nil | (refine ShAll.cons ?ha ?hb; (case ha => wtm_at "sh"); (case hb => wtm_at "shA")) | exact ShAll.ints _ | fail)
local macro_rules | `(tactic| wtm_at "sh") => `(tactic| first
  | ((with_reducible show Sh _ (dP _)); exact sh_P _)
  | exact Sh.int _ | exact Sh.bool _ | exact Sh.none | (refine Sh.lst ?_; wtm_at "shA") | (refine Sh.tup ?_; wtm_at "shA") | fail)
local macro_rules | `(tactic| wtm_at "v0") => `(tactic| first
  | ((with_reducible refine i_lens ?ha ?hb ?_); (case ha => rfl); (case hb => rfl))
  | with_reducible refine ite_0 ?_ | with_reducible refine ite_n0 ?_ | with_reducible refine ite_n1 ?_
  | ((with_reducible show rEqU _ (.ref _) (.ref _) _ _); refine i_eqP (by wtm_at "lkP") (by wtm_at "lkP") ?_)
  | ((with_reducible show rNeU _ (.ref _) (.ref _) _ _); refine i_neP (by wtm_at "lkP") (by wtm_at "lkP") ?_)
  | ((with_reducible show rEqU _ (.ref _) (.ref _) _ _); refine i_eqD (by wtm_at "dp") (by wtm_at "dp") (Sh.shaped (n := 9) (by wtm_at "sh") (by decide)) (Sh.shaped (n := 9) (by wtm_at "sh") (by decide)) ?_)
  | ((with_reducible show rNeU _ (.ref _) (.ref _) _ _); refine i_neD (by wtm_at "dp") (by wtm_at "dp") (Sh.shaped (n := 9) (by wtm_at "sh") (by decide)) (Sh.shaped (n := 9) (by wtm_at "sh") (by decide)) ?_)
  | ((with_reducible show rReprD _ _ _ _); refine i_repr (by wtm_at "dp") (by wtm_at "ok") (Nat.le_of_ble_eq_true rfl) (Nat.le_of_ble_eq_true rfl) ?_) | fail)
/-! calls of the reckoning; what is alike is alike -/
local macro_rules | `(tactic| wtm_at "v0") => `(tactic| first
  | ((with_reducible show spPP _ CT _ _ _ _ _); refine c_PP (by wtm_at "lkP") (by wtm_at "lkP") (by wtm_at "bd") (by wtm_at "bd") True.intro ?_; intro _ _ _ _)
  | ((with_reducible show spLess _ _ _ _ _); refine c_less (by wtm_at "lkP") (by wtm_at "lkP") (by wtm_at "bd") (by wtm_at "bd") ?_)
  | with_reducible refine ite_n (fun c => absurd rfl c) (fun _ => ?_)
  | ((with_reducible show rNeU _ (.bl _) (.bl _) _ _); refine i_neB rfl ?_)
  | ((with_reducible show rEqU _ (.bl _) (.bl _) _ _); refine i_eqB rfl ?_)
  | ((with_reducible show rNeU _ (.str _) (.str _) _ _); refine i_neS rfl ?_)
  | ((with_reducible show rEqU _ (.str _) (.str _) _ _); refine i_eqS rfl ?_) | fail)
/-! deep data -/
local macro_rules | `(tactic| wtm_at "td") => `(tactic| first
  | with_reducible assumption
  | exact TD.tm (by with_reducible assumption) (by wtm_at "tm")
  | exact PartAt.td (by wtm_at "lkP") | fail)
local macro_rules | `(tactic| wtm_at "tl") => `(tactic| first
  | with_reducible assumption
  | exact TL.tm (by with_reducible assumption) (by wtm_at "tm") | fail)
/-! pairs that are written -/
local macro_rules | `(tactic| wtm_at "lkP") => `(tactic| first
  | exact part01 (by wtm_at "lkT1")
  | exact part11 (by wtm_at "lkT1")
  | exact partI (by wtm_at "lkT1")
  | exact partLit (by wtm_at "lkT1") (by decide) (by decide) | fail)
variable {P : Program} {w : World} {K : PySem.W.Frag} {mg : Str → Option Value} {base : Heap}
abbrev s_law_share : Stmt := topS 35
theorem sc_law_share : FnScope ["store", "below"] ["store"] (defScope s_law_share) := ⟨rfl, rfl, rfl, by decide +kernel, rfl, by decide +kernel, by decide +kernel⟩
theorem ok_law_share {f : Addr} {fd : FuncData} {dvs : List V} {kws : List (Str × V)} (F : FunD K "_law_share" "_law_share" (defArgs s_law_share) (defBody s_law_share) (defScope s_law_share) dvs kws f fd) (O_law_draw : Own P w K mg base CX0 2 "_law_draw" ["store", "many"] [] spDraw) (O_law_part : Own P w K mg base CX0 1 "_law_part" ["above", "below"] [] (spPart K)) : FnG P w K mg base CX0 3 f fd ["store"] (spShare K) := by
  refine okG (k := 2) F sc_law_share (fun vs H Q E h => ?_) (fun cdv A hG outer s H vs Q E hr h => ?_)
  · obtain ⟨a, b, c, rfl, _⟩ := h
    rfl
  · obtain ⟨st, gl, n, rfl, S, hn, k⟩ := h
    refine ⟨_, (pss_cons (ps_set (i := 1) sc_law_share.nd rfl (Or.inl rfl) (pe_ix (k_ix K) (pe_lst (pa_cons pe_int (pa_cons pe_int (pa_cons pe_int (pa_cons pe_int (pa_cons pe_int (pa_cons pe_int (pa_cons (pe_op (k_add K) pe_int (pe_own O_law_draw hG (hr.mono (by decide)) pass0 (pa_cons (pv 0) (pa_cons pe_int pa_nil)))) pa_nil)))))))) (pe_own O_law_draw hG (hr.mono (by decide)) pass0 (pa_cons (pv 0) (pa_cons pe_int pa_nil))) (fun _ _ => rfl))) (pss_one (ps_ret (pe_own O_law_part hG (hr.mono (by decide)) pass0 (pa_cons (pe_op op_sub (pv 1) (pe_op op_mulU (pe_own O_law_draw hG (hr.mono (by decide)) pass0 (pa_cons (pv 0) (pa_cons (pv 1) pa_nil))) (pe_own O_law_draw hG (hr.mono (by decide)) pass0 (pa_cons (pv 0) (pa_cons pe_int pa_nil))))) (pa_cons (pv 1) pa_nil)))))), ?_⟩
    wtm_at "v"
    refine i_ixM (SqL.of (by wtm_at "lk")) (by wtm_at "intL") (by omega) (by simp; omega) (fun c hc => ?_)
    have b0 : 1 ≤ c ∧ c ≤ 1000 := by
      simp only [List.mem_cons, List.not_mem_nil, or_false] at hc
      omega
    wtm_at "v"
    rename_i d H2 d0 d1 S2 F2 e H3 e0 e1 S3 F3
    have de : d * e = 0 ∨ d * e = d := by
      have : e = 0 ∨ e = 1 := by omega
      rcases this with rfl | rfl <;> simp
    have m1 : CMulW d e := wide_mul (a := 64) (b := 64) (by omega) (by omega) (by decide) (by decide) (by decide)
    generalize hm : d * e = m at *
    wtm_at "v"
    have sh := share_of (a := c - m) (b := c) (by omega) (by omega) (by omega)
    refine c_part (by omega) (natAbs_up (n := 22) (by omega) (by decide)) (natAbs_up (n := 22) (by omega) (by decide)) (fun p H9 s9 h9 => ?_)
    exact k _ p H9 (Nat.le_trans (den_le (by omega)) (by omega)) sh.1 sh.2 h9 (StoreAt.mono (by wtm_at "lkS") (by omega)) (by wtm_at "fx")
abbrev s_law_rows : Stmt := topS 37
theorem sc_law_rows : FnScope ["dues", "ratio", "found", "last", "in_all", "debt", "total", "new", "now", "kept"] ["dues", "ratio"] (defScope s_law_rows) := ⟨rfl, rfl, rfl, by decide +kernel, rfl, by decide +kernel, by decide +kernel⟩
theorem ok_law_rows {f : Addr} {fd : FuncData} {dvs : List V} {kws : List (Str × V)} (F : FunD K "_law_rows" "_law_rows" (defArgs s_law_rows) (defBody s_law_rows) (defScope s_law_rows) dvs kws f fd) (n_tuple : mg "tuple" = none)
    (O_law_sum : Own P w K mg base CX0 2 "_law_sum" ["one", "other"] [] (spPP K CT (· + ·))) (O_law_rest : Own P w K mg base CX0 2 "_law_rest" ["one", "other"] [] (spPP K CT (· - ·))) (O_law_fold : Own P w K mg base CX0 2 "_law_fold" ["one", "other"] [] (spPP K CT (· * ·))) (O_law_under : Own P w K mg base CX0 1 "_law_under" ["one", "other"] [] (spLess K)) : FnG P w K mg base CX0 3 f fd ["dues", "ratio"] (spRows K) := by
  refine okG (k := 2) F sc_law_rows (fun vs H Q E h => ?_) (fun cdv A hG outer s H vs Q E hr h => ?_)
  · obtain ⟨a, b, c, d, e, g, i, j, rfl, _⟩ := h
    rfl
  · obtain ⟨p, px, xs, qs, x, D, E, B, rfl, h1, h2, h3, L, S, hq, hB, hl, k⟩ := h
    have el : xs.length = qs.length := by simpa using h2.len
    have bx : Bd 1900 x := L.bdR S.dv (by decide)
    refine ⟨_, (pss_cons (ps_set (i := 2) sc_law_rows.nd rfl (Or.inl rfl) (pe_lst pa_nil)) (pss_cons (ps_asg (pe_tup (pa_cons (pe_tup (pa_cons pe_int (pa_cons pe_int pa_nil))) (pa_cons (pe_tup (pa_cons pe_int (pa_cons pe_int pa_nil))) (pa_cons (pe_tup (pa_cons pe_int (pa_cons pe_int pa_nil))) pa_nil)))) (k_gt K 3 rfl (pgs_cons (pg_name (i := 3) sc_law_rows.nd rfl (Or.inl rfl)) (pgs_cons (pg_name (i := 4) sc_law_rows.nd rfl (Or.inl rfl)) (pgs_cons (pg_name (i := 5) sc_law_rows.nd rfl (Or.inl rfl)) pgs_nil))))) (pss_cons (ps_for PassesOwn.never rfl (k_piL K (pv 0)) (pg_name (i := 6) sc_law_rows.nd rfl (Or.inl rfl)) (pss_cons (ps_set (i := 7) sc_law_rows.nd rfl (Or.inl rfl) (pe_own O_law_rest hG (hr.mono (by decide)) pass0 (pa_cons (pv 6) (pa_cons (pv 3) pa_nil)))) (pss_cons (ps_set (i := 8) sc_law_rows.nd rfl (Or.inl rfl) (pe_tup (pa_cons pe_int (pa_cons pe_int pa_nil)))) (pss_cons (ps_if (pt_cmpR op_le (pe_ix (k_ix K) (pv 7) pe_int (fun _ _ => rfl)) pe_int (nomark _)) (pss_one (ps_set (i := 5) sc_law_rows.nd rfl (Or.inl rfl) (pe_own O_law_rest hG (hr.mono (by decide)) pass0 (pa_cons (pv 5) (pa_cons (pv 7) pa_nil))))) (pss_cons (ps_set (i := 9) sc_law_rows.nd rfl (Or.inl rfl) (pe_own O_law_fold hG (hr.mono (by decide)) pass0 (pa_cons (pv 1) (pa_cons (pv 7) pa_nil)))) (pss_cons (ps_set (i := 9) sc_law_rows.nd rfl (Or.inl rfl) (pe_ifExp (pt_val (pe_own O_law_under hG (hr.mono (by decide)) pass0 (pa_cons (pv 5) (pa_cons (pv 9) pa_nil)))) (pv 5) (pv 9))) (pss_cons (ps_set (i := 8) sc_law_rows.nd rfl (Or.inl rfl) (pe_own O_law_rest hG (hr.mono (by decide)) pass0 (pa_cons (pv 7) (pa_cons (pv 9) pa_nil)))) (pss_one (ps_set (i := 5) sc_law_rows.nd rfl (Or.inl rfl) (pe_own O_law_rest hG (hr.mono (by decide)) pass0 (pa_cons (pv 5) (pa_cons (pv 9) pa_nil))))))))) (pss_cons (ps_set (i := 4) sc_law_rows.nd rfl (Or.inl rfl) (pe_own O_law_sum hG (hr.mono (by decide)) pass0 (pa_cons (pv 4) (pa_cons (pv 8) pa_nil)))) (pss_cons (ps_set (i := 3) sc_law_rows.nd rfl (Or.inl rfl) (pv 6)) (pss_one (ps_expr (pe_bm PySem.F.plainAttrs_list PySem.F.slot_list_append PySem.F.type_list_append (mt_append) (pv 2) (pa_cons (pe_tup (pa_cons (pv 8) (pa_cons (pv 4) (pa_cons (pv 5) pa_nil)))) pa_nil)))))))))) (pss_one (ps_ret (pe_callTy (k_tupL K) (by rfl) n_tuple bt_tuple (pa_cons (pv 2) pa_nil))))))), ?_⟩
    wtm_at "v"
    rename_i pf H2 n2 s2 hf2 pa H3 n3 s3 ta pb H4 n4 s4 tb pc H5 n5 s5 tc pd H6 n6 s6 td
    refine i_gtup (by wtm_at "lkT") rfl ?_
    wtm_at "v"
    have s06 : True ∧ Same H H6 := ⟨trivial, by wtm_at "sm"⟩
    have hf6 : H6 pf = some (.lst []) := s6 _ _ (s5 _ _ (s4 _ _ (s3 _ _ hf2)))
    refine i_itL (b_L s06.2 h1) ?_
    refine i_forL (xs := xs) (fun i σ' H' => ∃ (ys : List V) (al ai ad : Addr) (v6 v7 v8 v9 : Option V), σ' = [some (.ref p), some (.ref px), some (.ref pf), some (.ref al), some (.ref ai), some (.ref ad), v6, v7, v8, v9] ∧ H' pf = some (.lst ys) ∧ TL K H' ys ((rowsTo x qs i).map dRow) ∧ PartAt K H' ai (rowAt x qs i).inall ∧ PartAt K H' ad (rowAt x qs i).debt ∧ PartAt K H' al (tot qs i) ∧ Same H H') ⟨[], pa, pb, pc, none, none, none, none, rfl, hf6, TL.nil, part01 (by wtm_at "lkT"), part01 (by wtm_at "lkT"), part01 (by wtm_at "lkT"), s06.2⟩ ?_ ?_ ?_
    · rintro i σ' H' _ ⟨ys, al, ai, ad, v6, v7, v8, v9, rfl, hr4, tl, hi, hd, ha, sm⟩
      exact b_L sm h1
    · rintro i y σ' H4 hx ⟨ys, al, ai, ad, v6, v7, v8, v9, rfl, hr4, tl, hi, hd, ha, sm⟩
      obtain ⟨pt, q, rfl, hqi, hp⟩ := (h2.tm (Tm.same sm)).part hx
      have h3' : PartAt K H4 px x := PartAt.mono sm h3
      have hi' : i < xs.length := (List.getElem?_eq_some_iff.mp hx).1
      have ly : ys.length = i := by rw [tl.len, List.length_map, rowsTo_len]
      have e := getD_at hqi
      have hC : i * (2 * B) + 4 * B ≤ 2 ^ 40 := by
        have := Nat.mul_le_mul (show i ≤ 122 by omega) (show 2 * B ≤ 2 ^ 31 by omega)
        omega
      have r1 := row_ok S hq i (by omega)
      have t1 := hq q (List.mem_of_getElem? hqi)
      have l1 := tot_ok hq i (by omega)
      have er : rowAt x qs (i + 1) = payNext x (rowAt x qs i) q (tot qs i) := by
        show payNext x (rowAt x qs i) (tot qs (i + 1)) (tot qs i) = _
        rw [e]
      rw [rowsTo_succ, List.map_append, er, e]
      generalize rowAt x qs i = r at *
      generalize tot qs i = l at *
      generalize i * (2 * B) = C at *
      have bt : Bd 1900 q := L.bdL t1 (by omega)
      have bl : Bd 1900 l := L.bdL l1 (by omega)
      have nD : Dv D (B + B) (q - l) := t1.sub l1
      have bn : Bd 1900 (q - l) := L.bdL nD (by omega)
      have kD : Dv (D * E) (1 * (B + B)) (x * (q - l)) := by
        have := S.dv.mul nD
        rwa [Nat.mul_comm E D] at this
      have bk : Bd 1900 (x * (q - l)) := L.bd kD (by omega)
      have bd : Bd 1900 r.debt := L.bd r1.debt (by omega)
      have bi : Bd 1900 r.inall := L.bd r1.inall (by omega)
      have nE : Dv (D * E) (B + B) (q - l) := nD.up (Nat.dvd_mul_right ..) (Nat.le_refl _)
      have bn1 : Bd 1900 (q - l - r.debt) := L.bd (nE.sub r1.debt) (by omega)
      have bn2 : Bd 1900 (q - l - x * (q - l)) := L.bd (nE.sub kD) (by omega)
      have bz : Bd 1900 (0 : Rat) := ⟨by decide, by decide⟩
      wtm_at "v"
      with_reducible refine ite_d (fun c => ?_) (fun c => ?_)
      · have e2 : payNext x r q l = ⟨0, r.inall, r.debt - (q - l)⟩ := if_pos (num_nonpos_iff.mp c)
        rw [e2]
        wtm_at "v"
        rename_i ad2 H7 s7 p7 ai2 H8 s8 p8
        rw [Rat.add_zero] at p8
        refine i_bmL (by wtm_at "lk") ?_
        wtm_at "v"
        refine i_append (by wtm_at "lk") (by omega) (fun H10 f10 h10 => ?_)
        rename_i pr9 H9 n9 s9 t9
        wtm_at "v"
        refine ⟨_, pt, ai2, ad2, _, _, _, _, rfl, h10, ?_, by wtm_at "lkP", by wtm_at "lkP", by wtm_at "lkP", same_fx1 n2 (by wtm_at "sm") f10⟩
        exact TL.snoc (by wtm_at "tl") (row_td (by wtm_at "lkT") (by wtm_at "lkP") (by wtm_at "lkP") (by wtm_at "lkP"))
      · have c' : ¬ q - l ≤ 0 := fun h => c (num_nonpos_iff.mpr h)
        wtm_at "v"
        with_reducible refine ite_d (fun c2 => ?_) (fun c2 => ?_)
        · have e2 : payNext x r q l = ⟨q - l - r.debt, r.inall + (q - l - r.debt), r.debt - r.debt⟩ := by unfold payNext; rw [if_neg c', if_pos c2]
          rw [e2]
          wtm_at "v"
          refine i_bmL (by wtm_at "lk") ?_
          wtm_at "v"
          refine i_append (by wtm_at "lk") (by omega) (fun H10 f10 h10 => ?_)
          wtm_at "v"
          refine ⟨_, pt, _, _, _, _, _, _, rfl, h10, ?_, by wtm_at "lkP", by wtm_at "lkP", by wtm_at "lkP", same_fx1 n2 (by wtm_at "sm") f10⟩
          exact TL.snoc (by wtm_at "tl") (row_td (by wtm_at "lkT") (by wtm_at "lkP") (by wtm_at "lkP") (by wtm_at "lkP"))
        · have e2 : payNext x r q l = ⟨q - l - x * (q - l), r.inall + (q - l - x * (q - l)), r.debt - x * (q - l)⟩ := by unfold payNext; rw [if_neg c', if_neg c2]
          rw [e2]
          wtm_at "v"
          refine i_bmL (by wtm_at "lk") ?_
          wtm_at "v"
          refine i_append (by wtm_at "lk") (by omega) (fun H10 f10 h10 => ?_)
          wtm_at "v"
          refine ⟨_, pt, _, _, _, _, _, _, rfl, h10, ?_, by wtm_at "lkP", by wtm_at "lkP", by wtm_at "lkP", same_fx1 n2 (by wtm_at "sm") f10⟩
          exact TL.snoc (by wtm_at "tl") (row_td (by wtm_at "lkT") (by wtm_at "lkP") (by wtm_at "lkP") (by wtm_at "lkP"))
    · rintro σ' H4 ⟨ys, al, ai, ad, v6, v7, v8, v9, rfl, hr4, tl, hi, hd, ha, sm⟩
      rw [el] at tl
      wtm_at "v"
      refine i_tupL (SqL.of hr4) (fun a H5 n5 s5 h5 => ?_)
      exact k _ _ (by wtm_at "sm") (.of (Tp.of h5) (tl.tm (Tm.same s5)))
end
section
local macro_rules | `(tactic| wtm_at "lkP") => `(tactic| first
  | with_reducible assumption
  | exact PartK.pt (by with_reducible assumption)
  | exact PartAt.tm (by with_reducible assumption) (by wtm_at "tm") | fail)
/-! ### the steps as one word: wtm_at "v1" a step, wtm_at "v" as many as go -/
local macro_rules | `(tactic| wtm_at "tm") => `(tactic| first
  | exact Tm.refl _
  | exact Tm.same (by with_reducible assumption)
  | exact Tm.fx (by with_reducible assumption)
  | (refine Tm.trans ?_ (Tm.same (by with_reducible assumption)); wtm_at "tm")
  | (refine Tm.trans ?_ (Tm.fx (by with_reducible assumption)); wtm_at "tm") | fail)
local macro_rules | `(tactic| wtm_at "lkT1") => `(tactic| first
  | with_reducible assumption
  | exact TpK.tp (by with_reducible assumption)
  | exact TpH.tm (by with_reducible assumption) (by wtm_at "tm")
  | exact Tp.tm (by with_reducible assumption) (by wtm_at "tm")
  | exact Tp.of (by with_reducible assumption) | fail)
local macro_rules | `(tactic| wtm_at "lkT") => `(tactic| first
  | wtm_at "lkT1"
  | exact PartAt.tpe (by wtm_at "lkP") (by rfl)
  | fail)
local macro_rules | `(tactic| wtm_at "lk") => `(tactic| first
  | assumption
  | exact b_get (by assumption) (by wtm_at "lk")
  | exact b_lst (by assumption) (by wtm_at "ne") (by wtm_at "ne") (by wtm_at "lk") | fail)
local macro_rules | `(tactic| wtm_at "lkL") => `(tactic| first
  | assumption
  | exact SqL.of (by wtm_at "lk")
  | exact b_L (by assumption) (by wtm_at "lkL") | fail)
local macro_rules | `(tactic| wtm_at "intL") => `(tactic| first | exact IntL.nil | exact IntL.cons (by wtm_at "intL") | fail)
local macro_rules | `(tactic| wtm_at "lkS0") => `(tactic| first
  | with_reducible assumption
  | exact StoreAt.same (by with_reducible assumption) (by wtm_at "lkS0") | fail)
local macro_rules | `(tactic| wtm_at "lkS") => `(tactic| first
  | with_reducible assumption
  | exact StoreAt.from (by with_reducible assumption) (by wtm_at "sm") | fail)
local macro_rules | `(tactic| wtm_at "ne") => `(tactic| first
  | assumption
  | exact Ne.symm (by assumption)
  | exact st_ne1 (by with_reducible assumption) (by wtm_at "lkS0")
  | exact st_ne2 (by with_reducible assumption) (by wtm_at "lkS0")
  | exact new_ne (by assumption) (by wtm_at "lk")
  | exact new_ne' (by assumption) (by wtm_at "lk") | fail)
local macro_rules | `(tactic| wtm_at "sm") => `(tactic| first
  | with_reducible assumption
  | exact Same.refl _
  | (refine Same.trans ?_ (by with_reducible assumption); wtm_at "sm") | fail)
local macro_rules | `(tactic| wtm_at "fx") => `(tactic| first
  | with_reducible assumption
  | exact Fx.same (Same.refl _)
  | exact Fx.same (by with_reducible assumption)
  | (refine Fx.trans ?_ (by with_reducible assumption); wtm_at "fx")
  | (refine Fx.trans ?_ (Fx.same (by with_reducible assumption)); wtm_at "fx") | fail)
local macro_rules | `(tactic| wtm_at "v0") => `(tactic| first
  | with_reducible refine i_seq ?_ | with_reducible refine i_asg ?_ | with_reducible refine i_var rfl ?_ | with_reducible refine i_c ?_ | with_reducible refine i_name ?_
  | with_reducible refine i_op ?_ | with_reducible refine i_ifS ?_ | with_reducible refine i_test ?_ | with_reducible refine i_tB ?_
  | with_reducible refine i_cons ?_ | with_reducible refine i_nil ?_ | with_reducible refine i_call ?_ | with_reducible refine i_callN ?_ | with_reducible refine i_callX ?_ | with_reducible refine i_callNX ?_ | with_reducible refine i_cb ?_
  | with_reducible refine i_tup ?_ | with_reducible refine i_lst ?_ | with_reducible refine i_ret ?_ | with_reducible refine i_retN ?_ | with_reducible refine i_drop ?_
  | with_reducible refine i_next ?_ | with_reducible refine i_par ?_ | with_reducible refine i_par2 ?_ | with_reducible refine i_ifE ?_ | with_reducible refine i_un ?_
  | with_reducible refine i_and ?_ | with_reducible refine i_or ?_ | with_reducible refine i_not ?_ | with_reducible refine i_andV ?_ | with_reducible refine i_orV ?_ | with_reducible refine i_notV ?_
  | with_reducible refine i_notV2 ?_ | with_reducible refine i_bif (A := fun _ => _) ?_ | with_reducible refine i_brk ?_ | with_reducible refine i_ctn ?_
  | with_reducible refine i_abs ?_ | with_reducible refine i_min ?_ | with_reducible refine i_max ?_ | with_reducible refine i_for ?_ | with_reducible refine i_iR1 ?_ | with_reducible refine i_iR2 ?_ | with_reducible refine i_iL ?_ | with_reducible refine i_iT ?_ | with_reducible refine i_wb ?_
  | with_reducible refine i_sl ?_ | with_reducible refine i_no ?_ | with_reducible refine i_so ?_ | with_reducible refine i_exI ?_ | with_reducible refine i_exB ?_ | with_reducible refine i_gcons ?_ | with_reducible refine i_gnil ?_ | with_reducible refine i_bm ?_ | with_reducible refine i_gsub ?_ | with_reducible refine i_lc ?_ | with_reducible refine i_yes ?_ | with_reducible refine i_iE ?_
  | with_reducible refine ite_1 ?_ | with_reducible refine i_pow6 ?_ | with_reducible refine i_pow18 ?_ | with_reducible refine i_pow30 ?_
  | with_reducible refine i_addI ?_ | with_reducible refine i_I0 ?_ | with_reducible refine i_U ?_ | with_reducible refine i_eqI ?_ | with_reducible refine i_neI ?_ | fail)
local macro_rules | `(tactic| wtm_at "v1") => `(tactic| first
  | wtm_at "v0"
  | ((with_reducible show rIx _ _ _ _ _); first | refine i_ixT (by wtm_at "lkT") rfl ?_ | refine i_ixL (by wtm_at "lkL") rfl ?_)
  | ((with_reducible show rLenU _ _ _ _); first | refine i_lenT (by wtm_at "lkT") ?_ | refine i_lenL (by wtm_at "lkL") ?_)
  | ((with_reducible show spDraw _ _ _ _); refine c_draw (by wtm_at "lkS") (by first | decide | omega) (by first | decide | omega) (by omega) ?_; intro _ _ _ _ _ _)
  | (with_reducible refine i_newTH (by first | decide | (simp; done)) ?_; intro _ _ _ _ _)
  | (with_reducible refine i_newL (by first | decide | (simp; done)) ?_; intro _ _ _ _ _) | fail)
local macro_rules | `(tactic| wtm_at "v") => `(tactic| repeat wtm_at "v1")
local macro_rules | `(tactic| wtm_at "vi") => `(tactic| repeat ((fail_if_success (with_reducible show tIfS _ _ _ _ _ _)); wtm_at "v1"))
local macro_rules | `(tactic| wtm_at "v1") => `(tactic| first
  | ((with_reducible refine i_mulI ?hm ?_); (case hm => exact wide_mul (a := 128) (b := 128) (by omega) (by omega) (by decide) (by decide) (by decide)))
  | ((with_reducible refine i_mod ?hm ?_); (case hm => first | decide | omega); intro _ _ _ _) | fail)
/-! ### data shown and compared: found by themselves -/
local macro_rules | `(tactic| wtm_at "bd") => `(tactic| first | assumption | exact Bd.mono (by assumption) (by decide) | fail)
local macro_rules | `(tactic| wtm_at "bi") => `(tactic| first | exact natAbs_up (by assumption) (by decide) | exact natAbs_up (n := 64) (by decide) (by decide) | exact natAbs_up (n := 64) (by omega) (by decide) | fail)
local macro_rules | `(tactic| wtm_at "dpA") => `(tactic| first | exact DpAll.nil | exact DpAll.cons (by wtm_at "dp") (by wtm_at "dpA") | fail)
local macro_rules | `(tactic| wtm_at "dp") => `(tactic| first
  | exact Dp.int _ | exact Dp.bl _ | exact Dp.non | exact Dp.str _
  | exact dp_PA (by wtm_at "lkP")
  | exact Dp.tup (Tp.sq (by wtm_at "lkT")) (by wtm_at "dpA")
  | exact Dp.lst (by wtm_at "lkL") (by wtm_at "dpA") | fail)
local macro_rules | `(tactic| wtm_at "okA") => `(tactic| first | exact OkAll.nil' | exact OkAll.cons' (by wtm_at "ok") (by wtm_at "okA") | fail)
local macro_rules | `(tactic| wtm_at "ok") => `(tactic| first
  | ((with_reducible show Ok _ _ (dP _)); exact ok_P (by wtm_at "bd"))
  | exact Ok.int (by wtm_at "bi") | exact Ok.bool _ | exact Ok.none
  | ((with_reducible show Ok _ _ (.list _)); exact Ok.lst' (by wtm_at "okA")) | ((with_reducible show Ok _ _ (.tuple _)); exact Ok.tup' (by wtm_at "okA")) | fail)
local macro_rules | `(tactic| wtm_at "shA") => `(tactic| first | exact ShAll.nil | (refine ShAll.cons ?ha ?hb; (case ha => wtm_at "sh"); (case hb => wtm_at "shA")) | exact ShAll.ints _ | fail)
local macro_rules | `(tactic| wtm_at "sh") => `(tactic| first
  | ((with_reducible show Sh _ (dP _)); exact sh_P _)
  | exact Sh.int _ | exact Sh.bool _ | exact Sh.none | (refine Sh.lst ?_; wtm_at "shA") | (refine Sh.tup ?_; wtm_at "shA") | fail)
local macro_rules | `(tactic| wtm_at "v0") => `(tactic| first
  | ((with_reducible refine i_lens ?ha ?hb ?_); (case ha => rfl); (case hb => rfl))
  | with_reducible refine ite_0 ?_ | with_reducible refine ite_n0 ?_ | with_reducible refine ite_n1 ?_
  | ((with_reducible show rEqU _ (.ref _) (.ref _) _ _); refine i_eqP (by wtm_at "lkP") (by wtm_at "lkP") ?_)
  | ((with_reducible show rNeU _ (.ref _) (.ref _) _ _); refine i_neP (by wtm_at "lkP") (by wtm_at "lkP") ?_)
  | ((with_reducible show rEqU _ (.ref _) (.ref _) _ _); refine i_eqD (by wtm_at "dp") (by wtm_at "dp") (Sh.shaped (n := 9) (by wtm_at "sh") (by decide)) (Sh.shaped (n := 9) (by wtm_at "sh") (by decide)) ?_)
  | ((with_reducible show rNeU _ (.ref _) (.ref _) _ _); refine i_neD (by wtm_at "dp") (by wtm_at "dp") (Sh.shaped (n := 9) (by wtm_at "sh") (by decide)) (Sh.shaped (n := 9) (by wtm_at "sh") (by decide)) ?_)
  | ((with_reducible show rReprD _ _ _ _); refine i_repr (by wtm_at "dp") (by wtm_at "ok") (Nat.le_of_ble_eq_true rfl) (Nat.le_of_ble_eq_true rfl) ?_) | fail)
/-! calls of the reckoning; what is alike is alike -/
local macro_rules | `(tactic| wtm_at "v0") => `(tactic| first
  | ((with_reducible show spPP _ CT _ _ _ _ _); refine c_PP (by wtm_at "lkP") (by wtm_at "lkP") (by wtm_at "bd") (by wtm_at "bd") True.intro ?_; intro _ _ _ _)
  | ((with_reducible show spLess _ _ _ _ _); refine c_less (by wtm_at "lkP") (by wtm_at "lkP") (by wtm_at "bd") (by wtm_at "bd") ?_)
  | with_reducible refine ite_n (fun c => absurd rfl c) (fun _ => ?_)
  | ((with_reducible show rNeU _ (.bl _) (.bl _) _ _); refine i_neB rfl ?_)
  | ((with_reducible show rEqU _ (.bl _) (.bl _) _ _); refine i_eqB rfl ?_)
  | ((with_reducible show rNeU _ (.str _) (.str _) _ _); refine i_neS rfl ?_)
  | ((with_reducible show rEqU _ (.str _) (.str _) _ _); refine i_eqS rfl ?_) | fail)
/-! deep data -/
local macro_rules | `(tactic| wtm_at "td") => `(tactic| first
  | with_reducible assumption
  | exact TD.tm (by with_reducible assumption) (by wtm_at "tm")
  | exact PartAt.td (by wtm_at "lkP") | fail)
local macro_rules | `(tactic| wtm_at "tl") => `(tactic| first
  | with_reducible assumption
  | exact TL.tm (by with_reducible assumption) (by wtm_at "tm") | fail)
/-! pairs that are written -/
local macro_rules | `(tactic| wtm_at "lkP") => `(tactic| first
  | exact part01 (by wtm_at "lkT1")
  | exact part11 (by wtm_at "lkT1")
  | exact partI (by wtm_at "lkT1")
  | exact partLit (by wtm_at "lkT1") (by decide) (by decide) | fail)
variable {P : Program} {w : World} {K : PySem.W.Frag} {mg : Str → Option Value} {base : Heap}
theorem Dv.neg {D B : Nat} {q : Rat} (h : Dv D B q) : Dv D B (-q) := ⟨h.1, by have := h.2; grind, by have := h.2; grind⟩
theorem negAbs {K : PySem.W.Frag} {H : Hp} {p : Addr} {q : Rat} (h : Tp K H p [.int (0 - (q.num.natAbs : Int)), .int (q.den : Int)]) : ∃ q', PartAt K H p q' ∧ (q' = q ∨ q' = -q) := by
  by_cases c : 0 ≤ q.num
  · refine ⟨-q, ⟨?_⟩, .inr rfl⟩
    have e1 : (-q).num = 0 - (q.num.natAbs : Int) := by
      rw [Rat.neg_num]
      omega
    have e2 : (-q).den = q.den := rfl
    rw [e1, e2]
    exact h
  · refine ⟨q, ⟨?_⟩, .inl rfl⟩
    have e1 : q.num = 0 - (q.num.natAbs : Int) := by omega
    rw [← e1] at h
    exact h
theorem pow_step {a b k : Nat} {D s : Nat} (h : D < 2 ^ (a + 10 * k)) (hs : s ≤ 1024) : D * s < 2 ^ (a + 10 * (k + 1)) := by
  have e : a + 10 * (k + 1) = (a + 10 * k) + 10 := by omega
  rw [e, Nat.pow_add]
  have := Nat.mul_le_mul (Nat.le_refl D) hs
  have h2 : D * 1024 < 2 ^ (a + 10 * k) * 1024 := Nat.mul_lt_mul_of_pos_right h (by decide)
  exact Nat.lt_of_le_of_lt this h2
abbrev s_law_totals : Stmt := topS 36
theorem sc_law_totals : FnScope ["store", "most", "kind", "size", "hair", "power", "below", "found", "here", "k", "step", "one"] ["store", "most"] (defScope s_law_totals) := ⟨rfl, rfl, rfl, by decide +kernel, rfl, by decide +kernel, by decide +kernel⟩
theorem ok_law_totals {f : Addr} {fd : FuncData} {dvs : List V} {kws : List (Str × V)} (F : FunD K "_law_totals" "_law_totals" (defArgs s_law_totals) (defBody s_law_totals) (defScope s_law_totals) dvs kws f fd) (O_law_draw : Own P w K mg base CX0 2 "_law_draw" ["store", "many"] [] spDraw) (O_law_part : Own P w K mg base CX0 1 "_law_part" ["above", "below"] [] (spPart K)) (O_law_small : Own P w K mg base CX0 3 "_law_small" ["store"] [] (spSmallD K))
    (O_plus : Own P w K mg base CX0 3 "plus" ["one", "other"] [] (spPP K CT (· + ·))) (O_times : Own P w K mg base CX0 3 "times" ["one", "other"] [] (spPP K CT (· * ·))) (n_range : mg "range" = none) (n_max : mg "max" = none) (n_min : mg "min" = none) (n_abs : mg "abs" = none) : FnG P w K mg base CX0 4 f fd ["store", "most"] (spTotals K) := by
  refine okG (k := 3) F sc_law_totals (fun vs H Q E h => ?_) (fun cdv A hG outer s H vs Q E hr h => ?_)
  · obtain ⟨a, b, c, d, rfl, _⟩ := h
    rfl
  · obtain ⟨st, gl, n, most, rfl, S, hn, m1, m2, k⟩ := h
    have c1 : Bd 20 (Rat.divInt 1 997) := bd_divInt (by decide) (by decide) (by decide)
    have c2 : Bd 20 (Rat.divInt 1 1000) := bd_divInt (by decide) (by decide) (by decide)
    have c3 : Bd 20 (Rat.divInt 1 991) := bd_divInt (by decide) (by decide) (by decide)
    have c4 : Bd 40 (Rat.divInt 1 997 * Rat.divInt 1 1000) := bd_mul c1 c2
    have c5 : Dv 988027000 1 (Rat.divInt 1 997 * Rat.divInt 1 1000 * Rat.divInt 1 991) := by
      have a1 := divInt_dv (a := 1) (b := 997) (B := 1) (by decide) (by decide) (by decide)
      have a2 := divInt_dv (a := 1) (b := 1000) (B := 1) (by decide) (by decide) (by decide)
      have a3 := divInt_dv (a := 1) (b := 991) (B := 1) (by decide) (by decide) (by decide)
      exact (a1.mul a2).mul a3
    refine ⟨_, (pss_cons (ps_set (i := 2) sc_law_totals.nd rfl (Or.inl rfl) (pe_own O_law_draw hG (hr.mono (by decide)) pass0 (pa_cons (pv 0) (pa_cons pe_int pa_nil)))) (pss_cons (ps_set (i := 3) sc_law_totals.nd rfl (Or.inl rfl) (pe_ix (k_ix K) (pe_lst (pa_cons pe_int (pa_cons pe_int (pa_cons (pv 1) pa_nil)))) (pe_own O_law_draw hG (hr.mono (by decide)) pass0 (pa_cons (pv 0) (pa_cons pe_int pa_nil))) (fun _ _ => rfl))) (pss_cons (ps_set (i := 4) sc_law_totals.nd rfl (Or.inl rfl) (pe_own O_times hG (hr.mono (by decide)) pass0 (pa_cons (pe_own O_times hG (hr.mono (by decide)) pass0 (pa_cons (pe_tup (pa_cons pe_int (pa_cons pe_int pa_nil))) (pa_cons (pe_tup (pa_cons pe_int (pa_cons pe_int pa_nil))) pa_nil))) (pa_cons (pe_tup (pa_cons pe_int (pa_cons pe_int pa_nil))) pa_nil)))) (pss_cons (ps_for PassesOwn.never rfl (pi_range1 (by rfl) n_range (pa_cons (pe_own O_law_draw hG (hr.mono (by decide)) pass0 (pa_cons (pv 0) (pa_cons pe_int pa_nil))) pa_nil)) (pg_name (i := 5) sc_law_totals.nd rfl (Or.inl rfl)) (pss_one (ps_set (i := 4) sc_law_totals.nd rfl (Or.inl rfl) (pe_own O_times hG (hr.mono (by decide)) pass0 (pa_cons (pv 4) (pa_cons (pv 4) pa_nil)))))) (pss_cons (ps_set (i := 6) sc_law_totals.nd rfl (Or.inl rfl) (pe_ix (k_ix K) (pe_lst (pa_cons pe_int (pa_cons pe_int (pa_cons pe_int (pa_cons pe_int (pa_cons pe_int (pa_cons pe_int (pa_cons pe_int pa_nil)))))))) (pe_own O_law_draw hG (hr.mono (by decide)) pass0 (pa_cons (pv 0) (pa_cons pe_int pa_nil))) (fun _ _ => rfl))) (pss_cons (ps_set (i := 7) sc_law_totals.nd rfl (Or.inl rfl) (pe_lst pa_nil)) (pss_cons (ps_set (i := 8) sc_law_totals.nd rfl (Or.inl rfl) (pe_op op_sub (pe_own O_law_draw hG (hr.mono (by decide)) pass0 (pa_cons (pv 0) (pa_cons pe_int pa_nil))) pe_int)) (pss_cons (ps_for PassesOwn.never rfl (pi_range1 (by rfl) n_range (pa_cons (pe_own O_law_draw hG (hr.mono (by decide)) pass0 (pa_cons (pv 0) (pa_cons (pe_op (k_add K) (pv 3) pe_int) pa_nil))) pa_nil)) (pg_name (i := 9) sc_law_totals.nd rfl (Or.inl rfl)) (pss_cons (ps_set (i := 10) sc_law_totals.nd rfl (Or.inl rfl) (pe_own O_law_draw hG (hr.mono (by decide)) pass0 (pa_cons (pv 0) (pa_cons (pe_ix (k_ix K) (pe_lst (pa_cons pe_int (pa_cons pe_int (pa_cons pe_int pa_nil)))) (pe_own O_law_draw hG (hr.mono (by decide)) pass0 (pa_cons (pv 0) (pa_cons pe_int pa_nil))) (fun _ _ => rfl)) pa_nil)))) (pss_cons (ps_set (i := 8) sc_law_totals.nd rfl (Or.inl rfl) (pe_op (k_add K) (pv 8) (pe_ix (k_ix K) (pe_lst (pa_cons (pe_op op_sub (pv 10) pe_int) (pa_cons (pv 10) (pa_cons (pe_op op_sub pe_int (pv 10)) (pa_cons (pe_op op_mulU (pv 10) (pe_op op_sub pe_int (pe_op op_mulU pe_int (pe_op op_modN (pv 9) pe_int)))) (pa_cons pe_int (pa_cons (pv 10) pa_nil))))))) (pv 2) (fun _ _ => rfl)))) (pss_cons (ps_set (i := 8) sc_law_totals.nd rfl (Or.inl rfl) (pe_callB (call_maxU rfl) (by rfl) n_max bt_max (pa_cons (pe_un un_neg (pe_op op_pow pe_int pe_int)) (pa_cons (pe_callB (call_minU rfl) (by rfl) n_min bt_min (pa_cons (pe_op op_pow pe_int pe_int) (pa_cons (pv 8) pa_nil))) pa_nil)))) (pss_cons (ps_set (i := 11) sc_law_totals.nd rfl (Or.inl rfl) (pe_own O_law_part hG (hr.mono (by decide)) pass0 (pa_cons (pv 8) (pa_cons (pv 6) pa_nil)))) (pss_cons (ps_if ((pw_and (pt_cmpR (k_eq K hr) (pv 2) pe_int (nomark _)) (pw_and1 (pt_cmpR (k_eq K hr) (pe_own O_law_draw hG (hr.mono (by decide)) pass0 (pa_cons (pv 0) (pa_cons pe_int pa_nil))) pe_int (nomark _))))).pt (pss_one (ps_set (i := 11) sc_law_totals.nd rfl (Or.inl rfl) (pe_own O_law_small hG (hr.mono (by decide)) pass0 (pa_cons (pv 0) pa_nil)))) pss_nil) (pss_cons (ps_if (pt_cmpR (k_eq K hr) (pv 2) pe_int (nomark _)) (pss_one (ps_set (i := 11) sc_law_totals.nd rfl (Or.inl rfl) (pe_tup (pa_cons (pe_op op_sub pe_int (pe_callB (call_absU) (by rfl) n_abs bt_abs (pa_cons (pe_ix (k_ix K) (pv 11) pe_int (fun _ _ => rfl)) pa_nil))) (pa_cons (pe_ix (k_ix K) (pv 11) pe_int (fun _ _ => rfl)) pa_nil))))) pss_nil) (pss_cons (ps_if (pt_cmpR (k_eq K hr) (pe_own O_law_draw hG (hr.mono (by decide)) pass0 (pa_cons (pv 0) (pa_cons pe_int pa_nil))) pe_int (nomark _)) (pss_one (ps_set (i := 11) sc_law_totals.nd rfl (Or.inl rfl) (pe_own O_plus hG (hr.mono (by decide)) pass0 (pa_cons (pv 11) (pa_cons (pe_own O_times hG (hr.mono (by decide)) pass0 (pa_cons (pv 4) (pa_cons (pe_tup (pa_cons (pe_op op_sub (pe_own O_law_draw hG (hr.mono (by decide)) pass0 (pa_cons (pv 0) (pa_cons pe_int pa_nil))) pe_int) (pa_cons pe_int pa_nil))) pa_nil))) pa_nil))))) pss_nil) (pss_one (ps_expr (pe_bm PySem.F.plainAttrs_list PySem.F.slot_list_append PySem.F.type_list_append (mt_append) (pv 7) (pa_cons (pv 11) pa_nil)))))))))))) (pss_one (ps_ret (pv 7))))))))))), ?_⟩
    wtm_at "v"
    rename_i kind H1 k0 k1 S1 F1 pl H2 nl sl hl d1 H3 d10 d11 S3 F3
    refine i_ixM (SqL.of (by wtm_at "lk")) (by wtm_at "intL") (by omega) (by simp; omega) (fun size hsz => ?_)
    have hsize : 1 ≤ size ∧ size ≤ 120 := by
      simp only [List.mem_cons, List.not_mem_nil, or_false] at hsz
      omega
    wtm_at "v"
    rename_i ph H8 s8 hh8 cnt H9 cnt0 cnt1 S9 F9
    have hh9 : PartAt K H9 ph (Rat.divInt 1 997 * Rat.divInt 1 1000 * Rat.divInt 1 991) := by wtm_at "lkP"
    generalize Rat.divInt 1 997 * Rat.divInt 1 1000 * Rat.divInt 1 991 = hair at *
    have F09 : True ∧ Fx st gl H H9 := ⟨trivial, by wtm_at "fx"⟩
    refine i_rng1 (by omega) (by omega) ?_
    refine i_forR (fun i σ' H' => ∃ (ph : Addr) (hair : Rat) (Dh : Nat) (v5 : Option V), σ' = [some (.ref st), some (.int most), some (.int kind), some (.int size), some (.ref ph), v5, none, none, none, none, none, none] ∧ PartAt K H' ph hair ∧ Dv Dh 1 hair ∧ 0 < Dh ∧ Dh < 2 ^ (30 * 2 ^ i) ∧ StoreAt H' st gl (n + 300) ∧ Fx st gl H H') ⟨ph, hair, _, none, rfl, hh9, c5, by decide, by decide, S9.mono (by omega), F09.2⟩ ?_ ?_
    · rintro i σ' H10 hi ⟨ph, hair, Dh, v5, rfl, hh, hD, D0, D1, S10, F10⟩
      have z : i = 0 ∨ i = 1 ∨ i = 2 := by omega
      have z1 : 30 * 2 ^ i ≤ 3000 := by rcases z with rfl | rfl | rfl <;> decide
      have bh : Bd (30 * 2 ^ i) hair := hD.bd D0 D1 (by omega)
      have bh2 : Bd 4000 hair := bh.mono (by omega)
      wtm_at "v"
      refine ⟨_, _, _, _, rfl, by wtm_at "lkP", hD.mul hD, Nat.mul_pos D0 D0, ?_, by wtm_at "lkS", by wtm_at "fx"⟩
      rw [show 30 * 2 ^ (i + 1) = 30 * 2 ^ i + 30 * 2 ^ i by rw [Nat.pow_succ]; omega, Nat.pow_add]
      exact Nat.mul_lt_mul'' D1 D1
    rintro σ' H10 ⟨ph, hair, Dh, v5, rfl, hh, hD, D0, D1', S10, F10⟩
    have D1 : Dh < 2 ^ 120 := Nat.lt_of_lt_of_le D1' (Nat.pow_le_pow_right (by decide) (by
      have z : cnt.toNat = 0 ∨ cnt.toNat = 1 ∨ cnt.toNat = 2 := by omega
      rcases z with e | e | e <;> rw [e] <;> decide))
    clear D1'
    have bh : Bd 130 hair := hD.bd D0 (Nat.lt_of_lt_of_le D1 (by decide)) (by omega)
    wtm_at "v"
    refine i_ixM (SqL.of (by wtm_at "lk")) (by wtm_at "intL") (by omega) (by simp; omega) (fun bel hbel => ?_)
    have hbel : 1 ≤ bel ∧ bel ≤ 1000 := by
      simp only [List.mem_cons, List.not_mem_nil, or_false] at hbel
      omega
    wtm_at "v"
    rename_i pf H12 npf sf hf12 e3 H13 e30 e31 S13 F13 cn H14 cn0 cn1 S14 F14
    have n1 : pf ≠ st := by wtm_at "ne"
    have n2 : pf ≠ gl := by wtm_at "ne"
    have hf14 : H14 pf = some (.lst []) := by wtm_at "lk"
    have nH : New H pf := new_back (by wtm_at "fx") npf n1 n2
    have F014 : True ∧ Fx st gl H H14 := ⟨trivial, by wtm_at "fx"⟩
    have hh14 : PartAt K H14 ph hair := by wtm_at "lkP"
    have M0 : 0 < bel.natAbs * Dh := Nat.mul_pos (by omega) D0
    have M1 : bel.natAbs * Dh < 2 ^ (130 + 10 * 0) := by
      have := Nat.mul_lt_mul'' (show bel.natAbs < 2 ^ 10 by omega) D1
      rwa [← Nat.pow_add] at this
    refine i_rng1 (by omega) (by omega) ?_
    refine i_forR (fun i σ' H' => ∃ (here : Int) (v9 v10 v11 : Option V) (xs : List V) (qs : List Rat) (D : Nat), σ' = [some (.ref st), some (.int most), some (.int kind), some (.int size), some (.ref ph), v5, some (.int bel), some (.ref pf), some (.int here), v9, v10, v11] ∧ H' pf = some (.lst xs) ∧ TL K H' xs (qs.map dP) ∧ qs.length = i ∧ 0 < D ∧ D < 2 ^ (130 + 10 * i) ∧ (bel.natAbs * Dh) ∣ D ∧ (∀ q ∈ qs, Dv D (2 ^ 24) q) ∧ PartAt K H' ph hair ∧ StoreAt H' st gl (n + 600 + 2000 * i) ∧ Fx st gl H H') ⟨e3 - 1000, none, none, none, [], [], bel.natAbs * Dh, rfl, hf14, TL.nil, rfl, M0, M1, Nat.dvd_refl _, by simp, hh14, S14.mono (by omega), F014.2⟩ ?_ ?_
    · rintro i σ' H15 hi ⟨here, v9, v10, v11, xs, qs, D, rfl, hf, tl, hql, D0', D1', Dd, hqD, hh, S15, F15⟩
      have hi2 : i ≤ 120 := by omega
      wtm_at "v"
      refine i_ixM (SqL.of (by wtm_at "lk")) (by wtm_at "intL") (by omega) (by simp; omega) (fun c hc => ?_)
      have hc3 : 1 ≤ c ∧ c ≤ 20000 := by
        simp only [List.mem_cons, List.not_mem_nil, or_false] at hc
        omega
      wtm_at "v"
      refine i_ixM (SqL.of (by wtm_at "lk")) (by wtm_at "intL") (by omega) (by simp; omega) (fun c2 _ => ?_)
      wtm_at "v"
      rename_i step _ _ _ _ _ _ _ _ _ _ _ _ _ _ _
      generalize hhe : max (-1000000) (min 1000000 (here + c2)) = he at *
      have he1 : -1000000 ≤ he ∧ he ≤ 1000000 := by omega
      clear hhe
      refine c_part (by omega) (natAbs_up (n := 22) (by omega) (by decide)) (natAbs_up (n := 22) (by omega) (by decide)) (fun po H18 s18 h18 => ?_)
      have q0 : Dv bel.natAbs (2 ^ 22) (Rat.divInt he bel) := divInt_dv (by omega) (by omega) (by omega)
      generalize Rat.divInt he bel = q at *
      wtm_at "vi"
      refine i_cut (fun σ' H' => ∃ (po : Addr) (q : Rat) (s : Nat), σ' = [some (.ref st), some (.int most), some (.int kind), some (.int size), some (.ref ph), v5, some (.int bel), some (.ref pf), some (.int he), some (.int (0 + i)), some (.int step), some (.ref po)] ∧ PartAt K H' po q ∧ 0 < s ∧ s ≤ 1000 ∧ Dv (bel.natAbs * s) (2 ^ 22) q ∧ StoreAt H' st gl (n + 600 + 2000 * i + 1400) ∧ Fx st gl H15 H') ?_ ?_
      · intro N hN
        wtm_at "v"
        with_reducible refine ite_d (fun c5 => ?_) (fun c5 => ?_)
        · wtm_at "v"
          with_reducible refine ite_d (fun c6 => ?_) (fun c6 => ?_)
          · wtm_at "v"
            refine c_smallD (by wtm_at "lkS") (by omega) (fun x p H20 bx dx hx S20 F20 => ?_)
            wtm_at "v"
            exact hN _ _ ⟨p, x, x.den, rfl, hx, x.den_pos, dx, bx.dv.up (Nat.dvd_mul_left ..) (Nat.le_refl _), S20.mono (by omega), by wtm_at "fx"⟩
          · wtm_at "v"
            exact hN _ _ ⟨po, q, 1, rfl, by wtm_at "lkP", by decide, by decide, by rwa [Nat.mul_one], StoreAt.mono (by wtm_at "lkS") (by omega), by wtm_at "fx"⟩
        · wtm_at "v"
          exact hN _ _ ⟨po, q, 1, rfl, by wtm_at "lkP", by decide, by decide, by rwa [Nat.mul_one], StoreAt.mono (by wtm_at "lkS") (by omega), by wtm_at "fx"⟩
      rintro σ' H21 ⟨po, q, s, rfl, hq, s0, s1, qD, S21, F21⟩
      wtm_at "vi"
      refine i_cut (fun σ' H' => ∃ (po : Addr) (q : Rat), σ' = [some (.ref st), some (.int most), some (.int kind), some (.int size), some (.ref ph), v5, some (.int bel), some (.ref pf), some (.int he), some (.int (0 + i)), some (.int step), some (.ref po)] ∧ PartAt K H' po q ∧ Dv (bel.natAbs * s) (2 ^ 22) q ∧ StoreAt H' st gl (n + 600 + 2000 * i + 1400) ∧ Fx st gl H15 H') ?_ ?_
      · intro N hN
        wtm_at "v"
        with_reducible refine ite_d (fun c5 => ?_) (fun c5 => ?_)
        · wtm_at "v"
          rename_i pn Hn nn sn tn
          obtain ⟨q', hq', e'⟩ := negAbs (by wtm_at "lkT" : Tp K Hn pn [.int (0 - (q.num.natAbs : Int)), .int (q.den : Int)])
          exact hN _ _ ⟨pn, q', rfl, hq', e'.elim (fun h => h ▸ qD) (fun h => h ▸ qD.neg), S21.same sn, by wtm_at "fx"⟩
        · wtm_at "v"
          exact hN _ _ ⟨po, q, rfl, hq, qD, S21, F21⟩
      rintro σ' H22 ⟨po, q, rfl, hq, qD, S22, F22⟩
      wtm_at "vi"
      have bs : bel.natAbs * s < 2 ^ 20 := Nat.mul_lt_mul'' (a := bel.natAbs) (b := s) (c := 2 ^ 10) (d := 2 ^ 10) (by omega) (by omega)
      have bs0 : 0 < bel.natAbs * s := Nat.mul_pos (by omega) s0
      have bq : Bd 100 q := qD.bd bs0 (Nat.lt_of_lt_of_le bs (by decide)) (by omega)
      refine i_cut (fun σ' H' => ∃ (po : Addr) (q : Rat), σ' = [some (.ref st), some (.int most), some (.int kind), some (.int size), some (.ref ph), v5, some (.int bel), some (.ref pf), some (.int he), some (.int (0 + i)), some (.int step), some (.ref po)] ∧ PartAt K H' po q ∧ Dv (bel.natAbs * s * Dh) (2 ^ 24) q ∧ StoreAt H' st gl (n + 600 + 2000 * i + 2000) ∧ Fx st gl H15 H') ?_ ?_
      · intro N hN
        have hh22 : PartAt K H22 ph hair := by wtm_at "lkP"
        wtm_at "v"
        with_reducible refine ite_d (fun c5 => ?_) (fun c5 => ?_)
        · wtm_at "v"
          rename_i d H25 d0 d1 S25 F25 pp H26 n26 s26 t26
          have bi : Bd 10 ((d - 4 : Int) : Rat) := ⟨by show (d - 4).natAbs < 2 ^ 10; omega, by show 1 < 2 ^ 10; decide⟩
          have b2 : Bd 200 (hair * ((d - 4 : Int) : Rat)) := (bd_mul bh bi).mono (by decide)
          wtm_at "v"
          refine hN _ _ ⟨_, _, rfl, by with_reducible assumption, ?_, StoreAt.mono (by wtm_at "lkS") (by omega), by wtm_at "fx"⟩
          have e1 : Dv (Dh * 1) (1 * 5) (hair * ((d - 4 : Int) : Rat)) := hD.mul (int_dv (by omega) (by omega))
          have e2 : Dv (bel.natAbs * s * Dh) (2 ^ 22) q := qD.up (Nat.dvd_mul_right ..) (Nat.le_refl _)
          have e3 := e2.add (e1.up (by rw [Nat.mul_one]; exact Nat.dvd_mul_left ..) (Nat.le_refl _))
          exact e3.up (Nat.dvd_refl _) (by decide)
        · wtm_at "v"
          exact hN _ _ ⟨po, q, rfl, by wtm_at "lkP", qD.up (Nat.dvd_mul_right ..) (by decide), StoreAt.mono (by wtm_at "lkS") (by omega), by wtm_at "fx"⟩
      rintro σ' H23 ⟨po, q, rfl, hq, qD, S23, F23⟩
      have hf23 : H23 pf = some (.lst xs) := b_lst F23 n1 n2 hf
      have tlr := tl.refs
      have lx : xs.length = i := by rw [tl.len, List.length_map, hql]
      wtm_at "v"
      refine i_bmL hf23 ?_
      wtm_at "v"
      refine i_append hf23 (by omega) (fun H24 f24 h24 => ?_)
      wtm_at "v"
      refine ⟨he, _, _, _, xs ++ [.ref po], qs ++ [q], D * s, rfl, h24, ?_, by simp [hql], Nat.mul_pos D0' s0, pow_step (b := 0) D1' (by omega), Nat.dvd_trans Dd (Nat.dvd_mul_right ..), ?_, by wtm_at "lkP", StoreAt.mono (StoreAt.fx1 S23 hf23 tlr n1 n2 f24) (by omega), fx_new1 nH (F15.trans F23) f24⟩
      · rw [List.map_append]
        exact TL.snoc (by wtm_at "tl") (by wtm_at "td")
      · intro q2 hq2
        rcases List.mem_append.mp hq2 with h | h
        · exact (hqD q2 h).up (Nat.dvd_mul_right ..) (Nat.le_refl _)
        · obtain rfl := List.mem_singleton.mp h
          refine qD.up ?_ (Nat.le_refl _)
          rw [show bel.natAbs * s * Dh = bel.natAbs * Dh * s by rw [Nat.mul_assoc, Nat.mul_comm s, ← Nat.mul_assoc]]
          exact Nat.mul_dvd_mul_right Dd s
    · rintro σ' H24 ⟨here, v9, v10, v11, xs, qs, D, rfl, hf, tl, hql, D0', D1', Dd, hqD, hh, S15, F15⟩
      wtm_at "v"
      exact k pf xs qs D H24 nH n1 n2 hf tl (by omega) D0' (Nat.lt_of_lt_of_le D1' (Nat.pow_le_pow_right (by decide) (by omega))) hqD (S15.mono (by omega)) F15
end
section
local macro_rules | `(tactic| wtm_at "lkP") => `(tactic| first
  | with_reducible assumption
  | exact PartK.pt (by with_reducible assumption)
  | exact PartAt.tm (by with_reducible assumption) (by wtm_at "tm") | fail)
/-! ### the steps as one word: wtm_at "v1" a step, wtm_at "v" as many as go -/
local macro_rules | `(tactic| wtm_at "tm") => `(tactic| first
  | exact Tm.refl _
  | exact Tm.same (by with_reducible assumption)
  | exact Tm.fx (by with_reducible assumption)
  | (refine Tm.trans ?_ (Tm.same (by with_reducible assumption)); wtm_at "tm")
  | (refine Tm.trans ?_ (Tm.fx (by with_reducible assumption)); wtm_at "tm") | fail)
local macro_rules | `(tactic| wtm_at "lkT1") => `(tactic| first
  | with_reducible assumption
  | exact TpK.tp (by with_reducible assumption)
  | exact TpH.tm (by with_reducible assumption) (by wtm_at "tm")
  | exact Tp.tm (by with_reducible assumption) (by wtm_at "tm")
  | exact Tp.of (by with_reducible assumption) | fail)
local macro_rules | `(tactic| wtm_at "lkT") => `(tactic| first
  | wtm_at "lkT1"
  | exact PartAt.tpe (by wtm_at "lkP") (by rfl)
  | fail)
local macro_rules | `(tactic| wtm_at "lk") => `(tactic| first
  | assumption
  | exact b_get (by assumption) (by wtm_at "lk")
  | exact b_lst (by assumption) (by wtm_at "ne") (by wtm_at "ne") (by wtm_at "lk") | fail)
local macro_rules | `(tactic| wtm_at "lkL") => `(tactic| first
  | assumption
  | exact SqL.of (by wtm_at "lk")
  | exact b_L (by assumption) (by wtm_at "lkL") | fail)
local macro_rules | `(tactic| wtm_at "intL") => `(tactic| first | exact IntL.nil | exact IntL.cons (by wtm_at "intL") | fail)
local macro_rules | `(tactic| wtm_at "lkS0") => `(tactic| first
  | with_reducible assumption
  | exact StoreAt.same (by with_reducible assumption) (by wtm_at "lkS0") | fail)
local macro_rules | `(tactic| wtm_at "lkS") => `(tactic| first
  | with_reducible assumption
  | exact StoreAt.from (by with_reducible assumption) (by wtm_at "sm") | fail)
local macro_rules | `(tactic| wtm_at "ne") => `(tactic| first
  | assumption
  | exact Ne.symm (by assumption)
  | exact st_ne1 (by with_reducible assumption) (by wtm_at "lkS0")
  | exact st_ne2 (by with_reducible assumption) (by wtm_at "lkS0")
  | exact new_ne (by assumption) (by wtm_at "lk")
  | exact new_ne' (by assumption) (by wtm_at "lk") | fail)
local macro_rules | `(tactic| wtm_at "sm") => `(tactic| first
  | with_reducible assumption
  | exact Same.refl _
  | (refine Same.trans ?_ (by with_reducible assumption); wtm_at "sm") | fail)
local macro_rules | `(tactic| wtm_at "fx") => `(tactic| first
  | with_reducible assumption
  | exact Fx.same (Same.refl _)
  | exact Fx.same (by with_reducible assumption)
  | (refine Fx.trans ?_ (by with_reducible assumption); wtm_at "fx")
  | (refine Fx.trans ?_ (Fx.same (by with_reducible assumption)); wtm_at "fx") | fail)
local macro_rules | `(tactic| wtm_at "v0") => `(tactic| first
  | with_reducible refine i_seq ?_ | with_reducible refine i_asg ?_ | with_reducible refine i_var rfl ?_ | with_reducible refine i_c ?_ | with_reducible refine i_name ?_
  | with_reducible refine i_op ?_ | with_reducible refine i_ifS ?_ | with_reducible refine i_test ?_ | with_reducible refine i_tB ?_
  | with_reducible refine i_cons ?_ | with_reducible refine i_nil ?_ | with_reducible refine i_call ?_ | with_reducible refine i_callN ?_ | with_reducible refine i_callX ?_ | with_reducible refine i_callNX ?_ | with_reducible refine i_cb ?_
  | with_reducible refine i_tup ?_ | with_reducible refine i_lst ?_ | with_reducible refine i_ret ?_ | with_reducible refine i_retN ?_ | with_reducible refine i_drop ?_
  | with_reducible refine i_next ?_ | with_reducible refine i_par ?_ | with_reducible refine i_par2 ?_ | with_reducible refine i_ifE ?_ | with_reducible refine i_un ?_
  | with_reducible refine i_and ?_ | with_reducible refine i_or ?_ | with_reducible refine i_not ?_ | with_reducible refine i_andV ?_ | with_reducible refine i_orV ?_ | with_reducible refine i_notV ?_
  | with_reducible refine i_notV2 ?_ | with_reducible refine i_bif (A := fun _ => _) ?_ | with_reducible refine i_brk ?_ | with_reducible refine i_ctn ?_
  | with_reducible refine i_abs ?_ | with_reducible refine i_min ?_ | with_reducible refine i_max ?_ | with_reducible refine i_for ?_ | with_reducible refine i_iR1 ?_ | with_reducible refine i_iR2 ?_ | with_reducible refine i_iL ?_ | with_reducible refine i_iT ?_ | with_reducible refine i_wb ?_
  | with_reducible refine i_sl ?_ | with_reducible refine i_no ?_ | with_reducible refine i_so ?_ | with_reducible refine i_exI ?_ | with_reducible refine i_exB ?_ | with_reducible refine i_gcons ?_ | with_reducible refine i_gnil ?_ | with_reducible refine i_bm ?_ | with_reducible refine i_gsub ?_ | with_reducible refine i_lc ?_ | with_reducible refine i_yes ?_ | with_reducible refine i_iE ?_
  | with_reducible refine ite_1 ?_ | with_reducible refine i_pow6 ?_ | with_reducible refine i_pow18 ?_ | with_reducible refine i_pow30 ?_
  | with_reducible refine i_addI ?_ | with_reducible refine i_I0 ?_ | with_reducible refine i_U ?_ | with_reducible refine i_eqI ?_ | with_reducible refine i_neI ?_ | fail)
local macro_rules | `(tactic| wtm_at "v1") => `(tactic| first
  | wtm_at "v0"
  | ((with_reducible show rIx _ _ _ _ _); first | refine i_ixT (by wtm_at "lkT") rfl ?_ | refine i_ixL (by wtm_at "lkL") rfl ?_)
  | ((with_reducible show rLenU _ _ _ _); first | refine i_lenT (by wtm_at "lkT") ?_ | refine i_lenL (by wtm_at "lkL") ?_)
  | ((with_reducible show spDraw _ _ _ _); refine c_draw (by wtm_at "lkS") (by first | decide | omega) (by first | decide | omega) (by omega) ?_; intro _ _ _ _ _ _)
  | (with_reducible refine i_newTH (by first | decide | (simp; done)) ?_; intro _ _ _ _ _)
  | (with_reducible refine i_newL (by first | decide | (simp; done)) ?_; intro _ _ _ _ _) | fail)
local macro_rules | `(tactic| wtm_at "v") => `(tactic| repeat wtm_at "v1")
local macro_rules | `(tactic| wtm_at "vi") => `(tactic| repeat ((fail_if_success (with_reducible show tIfS _ _ _ _ _ _)); wtm_at "v1"))
/-! ### data shown and compared: found by themselves -/
local macro_rules | `(tactic| wtm_at "bd") => `(tactic| first | assumption | exact Bd.mono (by assumption) (by decide) | fail)
local macro_rules | `(tactic| wtm_at "bi") => `(tactic| first | exact natAbs_up (by assumption) (by decide) | exact natAbs_up (n := 64) (by decide) (by decide) | exact natAbs_up (n := 64) (by omega) (by decide) | fail)
local macro_rules | `(tactic| wtm_at "dpA") => `(tactic| first | exact DpAll.nil | exact DpAll.cons (by wtm_at "dp") (by wtm_at "dpA") | fail)
local macro_rules | `(tactic| wtm_at "dp") => `(tactic| first
  | exact Dp.int _ | exact Dp.bl _ | exact Dp.non | exact Dp.str _
  | exact dp_PA (by wtm_at "lkP")
  | exact Dp.tup (Tp.sq (by wtm_at "lkT")) (by wtm_at "dpA")
  | exact Dp.lst (by wtm_at "lkL") (by wtm_at "dpA") | fail)
local macro_rules | `(tactic| wtm_at "okA") => `(tactic| first | exact OkAll.nil' | exact OkAll.cons' (by wtm_at "ok") (by wtm_at "okA") | fail)
local macro_rules | `(tactic| wtm_at "ok") => `(tactic| first
  | ((with_reducible show Ok _ _ (dP _)); exact ok_P (by wtm_at "bd"))
  | exact Ok.int (by wtm_at "bi") | exact Ok.bool _ | exact Ok.none
  | ((with_reducible show Ok _ _ (.list _)); exact Ok.lst' (by wtm_at "okA")) | ((with_reducible show Ok _ _ (.tuple _)); exact Ok.tup' (by wtm_at "okA")) | fail)
local macro_rules | `(tactic| wtm_at "shA") => `(tactic| first | exact ShAll.nil | (refine ShAll.cons ?ha ?hb; (case ha => wtm_at "sh"); (case hb => wtm_at "shA")) | exact ShAll.ints _ | fail)
local macro_rules | `(tactic| wtm_at "sh") => `(tactic| first
  | ((with_reducible show Sh _ (dP _)); exact sh_P _)
  | exact Sh.int _ | exact Sh.bool _ | exact Sh.none | (refine Sh.lst ?_; wtm_at "shA") | (refine Sh.tup ?_; wtm_at "shA") | fail)
local macro_rules | `(tactic| wtm_at "v0") => `(tactic| first
  | ((with_reducible refine i_lens ?ha ?hb ?_); (case ha => rfl); (case hb => rfl))
  | with_reducible refine ite_0 ?_ | with_reducible refine ite_n0 ?_ | with_reducible refine ite_n1 ?_
  | ((with_reducible show rEqU _ (.ref _) (.ref _) _ _); refine i_eqP (by wtm_at "lkP") (by wtm_at "lkP") ?_)
  | ((with_reducible show rNeU _ (.ref _) (.ref _) _ _); refine i_neP (by wtm_at "lkP") (by wtm_at "lkP") ?_)
  | ((with_reducible show rEqU _ (.ref _) (.ref _) _ _); refine i_eqD (by wtm_at "dp") (by wtm_at "dp") (Sh.shaped (n := 9) (by wtm_at "sh") (by decide)) (Sh.shaped (n := 9) (by wtm_at "sh") (by decide)) ?_)
  | ((with_reducible show rNeU _ (.ref _) (.ref _) _ _); refine i_neD (by wtm_at "dp") (by wtm_at "dp") (Sh.shaped (n := 9) (by wtm_at "sh") (by decide)) (Sh.shaped (n := 9) (by wtm_at "sh") (by decide)) ?_)
  | ((with_reducible show rReprD _ _ _ _); refine i_repr (by wtm_at "dp") (by wtm_at "ok") (Nat.le_of_ble_eq_true rfl) (Nat.le_of_ble_eq_true rfl) ?_) | fail)
/-! calls of the reckoning; what is alike is alike -/
local macro_rules | `(tactic| wtm_at "v0") => `(tactic| first
  | ((with_reducible show spPP _ CT _ _ _ _ _); refine c_PP (by wtm_at "lkP") (by wtm_at "lkP") (by wtm_at "bd") (by wtm_at "bd") True.intro ?_; intro _ _ _ _)
  | ((with_reducible show spLess _ _ _ _ _); refine c_less (by wtm_at "lkP") (by wtm_at "lkP") (by wtm_at "bd") (by wtm_at "bd") ?_)
  | with_reducible refine ite_n (fun c => absurd rfl c) (fun _ => ?_)
  | ((with_reducible show rNeU _ (.bl _) (.bl _) _ _); refine i_neB rfl ?_)
  | ((with_reducible show rEqU _ (.bl _) (.bl _) _ _); refine i_eqB rfl ?_)
  | ((with_reducible show rNeU _ (.str _) (.str _) _ _); refine i_neS rfl ?_)
  | ((with_reducible show rEqU _ (.str _) (.str _) _ _); refine i_eqS rfl ?_) | fail)
/-! pairs that are written -/
local macro_rules | `(tactic| wtm_at "lkP") => `(tactic| first
  | exact part01 (by wtm_at "lkT1")
  | exact part11 (by wtm_at "lkT1")
  | exact partI (by wtm_at "lkT1")
  | exact partLit (by wtm_at "lkT1") (by decide) (by decide) | fail)
/-! deep data -/
local macro_rules | `(tactic| wtm_at "td") => `(tactic| first
  | with_reducible assumption
  | exact TD.tm (by with_reducible assumption) (by wtm_at "tm")
  | exact PartAt.td (by wtm_at "lkP") | fail)
local macro_rules | `(tactic| wtm_at "tl") => `(tactic| first
  | with_reducible assumption
  | exact TL.tm (by with_reducible assumption) (by wtm_at "tm") | fail)
/-! stops ahead of what is compared or shown -/
local macro_rules | `(tactic| wtm_at "vq") => `(tactic| repeat ((fail_if_success (with_reducible show rEqU _ (.ref _) _ _ _)); (fail_if_success (with_reducible show rNeU _ (.ref _) _ _ _)); (fail_if_success (with_reducible show rReprD _ _ _ _)); wtm_at "v1"))
variable {P : Program} {w : World} {K : PySem.W.Frag} {mg : Str → Option Value} {base : Heap}
/-! ### judged by data alone -/
def isPartD : PyData → Bool
  | .tuple [.int a, .int b] => decide (0 < b) && decide (Int.gcd a b = 1)
  | _ => false
def isAmtD : PyData → Bool
  | .tuple [.int a, .int b] => (decide (0 < b) && decide (Int.gcd a b = 1)) && decide (0 ≤ a)
  | _ => false
def isTupD : PyData → Bool
  | .tuple _ => true
  | _ => false
def isKnotD : PyData → Bool
  | .tuple [a, b] => isPartD a && isPartD b
  | _ => false
theorem isPartD_P (q : Rat) : isPartD (dP q) = true := by
  have g : Int.gcd q.num q.den = 1 := by
    have := q.reduced
    simpa [Int.gcd, Nat.Coprime] using this
  show (decide (0 < (q.den : Int)) && decide (Int.gcd q.num q.den = 1)) = true
  rw [g, decide_eq_true (den_gt q)]
  rfl
theorem isPartD_inv {d : PyData} (h : isPartD d = true) : ∃ q, d = dP q := by
  unfold isPartD at h
  split at h
  · next a b =>
    have h := Bool.and_eq_true_iff.mp h
    have h1 : 0 < b := of_decide_eq_true h.1
    have h2 : Int.gcd a b = 1 := of_decide_eq_true h.2
    refine ⟨⟨a, b.toNat, by omega, ?_⟩, ?_⟩
    · unfold Nat.Coprime
      unfold Int.gcd at h2
      rwa [show b.natAbs = b.toNat by omega] at h2
    · show PyData.tuple [.int a, .int b] = .tuple [.int a, .int ((b.toNat : Nat) : Int)]
      rw [show ((b.toNat : Nat) : Int) = b by omega]
  · cases h
theorem isKnotD_inv {d : PyData} (h : isKnotD d = true) : ∃ k : Kn, d = dK k := by
  unfold isKnotD at h
  split at h
  · next a b =>
    have h := Bool.and_eq_true_iff.mp h
    obtain ⟨p, rfl⟩ := isPartD_inv h.1
    obtain ⟨q, rfl⟩ := isPartD_inv h.2
    exact ⟨(p, q), rfl⟩
  · cases h
theorem isKnotD_K (k : Kn) : isKnotD (dK k) = true := by
  show (isPartD (dP k.1) && isPartD (dP k.2)) = true
  rw [isPartD_P, isPartD_P]
  rfl
theorem allKnots_inv : ∀ {ds : List PyData}, (∀ d ∈ ds, isKnotD d = true) → ∃ ks : List Kn, ds = ks.map dK
  | [], _ => ⟨[], rfl⟩
  | d :: ds, h => by
    obtain ⟨k, rfl⟩ := isKnotD_inv (h d (List.mem_cons_self ..))
    obtain ⟨ks, rfl⟩ := allKnots_inv fun e he => h e (List.mem_cons_of_mem _ he)
    exact ⟨k :: ks, rfl⟩
theorem Ok.int_lt {n m : Nat} {a : Int} (h : Ok n m (.int a)) : a.natAbs < 2 ^ 1920 := by
  have := h.sh
  simp only [PyData.showable, decide_eq_true_eq] at this
  rcases (by omega : a.natAbs = 0 ∨ a.natAbs ≠ 0) with e | e
  · rw [e]
    exact Nat.pow_pos (by decide)
  · exact (Nat.log2_lt e).mp this
theorem Ok.at {n m : Nat} {ds : List PyData} (h : Ok n m (.tuple ds)) {d : PyData} (hd : d ∈ ds) : d.showable = true := by
  have := h.sh
  simp only [PyData.showable] at this
  have go : ∀ ds : List PyData, PyData.showableAll ds = true → ∀ d ∈ ds, d.showable = true := fun ds => by
    induction ds with
    | nil => intro _ d hd; cases hd
    | cons e es ih =>
      intro h d hd
      simp only [PyData.showableAll, Bool.and_eq_true] at h
      rcases List.mem_cons.mp hd with rfl | hd
      · exact h.1
      · exact ih h.2 d hd
  exact go ds this d hd
theorem show_int {a : Int} (h : (PyData.int a).showable = true) : a.natAbs < 2 ^ 1920 := by
  simp only [PyData.showable, decide_eq_true_eq] at h
  rcases (by omega : a.natAbs = 0 ∨ a.natAbs ≠ 0) with e | e
  · rw [e]
    exact Nat.pow_pos (by decide)
  · exact (Nat.log2_lt e).mp h
theorem JD.known {m n : Addr} {H : Hp} {v : V} {d : PyData} (h : JD K m n H v d) : Known K H v := by
  cases h with
  | int i => exact .nt (.int i)
  | bl b => exact .nt (.bl b)
  | non => exact .nt .non
  | str z => exact .nt (.str z)
  | tup h l a => exact .tup h
  | lst h hm hn l a => exact .nt (.lst (SqL.of h))
theorem JD.tyT {m n : Addr} {H : Hp} {v : V} {d : PyData} (h : JD K m n H v d) : ∃ t, TyX K H v (.type t) ∧ kitB t "tuple" = some (isTupD d) := by
  cases h with
  | int i => exact let ⟨t, _, _, a, _, _, _, b⟩ := (NT.int i : NT K H _).ty; ⟨t, a, b⟩
  | bl i => exact let ⟨t, _, _, a, _, _, _, b⟩ := (NT.bl i : NT K H _).ty; ⟨t, a, b⟩
  | non => exact let ⟨t, _, _, a, _, _, _, b⟩ := (NT.non : NT K H _).ty; ⟨t, a, b⟩
  | str i => exact let ⟨t, _, _, a, _, _, _, b⟩ := (NT.str i : NT K H _).ty; ⟨t, a, b⟩
  | tup h l a => exact ⟨_, ty_tup h, kb_tuple_tuple⟩
  | lst h hm hn l a => exact let ⟨t, _, _, a, _, _, _, b⟩ := (NT.lst (SqL.of h) : NT K H _).ty; ⟨t, a, b⟩
theorem isPartD_len {ds : List PyData} (h : ds.length ≠ 2) : isPartD (.tuple ds) = false ∧ isAmtD (.tuple ds) = false := by
  constructor
  · unfold isPartD
    split
    · next e => cases e; exact absurd rfl h
    · rfl
  · unfold isAmtD
    split
    · next e => cases e; exact absurd rfl h
    · rfl
theorem Thing.lenD {H : Hp} {p : Addr} {xs : List V} {ds : List PyData} (h : Tp K H p xs) (l : xs.length = ds.length) (n : xs.length ≠ 2) : Thing K H (.ref p) (isPartD (.tuple ds)) (isAmtD (.tuple ds)) := by
  obtain ⟨a, b⟩ := isPartD_len (ds := ds) (by omega)
  rw [a, b]
  exact .len h n
theorem isTupD_inv {d : PyData} (h : isTupD d = true) : ∃ ds, d = .tuple ds := by
  cases d
  case tuple ds => exact ⟨ds, rfl⟩
  all_goals exact absurd h (by simp [isTupD])
theorem isKnotD_not {d : PyData} (h : isTupD d = false) : isKnotD d = false := by
  cases d
  case tuple ds => exact absurd h (by simp [isTupD])
  all_goals rfl
theorem isKnotD_len {ds : List PyData} (h : ds.length ≠ 2) : isKnotD (.tuple ds) = false := by
  unfold isKnotD
  split
  · next e => cases e; exact absurd rfl h
  · rfl
theorem JD.thing {m n : Addr} {H : Hp} {v : V} {d : PyData} (h : JD K m n H v d) (o : d.showable = true) : Thing K H v (isPartD d) (isAmtD d) := by
  cases h with
  | int i => exact .oth (.int i)
  | bl b => exact .oth (.bl b)
  | non => exact .oth .non
  | str z => exact .oth (.str z)
  | lst h hm hn l a => exact .oth (.lst (SqL.of h))
  | @tup p xs ds h l a =>
    have at_ : ∀ (i : Nat) (h1 : i < xs.length) (h2 : i < ds.length), JD K m n H xs[i] ds[i] := a
    match xs, ds, l, h, at_, o with
    | [], [], _, h, _, _ => exact .len h (by simp)
    | [x], [d], _, h, _, _ => exact Thing.lenD h (by simp) (by simp)
    | x :: y :: z :: r, d :: e :: f :: s, l, h, _, _ => exact Thing.lenD h l (by simp)
    | [x, y], [d, e], _, h, at_, o =>
      have a0 : JD K m n H x d := at_ 0 (by simp) (by simp)
      have a1 : JD K m n H y e := at_ 1 (by simp) (by simp)
      have ox : d.showable = true ∧ e.showable = true := by
        simpa only [PyData.showable, PyData.showableAll, Bool.and_true, Bool.and_eq_true] using o
      have kx := a0.known
      have ky := a1.known
      cases a0 with
      | int i =>
        cases a1 with
        | int j => exact .two h (Nat.lt_of_lt_of_le (show_int ox.1) (Nat.pow_le_pow_right (by decide) (by decide))) (Nat.lt_of_lt_of_le (show_int ox.2) (Nat.pow_le_pow_right (by decide) (by decide)))
        | _ => exact .odd h kx ky rfl
      | _ => exact .odd h kx ky rfl
theorem low_eq {a b : Int} (hb : 0 < b) : PyData.eqv (dP (Rat.divInt a b)) (.tuple [.int a, .int b]) = decide (Int.gcd a b = 1) := by
  obtain ⟨n, rfl⟩ : ∃ n : Nat, b = n := ⟨b.toNat, by omega⟩
  have e : PyData.eqv (dP (Rat.divInt a n)) (.tuple [.int a, .int n]) = decide ((Rat.divInt a n).num = a ∧ ((Rat.divInt a n).den : Int) = n) := by
    rw [Bool.eq_iff_iff]
    simp [dP, PyData.eqv, PyData.eqvAll]
  rw [e]
  refine decide_eq_decide.mpr ⟨fun ⟨h1, h2⟩ => ?_, fun h => ?_⟩
  · have r := (Rat.divInt a n).reduced
    rw [h1, show (Rat.divInt a n).den = n by omega] at r
    simpa [Int.gcd, Nat.Coprime] using r
  · have c : Nat.Coprime a.natAbs n := by simpa [Int.gcd, Nat.Coprime] using h
    have : Rat.divInt a n = ⟨a, n, by omega, c⟩ := Rat.num_divInt_den ⟨a, n, by omega, c⟩
    rw [this]
    exact ⟨rfl, rfl⟩
def spLawP (K : PySem.W.Frag) : Sp := fun vs H Q _ => ∃ v b c, vs = [v] ∧ Thing K H v b c ∧ ∀ H', Same H H' → Q (.bl b) H'
theorem c_lawP {v : V} {b c : Bool} {H : Hp} {Q : VK} {E : XK} (h1 : Thing K H v b c) (h : ∀ H', Same H H' → Q (.bl b) H') : spLawP K ([v] ++ []) H Q E := ⟨v, b, c, rfl, h1, h⟩
/-! ### papers: rows of triples, judged by data -/
noncomputable def isRowsB (d : PyData) (x : Rat) (qs : List Rat) : Bool := @decide (d = dRows (rowsTo x qs qs.length)) (Classical.propDecidable _)
theorem isRowsB_no {d : PyData} {x : Rat} {qs : List Rat} (h : d ≠ dRows (rowsTo x qs qs.length)) : isRowsB d x qs = false := @decide_eq_false _ (Classical.propDecidable _) h
theorem isRowsB_yes {d : PyData} {x : Rat} {qs : List Rat} (h : d = dRows (rowsTo x qs qs.length)) : isRowsB d x qs = true := @decide_eq_true _ (Classical.propDecidable _) h
def isTripD : PyData → Bool
  | .tuple [a, b, c] => isPartD a && (isPartD b && isPartD c)
  | _ => false
theorem isTripD_row (r : Row) : isTripD (dRow r) = true := by
  show (isPartD (dP r.now) && (isPartD (dP r.inall) && isPartD (dP r.debt))) = true
  rw [isPartD_P, isPartD_P, isPartD_P]
  rfl
theorem isTripD_inv {d : PyData} (h : isTripD d = true) : ∃ r : Row, d = dRow r := by
  unfold isTripD at h
  split at h
  · next a b c =>
    obtain ⟨h1, h⟩ := Bool.and_eq_true_iff.mp h
    obtain ⟨h2, h3⟩ := Bool.and_eq_true_iff.mp h
    obtain ⟨p, rfl⟩ := isPartD_inv h1
    obtain ⟨q, rfl⟩ := isPartD_inv h2
    obtain ⟨r, rfl⟩ := isPartD_inv h3
    exact ⟨⟨p, q, r⟩, rfl⟩
  · cases h
theorem isTripD_not {d : PyData} (h : isTupD d = false) : isTripD d = false := by
  cases d
  case tuple ds => exact absurd h (by simp [isTupD])
  all_goals rfl
theorem isTripD_len {ds : List PyData} (h : ds.length ≠ 3) : isTripD (.tuple ds) = false := by
  unfold isTripD
  split
  · next e => cases e; exact absurd rfl h
  · rfl
theorem allTrips_inv : ∀ {ds : List PyData}, (∀ d ∈ ds, isTripD d = true) → ∃ rs : List Row, ds = rs.map dRow
  | [], _ => ⟨[], rfl⟩
  | d :: ds, h => by
    obtain ⟨k, rfl⟩ := isTripD_inv (h d (List.mem_cons_self ..))
    obtain ⟨ks, rfl⟩ := allTrips_inv fun e he => h e (List.mem_cons_of_mem _ he)
    exact ⟨k :: ks, rfl⟩
theorem dP_inj' {p q : Rat} (h : dP p = dP q) : p = q := by
  injection h with h
  injection h with h1 h2
  injection h2 with h2 _
  injection h1 with h1
  injection h2 with h2
  exact Rat.ext h1 (by omega)
theorem dRow_inj {r s : Row} (h : dRow r = dRow s) : r = s := by
  obtain ⟨a, b, c⟩ := r
  obtain ⟨a', b', c'⟩ := s
  injection h with h
  injection h with h1 h
  injection h with h2 h
  injection h with h3 _
  obtain rfl : a = a' := dP_inj' h1
  obtain rfl : b = b' := dP_inj' h2
  obtain rfl : c = c' := dP_inj' h3
  rfl
theorem eqv_row {r s : Row} : PyData.eqv (dRow r) (dRow s) = true ↔ r = s := by
  have e : PyData.eqv (dRow r) (dRow s) = (decide (r.now = s.now) && (decide (r.inall = s.inall) && (decide (r.debt = s.debt) && true))) := by
    show PyData.eqv (.tuple [dP r.now, dP r.inall, dP r.debt]) (.tuple [dP s.now, dP s.inall, dP s.debt]) = _
    simp only [PyData.eqv, PyData.eqvAll]
    rw [eqv_P, eqv_P, eqv_P]
  rw [e]
  obtain ⟨a, b, c⟩ := r
  obtain ⟨a', b', c'⟩ := s
  simp
theorem isRows_at {rs : List Row} {x : Rat} {qs : List Rat} {i : Nat} {r : Row} (h : rs[i]? = some r) (n : r ≠ rowAt x qs (i + 1)) : isRowsB (.tuple (rs.map dRow)) x qs = false := isRowsB_no fun e => by
  have e := PyData.tuple.inj e
  have e1 : (rs.map dRow)[i]? = some (dRow r) := by rw [List.getElem?_map, h]; rfl
  rw [e, List.getElem?_map] at e1
  obtain ⟨r', h', e2⟩ := Option.map_eq_some_iff.mp e1
  obtain ⟨hl, e3⟩ := List.getElem?_eq_some_iff.mp h'
  have : r' = rowAt x qs (i + 1) := by
    rw [← e3]
    simp [rowsTo]
  exact n (by rw [← this, dRow_inj e2])
theorem isRows_all {rs : List Row} {x : Rat} {qs : List Rat} (l : rs.length = qs.length) (h : ∀ i r, rs[i]? = some r → r = rowAt x qs (i + 1)) : isRowsB (.tuple (rs.map dRow)) x qs = true := isRowsB_yes (by
  have : rs = rowsTo x qs qs.length := by
    apply List.ext_getElem?
    intro i
    cases e : rs[i]? with
    | none =>
      have := List.getElem?_eq_none_iff.mp e
      rw [List.getElem?_eq_none_iff.mpr (by rw [rowsTo_len]; omega)]
    | some r =>
      have hi := (List.getElem?_eq_some_iff.mp e).1
      rw [h i r e]
      simp [rowsTo, List.getElem?_range (show i < qs.length by omega)]
  rw [this]
  rfl)
theorem isRows_len {ds : List PyData} {x : Rat} {qs : List Rat} (h : ds.length ≠ qs.length) : isRowsB (.tuple ds) x qs = false := isRowsB_no fun e => h (by rw [PyData.tuple.inj e, List.length_map, rowsTo_len])
theorem isRows_trip {ds : List PyData} {d : PyData} {x : Rat} {qs : List Rat} (h : d ∈ ds) (n : isTripD d = false) : isRowsB (.tuple ds) x qs = false := isRowsB_no fun e => by
  rw [PyData.tuple.inj e] at h
  obtain ⟨r, _, rfl⟩ := List.mem_map.mp h
  rw [isTripD_row] at n
  cases n
/-- a paper: data, or an empty dict -/
structure PapD (K : PySem.W.Frag) (m n : Addr) (H : Hp) (v : V) (d : PyData) : Prop where
  j : JD K m n H v d
  o : Ok 10 16000000 d
  p : Pl d
def PapJ (K : PySem.W.Frag) (m n : Addr) (H : Hp) (v : V) : Prop := (∃ d, PapD K m n H v d) ∨ ∃ p, v = .ref p ∧ H p = some (.dK []) ∧ p ≠ m ∧ p ≠ n
theorem PapD.fx {m n : Addr} {H H' : Hp} {v : V} {d : PyData} (h : PapD K m n H v d) (e : Fx m n H H') : PapD K m n H' v d := ⟨h.j.fx e, h.o, h.p⟩
theorem PapJ.fx {m n : Addr} {H H' : Hp} {v : V} (h : PapJ K m n H v) (e : Fx m n H H') : PapJ K m n H' v := by
  rcases h with ⟨d, h⟩ | ⟨p, rfl, h, n1, n2⟩
  · exact .inl ⟨d, h.fx e⟩
  · exact .inr ⟨p, rfl, e.oth _ _ h n1 n2, n1, n2⟩
/-- what it is judged -/
def PapB (K : PySem.W.Frag) (H : Hp) (v : V) (x : Rat) (qs : List Rat) (b : Bool) : Prop := (∃ m n d, PapD K m n H v d ∧ b = isRowsB d x qs) ∨ ∃ p, v = .ref p ∧ H p = some (.dK []) ∧ b = false
theorem PapB.same {H H' : Hp} {v : V} {x : Rat} {qs : List Rat} {b : Bool} (h : PapB K H v x qs b) (e : Same H H') : PapB K H' v x qs b := by
  rcases h with ⟨m, n, d, h, rfl⟩ | ⟨p, rfl, h, rfl⟩
  · exact .inl ⟨m, n, d, h.fx (Fx.same e), rfl⟩
  · exact .inr ⟨p, rfl, e _ _ h, rfl⟩
theorem nt_rows (rs : List Row) : NTu (dRows rs) := .tup fun d hd => by
  obtain ⟨r, _, rfl⟩ := List.mem_map.mp hd
  refine .tup fun d hd => ?_
  have p : ∀ q : Rat, NTu (dP q) := fun q => .tup fun d hd => by
    simp only [List.mem_cons, List.not_mem_nil, or_false] at hd
    rcases hd with rfl | rfl <;> exact .int _
  simp only [List.mem_cons, List.not_mem_nil, or_false] at hd
  rcases hd with rfl | rfl | rfl <;> exact p _
/-- what it is asked: shown, and judged -/
theorem PapJ.use {m n : Addr} {H : Hp} {v : V} (h : PapJ K m n H v) (x : Rat) (qs : List Rat) : ∃ (z : Str) (b : Bool), (z = (dRows (rowsTo x qs qs.length)).shown ↔ b = true) ∧ ∀ H', Same H H' → (∀ Q : VK, Q (.str z) H' → rReprT K [v] H' Q) ∧ PapB K H' v x qs b := by
  rcases h with ⟨d, h⟩ | ⟨p, rfl, h, n1, n2⟩
  · refine ⟨d.shown, isRowsB d x qs, ⟨fun e => isRowsB_yes (shown_inj h.p (nt_rows _) e), fun e => ?_⟩, fun H' e => ⟨fun Q q => i_reprT (h.fx (Fx.same e)).j.dp h.o (by decide) (by decide) q, .inl ⟨m, n, d, h.fx (Fx.same e), rfl⟩⟩⟩
    rw [@of_decide_eq_true _ (Classical.propDecidable _) e]
  · exact ⟨(PyData.dict []).shown, false, ⟨fun e => absurd e (shown_dict (nt_rows _)), fun e => by cases e⟩, fun H' e => ⟨fun Q q => i_reprE (e _ _ h) q, .inr ⟨p, rfl, e _ _ h, rfl⟩⟩⟩
def spTrJ (K : PySem.W.Frag) : Sp := fun vs H Q _ => ∃ (v : V) (m n : Addr) (d : PyData), vs = [v] ∧ JD K m n H v d ∧ d.showable = true ∧ ∀ H', Same H H' → Q (.bl (isTripD d)) H'
theorem c_trJ {v : V} {m n : Addr} {d : PyData} {H : Hp} {Q : VK} {E : XK} (h : JD K m n H v d) (o : d.showable = true) (q : ∀ H', Same H H' → Q (.bl (isTripD d)) H') : spTrJ K ([v] ++ []) H Q E := ⟨v, m, n, d, rfl, h, o, q⟩
def spPR1 (K : PySem.W.Frag) (t : Bool) : Sp := fun vs H Q _ => ∃ (p px : Addr) (v : V) (qs : List Rat) (x : Rat) (D E B : Nat) (b : Bool), vs = [.ref p, v, .ref px] ∧ SqP K H p t qs ∧ PapB K H v x qs b ∧ PartAt K H px x ∧ Lim D E ∧ Shr E x ∧ (∀ q ∈ qs, Dv D B q) ∧ B ≤ 2 ^ 30 ∧ qs.length ≤ 122 ∧ ∀ H', Same H H' → Q (.bl b) H'
def spPR (K : PySem.W.Frag) : Sp := fun vs H Q E => ∃ t, spPR1 K t vs H Q E
theorem c_pr {p px : Addr} {v : V} {t : Bool} {qs : List Rat} {x : Rat} {D E B : Nat} {b : Bool} {H : Hp} {Q : VK} {E' : XK} (h1 : SqP K H p t qs) (hv : PapB K H v x qs b) (h2 : PartAt K H px x) (L : Lim D E) (S : Shr E x) (hq : ∀ q ∈ qs, Dv D B q) (hB : B ≤ 2 ^ 30) (hl : qs.length ≤ 122) (k : ∀ H', Same H H' → Q (.bl b) H') : spPR K [.ref p, v, .ref px] H Q E' := ⟨t, p, px, v, qs, x, D, E, B, b, rfl, h1, hv, h2, L, S, hq, hB, hl, k⟩
end
section
local macro_rules | `(tactic| wtm_at "lkP") => `(tactic| first
  | with_reducible assumption
  | exact PartK.pt (by with_reducible assumption)
  | exact PartAt.tm (by with_reducible assumption) (by wtm_at "tm") | fail)
/-! ### the steps as one word: wtm_at "v1" a step, wtm_at "v" as many as go -/
local macro_rules | `(tactic| wtm_at "tm") => `(tactic| first
  | exact Tm.refl _
  | exact Tm.same (by with_reducible assumption)
  | exact Tm.fx (by with_reducible assumption)
  | (refine Tm.trans ?_ (Tm.same (by with_reducible assumption)); wtm_at "tm")
  | (refine Tm.trans ?_ (Tm.fx (by with_reducible assumption)); wtm_at "tm") | fail)
local macro_rules | `(tactic| wtm_at "lkT1") => `(tactic| first
  | with_reducible assumption
  | exact TpK.tp (by with_reducible assumption)
  | exact TpH.tm (by with_reducible assumption) (by wtm_at "tm")
  | exact Tp.tm (by with_reducible assumption) (by wtm_at "tm")
  | exact Tp.of (by with_reducible assumption) | fail)
local macro_rules | `(tactic| wtm_at "lkT") => `(tactic| first
  | wtm_at "lkT1"
  | exact PartAt.tpe (by wtm_at "lkP") (by rfl)
  | fail)
local macro_rules | `(tactic| wtm_at "lk") => `(tactic| first
  | assumption
  | exact b_get (by assumption) (by wtm_at "lk")
  | exact b_lst (by assumption) (by wtm_at "ne") (by wtm_at "ne") (by wtm_at "lk") | fail)
local macro_rules | `(tactic| wtm_at "lkL") => `(tactic| first
  | assumption
  | exact SqL.of (by wtm_at "lk")
  | exact b_L (by assumption) (by wtm_at "lkL") | fail)
local macro_rules | `(tactic| wtm_at "intL") => `(tactic| first | exact IntL.nil | exact IntL.cons (by wtm_at "intL") | fail)
local macro_rules | `(tactic| wtm_at "lkS0") => `(tactic| first
  | with_reducible assumption
  | exact StoreAt.same (by with_reducible assumption) (by wtm_at "lkS0") | fail)
local macro_rules | `(tactic| wtm_at "lkS") => `(tactic| first
  | with_reducible assumption
  | exact StoreAt.from (by with_reducible assumption) (by wtm_at "sm") | fail)
local macro_rules | `(tactic| wtm_at "ne") => `(tactic| first
  | assumption
  | exact Ne.symm (by assumption)
  | exact st_ne1 (by with_reducible assumption) (by wtm_at "lkS0")
  | exact st_ne2 (by with_reducible assumption) (by wtm_at "lkS0")
  | exact new_ne (by assumption) (by wtm_at "lk")
  | exact new_ne' (by assumption) (by wtm_at "lk") | fail)
local macro_rules | `(tactic| wtm_at "sm") => `(tactic| first
  | with_reducible assumption
  | exact Same.refl _
  | (refine Same.trans ?_ (by with_reducible assumption); wtm_at "sm") | fail)
local macro_rules | `(tactic| wtm_at "fx") => `(tactic| first
  | with_reducible assumption
  | exact Fx.same (Same.refl _)
  | exact Fx.same (by with_reducible assumption)
  | (refine Fx.trans ?_ (by with_reducible assumption); wtm_at "fx")
  | (refine Fx.trans ?_ (Fx.same (by with_reducible assumption)); wtm_at "fx") | fail)
local macro_rules | `(tactic| wtm_at "v0") => `(tactic| first
  | with_reducible refine i_seq ?_ | with_reducible refine i_asg ?_ | with_reducible refine i_var rfl ?_ | with_reducible refine i_c ?_ | with_reducible refine i_name ?_
  | with_reducible refine i_op ?_ | with_reducible refine i_ifS ?_ | with_reducible refine i_test ?_ | with_reducible refine i_tB ?_
  | with_reducible refine i_cons ?_ | with_reducible refine i_nil ?_ | with_reducible refine i_call ?_ | with_reducible refine i_callN ?_ | with_reducible refine i_callX ?_ | with_reducible refine i_callNX ?_ | with_reducible refine i_cb ?_
  | with_reducible refine i_tup ?_ | with_reducible refine i_lst ?_ | with_reducible refine i_ret ?_ | with_reducible refine i_retN ?_ | with_reducible refine i_drop ?_
  | with_reducible refine i_next ?_ | with_reducible refine i_par ?_ | with_reducible refine i_par2 ?_ | with_reducible refine i_ifE ?_ | with_reducible refine i_un ?_
  | with_reducible refine i_and ?_ | with_reducible refine i_or ?_ | with_reducible refine i_not ?_ | with_reducible refine i_andV ?_ | with_reducible refine i_orV ?_ | with_reducible refine i_notV ?_
  | with_reducible refine i_notV2 ?_ | with_reducible refine i_bif (A := fun _ => _) ?_ | with_reducible refine i_brk ?_ | with_reducible refine i_ctn ?_
  | with_reducible refine i_abs ?_ | with_reducible refine i_min ?_ | with_reducible refine i_max ?_ | with_reducible refine i_for ?_ | with_reducible refine i_iR1 ?_ | with_reducible refine i_iR2 ?_ | with_reducible refine i_iL ?_ | with_reducible refine i_iT ?_ | with_reducible refine i_wb ?_
  | with_reducible refine i_sl ?_ | with_reducible refine i_no ?_ | with_reducible refine i_so ?_ | with_reducible refine i_exI ?_ | with_reducible refine i_exB ?_ | with_reducible refine i_gcons ?_ | with_reducible refine i_gnil ?_ | with_reducible refine i_bm ?_ | with_reducible refine i_gsub ?_ | with_reducible refine i_lc ?_ | with_reducible refine i_yes ?_ | with_reducible refine i_iE ?_
  | with_reducible refine ite_1 ?_ | with_reducible refine i_pow6 ?_ | with_reducible refine i_pow18 ?_ | with_reducible refine i_pow30 ?_
  | with_reducible refine i_addI ?_ | with_reducible refine i_I0 ?_ | with_reducible refine i_U ?_ | with_reducible refine i_eqI ?_ | with_reducible refine i_neI ?_ | fail)
local macro_rules | `(tactic| wtm_at "v1") => `(tactic| first
  | wtm_at "v0"
  | ((with_reducible show rIx _ _ _ _ _); first | refine i_ixT (by wtm_at "lkT") rfl ?_ | refine i_ixL (by wtm_at "lkL") rfl ?_)
  | ((with_reducible show rLenU _ _ _ _); first | refine i_lenT (by wtm_at "lkT") ?_ | refine i_lenL (by wtm_at "lkL") ?_)
  | ((with_reducible show spDraw _ _ _ _); refine c_draw (by wtm_at "lkS") (by first | decide | omega) (by first | decide | omega) (by omega) ?_; intro _ _ _ _ _ _)
  | (with_reducible refine i_newTH (by first | decide | (simp; done)) ?_; intro _ _ _ _ _)
  | (with_reducible refine i_newL (by first | decide | (simp; done)) ?_; intro _ _ _ _ _) | fail)
local macro_rules | `(tactic| wtm_at "v") => `(tactic| repeat wtm_at "v1")
local macro_rules | `(tactic| wtm_at "vi") => `(tactic| repeat ((fail_if_success (with_reducible show tIfS _ _ _ _ _ _)); wtm_at "v1"))
/-! ### data shown and compared: found by themselves -/
local macro_rules | `(tactic| wtm_at "bd") => `(tactic| first | assumption | exact Bd.mono (by assumption) (by decide) | fail)
local macro_rules | `(tactic| wtm_at "bi") => `(tactic| first | exact natAbs_up (by assumption) (by decide) | exact natAbs_up (n := 64) (by decide) (by decide) | exact natAbs_up (n := 64) (by omega) (by decide) | fail)
local macro_rules | `(tactic| wtm_at "dpA") => `(tactic| first | exact DpAll.nil | exact DpAll.cons (by wtm_at "dp") (by wtm_at "dpA") | fail)
local macro_rules | `(tactic| wtm_at "dp") => `(tactic| first
  | exact Dp.int _ | exact Dp.bl _ | exact Dp.non | exact Dp.str _
  | exact dp_PA (by wtm_at "lkP")
  | exact Dp.tup (Tp.sq (by wtm_at "lkT")) (by wtm_at "dpA")
  | exact Dp.lst (by wtm_at "lkL") (by wtm_at "dpA") | fail)
local macro_rules | `(tactic| wtm_at "okA") => `(tactic| first | exact OkAll.nil' | exact OkAll.cons' (by wtm_at "ok") (by wtm_at "okA") | fail)
local macro_rules | `(tactic| wtm_at "ok") => `(tactic| first
  | ((with_reducible show Ok _ _ (dP _)); exact ok_P (by wtm_at "bd"))
  | exact Ok.int (by wtm_at "bi") | exact Ok.bool _ | exact Ok.none
  | ((with_reducible show Ok _ _ (.list _)); exact Ok.lst' (by wtm_at "okA")) | ((with_reducible show Ok _ _ (.tuple _)); exact Ok.tup' (by wtm_at "okA")) | fail)
local macro_rules | `(tactic| wtm_at "shA") => `(tactic| first | exact ShAll.nil | (refine ShAll.cons ?ha ?hb; (case ha => wtm_at "sh"); (case hb => wtm_at "shA")) | exact ShAll.ints _ | fail)
local macro_rules | `(tactic| wtm_at "sh") => `(tactic| first
  | ((with_reducible show Sh _ (dP _)); exact sh_P _)
  | exact Sh.int _ | exact Sh.bool _ | exact Sh.none | (refine Sh.lst ?_; wtm_at "shA") | (refine Sh.tup ?_; wtm_at "shA") | fail)
local macro_rules | `(tactic| wtm_at "v0") => `(tactic| first
  | ((with_reducible refine i_lens ?ha ?hb ?_); (case ha => rfl); (case hb => rfl))
  | with_reducible refine ite_0 ?_ | with_reducible refine ite_n0 ?_ | with_reducible refine ite_n1 ?_
  | ((with_reducible show rEqU _ (.ref _) (.ref _) _ _); refine i_eqP (by wtm_at "lkP") (by wtm_at "lkP") ?_)
  | ((with_reducible show rNeU _ (.ref _) (.ref _) _ _); refine i_neP (by wtm_at "lkP") (by wtm_at "lkP") ?_)
  | ((with_reducible show rEqU _ (.ref _) (.ref _) _ _); refine i_eqD (by wtm_at "dp") (by wtm_at "dp") (Sh.shaped (n := 9) (by wtm_at "sh") (by decide)) (Sh.shaped (n := 9) (by wtm_at "sh") (by decide)) ?_)
  | ((with_reducible show rNeU _ (.ref _) (.ref _) _ _); refine i_neD (by wtm_at "dp") (by wtm_at "dp") (Sh.shaped (n := 9) (by wtm_at "sh") (by decide)) (Sh.shaped (n := 9) (by wtm_at "sh") (by decide)) ?_)
  | ((with_reducible show rReprD _ _ _ _); refine i_repr (by wtm_at "dp") (by wtm_at "ok") (Nat.le_of_ble_eq_true rfl) (Nat.le_of_ble_eq_true rfl) ?_) | fail)
/-! calls of the reckoning; what is alike is alike -/
local macro_rules | `(tactic| wtm_at "v0") => `(tactic| first
  | ((with_reducible show spPP _ CT _ _ _ _ _); refine c_PP (by wtm_at "lkP") (by wtm_at "lkP") (by wtm_at "bd") (by wtm_at "bd") True.intro ?_; intro _ _ _ _)
  | ((with_reducible show spLess _ _ _ _ _); refine c_less (by wtm_at "lkP") (by wtm_at "lkP") (by wtm_at "bd") (by wtm_at "bd") ?_)
  | with_reducible refine ite_n (fun c => absurd rfl c) (fun _ => ?_)
  | ((with_reducible show rNeU _ (.bl _) (.bl _) _ _); refine i_neB rfl ?_)
  | ((with_reducible show rEqU _ (.bl _) (.bl _) _ _); refine i_eqB rfl ?_)
  | ((with_reducible show rNeU _ (.str _) (.str _) _ _); refine i_neS rfl ?_)
  | ((with_reducible show rEqU _ (.str _) (.str _) _ _); refine i_eqS rfl ?_) | fail)
/-! pairs that are written -/
local macro_rules | `(tactic| wtm_at "lkP") => `(tactic| first
  | exact part01 (by wtm_at "lkT1")
  | exact part11 (by wtm_at "lkT1")
  | exact partI (by wtm_at "lkT1")
  | exact partLit (by wtm_at "lkT1") (by decide) (by decide) | fail)
/-! deep data -/
local macro_rules | `(tactic| wtm_at "td") => `(tactic| first
  | with_reducible assumption
  | exact TD.tm (by with_reducible assumption) (by wtm_at "tm")
  | exact PartAt.td (by wtm_at "lkP") | fail)
local macro_rules | `(tactic| wtm_at "tl") => `(tactic| first
  | with_reducible assumption
  | exact TL.tm (by with_reducible assumption) (by wtm_at "tm") | fail)
/-! stops ahead of what is compared or shown -/
local macro_rules | `(tactic| wtm_at "vq") => `(tactic| repeat ((fail_if_success (with_reducible show rEqU _ (.ref _) _ _ _)); (fail_if_success (with_reducible show rNeU _ (.ref _) _ _ _)); (fail_if_success (with_reducible show rReprD _ _ _ _)); wtm_at "v1"))
variable {P : Program} {w : World} {K : PySem.W.Frag} {mg : Str → Option Value} {base : Heap}
theorem ty_dict {H : Hp} {p : Addr} (h : H p = some (.dK [])) : TyX K H (.ref p) (.type "dict") := .base (.dK h)
abbrev s_is_triple : Stmt := topS 23
theorem sc_is_triple : FnScope ["thing", "one"] ["thing"] (defScope s_is_triple) := ⟨rfl, rfl, rfl, by decide +kernel, rfl, by decide +kernel, by decide +kernel⟩
theorem ok_is_triple {f : Addr} {fd : FuncData} (F : FunD K "is_triple" "is_triple" (defArgs s_is_triple) (defBody s_is_triple) (defScope s_is_triple) [] [] f fd) (O_is_part : Own P w K mg base CX0 2 "is_part" ["thing"] [] (spIsPart K)) (n_isinstance : mg "isinstance" = none) (n_len : mg "len" = none) (n_tuple : mg "tuple" = none) (n_all : mg "all" = none) : FnG P w K mg base CX0 3 f fd ["thing"] (spTrJ K) := by
  refine okG (k := 2) F sc_is_triple (fun vs H Q E h => ?_) (fun cdv A hG outer s H vs Q E hr h => ?_)
  · obtain ⟨a, b, c, d, rfl, _⟩ := h
    rfl
  · obtain ⟨v, m, n, d, rfl, h1, o, q⟩ := h
    obtain ⟨t, ty, kb⟩ := h1.tyT
    refine ⟨_, (pss_one (ps_ret (pe_and (pe_callB (k_isi K) (by rfl) n_isinstance bt_isinstance (pa_cons (pv 0) (pa_cons (pe_bltn (v := .ty "tuple") (by rfl) n_tuple (by decide +kernel) rfl) pa_nil))) (pe_and (pe_cmpR (k_eq K hr) (pe_callB (k_len K) (by rfl) n_len bt_len (pa_cons (pv 0) pa_nil)) pe_int (nomark _)) (pe_one (pe_callB (k_all K rfl) (by rfl) n_all bt_all (pa_cons (pe_lc (own := [("one", 1)]) rfl sc_is_triple.nd (k_piT K (pv 0)) (blkOk_by (N := ["thing", "one"]) (sc := defScope s_is_triple) (by decide +kernel)) (fun _ _ _ _ _ => (pg_name (i := 1) sc_is_triple.nd rfl (Or.inl rfl))) (fun _ _ _ _ _ => pts_nil) (fun _ _ _ _ _ => (pe_own O_is_part hG (hr.mono (by decide)) pass0 (pa_cons (pv 1) pa_nil)))) pa_nil))))))), ?_⟩
    wtm_at "vq"
    refine i_isi ty kb ?_
    refine i_exB ?_
    refine ite_b (fun e => ?_) (fun e => ?_)
    · obtain ⟨ds, rfl⟩ := isTupD_inv e
      obtain ⟨p, xs, rfl, t1, t2⟩ := h1.tupI
      have el := t2.len
      wtm_at "vq"
      with_reducible refine ite_d (fun c => ?_) (fun c => ?_)
      · obtain ⟨x, y, z, rfl⟩ : ∃ x y z, xs = [x, y, z] := by
          match xs, c with
          | [x, y, z], _ => exact ⟨x, y, z, rfl⟩
        obtain ⟨d1, d2, d3, rfl⟩ : ∃ d1 d2 d3, ds = [d1, d2, d3] := by
          match ds, el with
          | [d1, d2, d3], _ => exact ⟨d1, d2, d3, rfl⟩
        have ox : ∀ e ∈ [d1, d2, d3], e.showable = true := by
          have : d1.showable = true ∧ d2.showable = true ∧ d3.showable = true := by
            simpa only [PyData.showable, PyData.showableAll, Bool.and_true, Bool.and_eq_true] using o
          intro e he
          simp only [List.mem_cons, List.not_mem_nil, or_false] at he
          rcases he with rfl | rfl | rfl
          · exact this.1
          · exact this.2.1
          · exact this.2.2
        wtm_at "vq"
        refine i_itT t1 ?_
        refine i_lcT (xs := [x, y, z]) t1 (fun i => (([d1, d2, d3] : List PyData).take i).map fun d => V.bl (isPartD d)) rfl (fun A i u H2 nA hu hi sA hA => ?_) (fun A H2 nA sA hA => ?_)
        · obtain ⟨dk, hdk, jk⟩ := (t2.same sA).get hu
          wtm_at "vq"
          refine ⟨rfl, ?_⟩
          wtm_at "vq"
          refine c_isPart (jk.thing (ox dk (List.mem_of_getElem? hdk))) (fun H3 s3 => ?_)
          refine lc_yes nA (s3 _ _ hA) ?_ (by simp; omega) (sA.trans s3)
          rw [List.take_add_one, hdk, Option.toList_some, List.map_append]
          rfl
        wtm_at "vq"
        refine i_all (bs := [isPartD d1, isPartD d2, isPartD d3]) (SqL.of hA) ?_
        have e3 : isTripD (.tuple [d1, d2, d3]) = [isPartD d1, isPartD d2, isPartD d3].all id := by
          show (isPartD d1 && (isPartD d2 && isPartD d3)) = (isPartD d1 && (isPartD d2 && (isPartD d3 && true)))
          rw [Bool.and_true]
        have := q _ sA
        rwa [e3] at this
      · wtm_at "vq"
        rw [isTripD_len (by omega)] at q
        exact q _ (Same.refl _)
    · rw [isTripD_not e] at q
      wtm_at "vq"
      exact q _ (Same.refl _)
theorem nl_row (r : Row) : NL (dRow r) := .all fun d hd => by
  simp only [List.mem_cons, List.not_mem_nil, or_false] at hd
  rcases hd with rfl | rfl | rfl <;> exact nl_P _
abbrev s_payments_right : Stmt := topS 24
theorem sc_payments_right : FnScope ["totals", "thing", "share", "ahead", "last", "total", "row"] ["totals", "thing", "share"] (defScope s_payments_right) := ⟨rfl, rfl, rfl, by decide +kernel, rfl, by decide +kernel, by decide +kernel⟩
theorem ok_payments_rightL {f c_NOUGHT : Addr} {fd : FuncData} {dvs : List V} {kws : List (Str × V)} (F : FunD K "payments_right" "payments_right" (defArgs s_payments_right) (defBody s_payments_right) (defScope s_payments_right) dvs kws f fd) (mg_NOUGHT : mg "NOUGHT" = some (.ref c_NOUGHT)) (t_NOUGHT : PartK K c_NOUGHT 0)
    (O_need_share : Own P w K mg base CX0 5 "need_share" ["share"] [] (spNeed K)) (O_is_triple : Own P w K mg base CX0 3 "is_triple" ["thing"] [] (spTrJ K)) (O_paid_next : Own P w K mg base CX0 4 "paid_next" ["ahead", "total", "last", "share"] [] (spNext K)) (n_isinstance : mg "isinstance" = none) (n_len : mg "len" = none) (n_tuple : mg "tuple" = none) (n_all : mg "all" = none) (n_zip : mg "zip" = none) : FnG P w K mg base CX0 6 f fd ["totals", "thing", "share"] (spPR1 K false) := by
  refine okG (k := 5) F sc_payments_right (fun vs H Q E h => ?_) (fun cdv A hG outer s H vs Q E hr h => ?_)
  · obtain ⟨a, b, c, d, e, i, j, l, o, rfl, _⟩ := h
    rfl
  · obtain ⟨p, px, v, qs, x, D, E, B, b, rfl, ⟨ts, h1, h2⟩, hv, hx, L, S, hq, hB, hl, q⟩ := h
    have h1 : SqL K H p ts := h1
    have et : ts.length = qs.length := by simpa using h2.len
    have bx : Bd 4000 x := (L.bdR S.dv (by decide)).mono (by decide)
    refine ⟨_, (pss_cons (ps_expr (pe_own O_need_share hG (hr.mono (by decide)) pass0 (pa_cons (pv 2) pa_nil))) (pss_cons (ps_if ((pw_or (pt_not (pt_val (pe_callB (k_isi K) (by rfl) n_isinstance bt_isinstance (pa_cons (pv 1) (pa_cons (pe_bltn (v := .ty "tuple") (by rfl) n_tuple (by decide +kernel) rfl) pa_nil))))) (pw_or (pt_cmpR (k_ne K hr) (pe_callB (k_len K) (by rfl) n_len bt_len (pa_cons (pv 1) pa_nil)) (pe_callB (k_len K) (by rfl) n_len bt_len (pa_cons (pv 0) pa_nil)) (nomark _)) (pw_or1 (pt_not (pt_val (pe_callB (k_all K rfl) (by rfl) n_all bt_all (pa_cons (pe_lc (own := [("row", 6)]) rfl sc_payments_right.nd (k_piT K (pv 1)) (blkOk_by (N := ["totals", "thing", "share", "ahead", "last", "total", "row"]) (sc := defScope s_payments_right) (by decide +kernel)) (fun _ _ _ _ _ => (pg_name (i := 6) sc_payments_right.nd rfl (Or.inl rfl))) (fun _ _ _ _ _ => pts_nil) (fun _ _ _ _ _ => (pe_own O_is_triple hG (hr.mono (by decide)) pass0 (pa_cons (pv 6) pa_nil)))) pa_nil)))))))).pt (pss_one (ps_ret pe_bl)) pss_nil) (pss_cons (ps_set (i := 3) sc_payments_right.nd rfl (Or.inl rfl) (pe_tup (pa_cons (pe_glob (v := .ref c_NOUGHT) (by rfl) mg_NOUGHT rfl) (pa_cons (pe_glob (v := .ref c_NOUGHT) (by rfl) mg_NOUGHT rfl) (pa_cons (pe_glob (v := .ref c_NOUGHT) (by rfl) mg_NOUGHT rfl) pa_nil))))) (pss_cons (ps_set (i := 4) sc_payments_right.nd rfl (Or.inl rfl) (pe_glob (v := .ref c_NOUGHT) (by rfl) mg_NOUGHT rfl)) (pss_cons (ps_for PassesOwn.never rfl (k_piZLT K (by rfl) n_zip (pa_cons (pv 0) (pa_cons (pv 1) pa_nil))) (k_gt K 2 rfl (pgs_cons (pg_name (i := 5) sc_payments_right.nd rfl (Or.inl rfl)) (pgs_cons (pg_name (i := 6) sc_payments_right.nd rfl (Or.inl rfl)) pgs_nil))) (pss_cons (ps_if (pt_cmpR (k_ne K hr) (pv 6) (pe_own O_paid_next hG (hr.mono (by decide)) pass0 (pa_cons (pv 3) (pa_cons (pv 5) (pa_cons (pv 4) (pa_cons (pv 2) pa_nil))))) (nomark _)) (pss_one (ps_ret pe_bl)) pss_nil) (pss_cons (ps_set (i := 3) sc_payments_right.nd rfl (Or.inl rfl) (pv 6)) (pss_one (ps_set (i := 4) sc_payments_right.nd rfl (Or.inl rfl) (pv 5)))))) (pss_one (ps_ret pe_bl))))))), ?_⟩
    wtm_at "vq"
    refine c_need hx bx S.x0 S.x1 (fun H0 s0 => ?_)
    have h1 := b_L s0 h1
    have h2 := h2.tm (Tm.same s0)
    have hx := hx.mono s0
    have hv := hv.same s0
    rcases hv with ⟨m, n, d, ⟨j, o, _⟩, rfl⟩ | ⟨pd, rfl, hp, rfl⟩
    · obtain ⟨t, ty, kb⟩ := j.tyT
      have qf : isRowsB d x qs = false → ∀ H', Same H0 H' → Q (.bl false) H' := fun e H' sH => by
        have := q H' (s0.trans sH)
        rwa [e] at this
      wtm_at "vq"
      refine i_isi ty kb ?_
      wtm_at "vq"
      cases e : isTupD d with
      | false =>
        wtm_at "vq"
        exact qf (isRowsB_no fun ek => by rw [ek] at e; cases e) _ (Same.refl _)
      | true =>
        obtain ⟨ds, rfl⟩ := isTupD_inv e
        obtain ⟨pt, xs, rfl, t1, t2⟩ := j.tupI
        have el := t2.len
        wtm_at "vq"
        with_reducible refine ite_n (fun c => ?_) (fun c => ?_)
        · wtm_at "vq"
          exact qf (isRows_len (by omega)) _ (Same.refl _)
        have ll : xs.length = ts.length := by omega
        wtm_at "vq"
        refine i_itT t1 ?_
        refine i_lcT (xs := xs) t1 (fun i => (ds.take i).map fun d => V.bl (isTripD d)) rfl (fun A i y H2 nA hy hi sA hA => ?_) (fun A H2 nA sA hA => ?_)
        · obtain ⟨dk, hdk, jk⟩ := (t2.same sA).get hy
          wtm_at "vq"
          refine ⟨rfl, ?_⟩
          wtm_at "vq"
          refine c_trJ jk (o.at (List.mem_of_getElem? hdk)) (fun H3 s3 => ?_)
          refine lc_yes nA (s3 _ _ hA) ?_ (by simp; omega) (sA.trans s3)
          rw [List.take_add_one, hdk, Option.toList_some, List.map_append]
          rfl
        rw [el, List.take_length] at hA
        wtm_at "vq"
        refine i_all (bs := ds.map isTripD) (by rw [List.map_map]; exact SqL.of hA) ?_
        cases e3 : (ds.map isTripD).all id with
        | false =>
          wtm_at "vq"
          obtain ⟨b, hb, z⟩ := List.all_eq_false.mp e3
          obtain ⟨d, hd, rfl⟩ := List.mem_map.mp hb
          exact qf (isRows_trip hd (by simpa using z)) _ sA
        | true =>
          obtain ⟨rs, rfl⟩ := allTrips_inv (ds := ds) fun d hd => by
            have := List.all_eq_true.mp e3 (isTripD d) (List.mem_map.mpr ⟨d, hd, rfl⟩)
            exact this
          have w2 : TL K H2 xs (rs.map dRow) := (t2.same sA).td fun i hi => by
            rw [List.getElem_map]
            exact nl_row _
          have w1 := Tp.mono sA t1
          have g1 := b_L sA h1
          have g2 := h2.tm (Tm.same sA)
          have gx := hx.mono sA
          have qf : isRowsB (.tuple (rs.map dRow)) x qs = false → ∀ H', Same H2 H' → Q (.bl false) H' := fun e H' sH => qf e H' (sA.trans sH)
          have qt : isRowsB (.tuple (rs.map dRow)) x qs = true → ∀ H', Same H2 H' → Q (.bl true) H' := fun e H' sH => by
            have := q H' (s0.trans (sA.trans sH))
            rwa [e] at this
          have er : rs.length = qs.length := by
            rw [List.length_map] at el
            omega
          clear hA nA sA h1 h2 hx t1 t2 j s0
          wtm_at "vq"
          rename_i pa H3 n3 s3 t3
          have a3 : TD K H3 (.ref pa) (dRow (rowAt x qs 0)) := row_td (Tp.of t3.eq) t_NOUGHT.pt t_NOUGHT.pt t_NOUGHT.pt
          have w1 := Tp.mono s3 w1
          have w2 := w2.tm (Tm.same s3)
          have g1 := b_L s3 g1
          have g2 := g2.tm (Tm.same s3)
          have gx := gx.mono s3
          clear t3 n3
          refine i_iZLT ?_
          wtm_at "vq"
          refine i_itZLT g1 w1 ?_
          refine i_forZLT (xs := ts) (ys := xs) ll.symm (fun i σ' H' => ∃ (pb pl : Addr) (v5 v6 : Option V), σ' = [some (.ref p), some (.ref pt), some (.ref px), some (.ref pb), some (.ref pl), v5, v6] ∧ TD K H' (.ref pb) (dRow (rowAt x qs i)) ∧ PartAt K H' pl (tot qs i) ∧ (∀ (j : Nat) (r : Row), j < i → rs[j]? = some r → r = rowAt x qs (j + 1)) ∧ Same H3 H') ⟨pa, c_NOUGHT, none, none, rfl, a3, t_NOUGHT.pt, fun j r h => absurd h (by omega), Same.refl _⟩ ?_ ?_ ?_
          · rintro i σ' H' _ ⟨pb, pl, v5, v6, rfl, b1, b2, b3, s4⟩
            exact ⟨b_L s4 g1, Tp.mono s4 w1⟩
          · rintro i y z σ' H4 T H5 hy hz ⟨pb, pl, v5, v6, rfl, b1, b2, b3, s4⟩ nT sT hT
            obtain ⟨pt', tq, rfl, htq, hpt⟩ := (g2.tm (Tm.same (s4.trans sT))).part hy
            obtain ⟨r, hr_, gr⟩ := (w2.tm (Tm.same (s4.trans sT))).row hz
            obtain ⟨pr, _, _, _, rfl, _⟩ := id gr.row
            have hi : i < qs.length := (List.getElem?_eq_some_iff.mp htq).1
            have e1 := getD_at htq
            have hC : i * (2 * B) + 4 * B ≤ 2 ^ 40 := by
              have := Nat.mul_le_mul (show i ≤ 122 by omega) (show 2 * B ≤ 2 ^ 31 by omega)
              omega
            have o5 : True ∧ Same H3 H5 := ⟨trivial, s4.trans sT⟩
            have b1 := b1.tm (Tm.same sT)
            have b2 := b2.mono sT
            have gx := gx.mono o5.2
            refine i_gtup (Tp.of hT.eq) rfl ?_
            clear s4 sT nT hT
            wtm_at "vq"
            refine c_next b1 hpt b2 gx L S (hq tq (List.mem_of_getElem? htq)) (tot_ok hq i (by omega)) (row_ok S hq i (by omega)) hC (fun v H6 s6 t6 => ?_)
            have er1 : payNext x (rowAt x qs i) tq (tot qs i) = rowAt x qs (i + 1) := by
              rw [← e1]
              rfl
            rw [er1] at t6
            obtain ⟨p6, _, _, _, rfl, _⟩ := id t6.row
            refine i_neD (d := dRow r) (e := dRow (rowAt x qs (i + 1))) (gr.tm (Tm.same s6)).dp t6.dp (Sh.shaped (sh_row _) (by decide)) (Sh.shaped (sh_row _) (by decide)) ?_
            by_cases c : r = rowAt x qs (i + 1)
            · rw [eqv_row.mpr c]
              wtm_at "vq"
              refine ⟨pr, pt', _, _, rfl, ?_, ?_, fun k r' hk hr' => ?_, o5.2.trans s6⟩
              · rw [← c]
                exact gr.tm (Tm.same s6)
              · rw [e1]
                exact hpt.mono s6
              · rcases (by omega : k < i ∨ k = i) with h | rfl
                · exact b3 k r' h hr'
                · rw [hr_] at hr'
                  cases hr'
                  exact c
            · rw [show PyData.eqv (dRow r) (dRow (rowAt x qs (i + 1))) = false from Bool.eq_false_iff.mpr fun e => c (eqv_row.mp e)]
              wtm_at "vq"
              exact qf (isRows_at hr_ c) _ (s3.trans (o5.2.trans s6))
          · rintro σ' H4 ⟨pb, pl, v5, v6, rfl, b1, b2, b3, s4⟩
            wtm_at "vq"
            refine qt (isRows_all er fun i r h => b3 i r ?_ h) _ (s3.trans s4)
            have := (List.getElem?_eq_some_iff.mp h).1
            omega
    · wtm_at "vq"
      refine i_isi (ty_dict hp) kb_dict_tuple ?_
      wtm_at "vq"
      exact q _ s0

theorem ok_payments_rightT {f c_NOUGHT : Addr} {fd : FuncData} {dvs : List V} {kws : List (Str × V)} (F : FunD K "payments_right" "payments_right" (defArgs s_payments_right) (defBody s_payments_right) (defScope s_payments_right) dvs kws f fd) (mg_NOUGHT : mg "NOUGHT" = some (.ref c_NOUGHT)) (t_NOUGHT : PartK K c_NOUGHT 0)
    (O_need_share : Own P w K mg base CX0 5 "need_share" ["share"] [] (spNeed K)) (O_is_triple : Own P w K mg base CX0 3 "is_triple" ["thing"] [] (spTrJ K)) (O_paid_next : Own P w K mg base CX0 4 "paid_next" ["ahead", "total", "last", "share"] [] (spNext K)) (n_isinstance : mg "isinstance" = none) (n_len : mg "len" = none) (n_tuple : mg "tuple" = none) (n_all : mg "all" = none) (n_zip : mg "zip" = none) : FnG P w K mg base CX0 6 f fd ["totals", "thing", "share"] (spPR1 K true) := by
  refine okG (k := 5) F sc_payments_right (fun vs H Q E h => ?_) (fun cdv A hG outer s H vs Q E hr h => ?_)
  · obtain ⟨a, b, c, d, e, i, j, l, o, rfl, _⟩ := h
    rfl
  · obtain ⟨p, px, v, qs, x, D, E, B, b, rfl, ⟨ts, h1, h2⟩, hv, hx, L, S, hq, hB, hl, q⟩ := h
    have h1 : Tp K H p ts := h1
    have et : ts.length = qs.length := by simpa using h2.len
    have bx : Bd 4000 x := (L.bdR S.dv (by decide)).mono (by decide)
    refine ⟨_, (pss_cons (ps_expr (pe_own O_need_share hG (hr.mono (by decide)) pass0 (pa_cons (pv 2) pa_nil))) (pss_cons (ps_if ((pw_or (pt_not (pt_val (pe_callB (k_isi K) (by rfl) n_isinstance bt_isinstance (pa_cons (pv 1) (pa_cons (pe_bltn (v := .ty "tuple") (by rfl) n_tuple (by decide +kernel) rfl) pa_nil))))) (pw_or (pt_cmpR (k_ne K hr) (pe_callB (k_len K) (by rfl) n_len bt_len (pa_cons (pv 1) pa_nil)) (pe_callB (k_len K) (by rfl) n_len bt_len (pa_cons (pv 0) pa_nil)) (nomark _)) (pw_or1 (pt_not (pt_val (pe_callB (k_all K rfl) (by rfl) n_all bt_all (pa_cons (pe_lc (own := [("row", 6)]) rfl sc_payments_right.nd (k_piT K (pv 1)) (blkOk_by (N := ["totals", "thing", "share", "ahead", "last", "total", "row"]) (sc := defScope s_payments_right) (by decide +kernel)) (fun _ _ _ _ _ => (pg_name (i := 6) sc_payments_right.nd rfl (Or.inl rfl))) (fun _ _ _ _ _ => pts_nil) (fun _ _ _ _ _ => (pe_own O_is_triple hG (hr.mono (by decide)) pass0 (pa_cons (pv 6) pa_nil)))) pa_nil)))))))).pt (pss_one (ps_ret pe_bl)) pss_nil) (pss_cons (ps_set (i := 3) sc_payments_right.nd rfl (Or.inl rfl) (pe_tup (pa_cons (pe_glob (v := .ref c_NOUGHT) (by rfl) mg_NOUGHT rfl) (pa_cons (pe_glob (v := .ref c_NOUGHT) (by rfl) mg_NOUGHT rfl) (pa_cons (pe_glob (v := .ref c_NOUGHT) (by rfl) mg_NOUGHT rfl) pa_nil))))) (pss_cons (ps_set (i := 4) sc_payments_right.nd rfl (Or.inl rfl) (pe_glob (v := .ref c_NOUGHT) (by rfl) mg_NOUGHT rfl)) (pss_cons (ps_for PassesOwn.never rfl (k_piZA K (by rfl) n_zip (pa_cons (pv 0) (pa_cons (pv 1) pa_nil))) (k_gt K 2 rfl (pgs_cons (pg_name (i := 5) sc_payments_right.nd rfl (Or.inl rfl)) (pgs_cons (pg_name (i := 6) sc_payments_right.nd rfl (Or.inl rfl)) pgs_nil))) (pss_cons (ps_if (pt_cmpR (k_ne K hr) (pv 6) (pe_own O_paid_next hG (hr.mono (by decide)) pass0 (pa_cons (pv 3) (pa_cons (pv 5) (pa_cons (pv 4) (pa_cons (pv 2) pa_nil))))) (nomark _)) (pss_one (ps_ret pe_bl)) pss_nil) (pss_cons (ps_set (i := 3) sc_payments_right.nd rfl (Or.inl rfl) (pv 6)) (pss_one (ps_set (i := 4) sc_payments_right.nd rfl (Or.inl rfl) (pv 5)))))) (pss_one (ps_ret pe_bl))))))), ?_⟩
    wtm_at "vq"
    refine c_need hx bx S.x0 S.x1 (fun H0 s0 => ?_)
    have h1 := Tp.mono s0 h1
    have h2 := h2.tm (Tm.same s0)
    have hx := hx.mono s0
    have hv := hv.same s0
    rcases hv with ⟨m, n, d, ⟨j, o, _⟩, rfl⟩ | ⟨pd, rfl, hp, rfl⟩
    · obtain ⟨t, ty, kb⟩ := j.tyT
      have qf : isRowsB d x qs = false → ∀ H', Same H0 H' → Q (.bl false) H' := fun e H' sH => by
        have := q H' (s0.trans sH)
        rwa [e] at this
      wtm_at "vq"
      refine i_isi ty kb ?_
      wtm_at "vq"
      cases e : isTupD d with
      | false =>
        wtm_at "vq"
        exact qf (isRowsB_no fun ek => by rw [ek] at e; cases e) _ (Same.refl _)
      | true =>
        obtain ⟨ds, rfl⟩ := isTupD_inv e
        obtain ⟨pt, xs, rfl, t1, t2⟩ := j.tupI
        have el := t2.len
        wtm_at "vq"
        with_reducible refine ite_n (fun c => ?_) (fun c => ?_)
        · wtm_at "vq"
          exact qf (isRows_len (by omega)) _ (Same.refl _)
        have ll : xs.length = ts.length := by omega
        wtm_at "vq"
        refine i_itT t1 ?_
        refine i_lcT (xs := xs) t1 (fun i => (ds.take i).map fun d => V.bl (isTripD d)) rfl (fun A i y H2 nA hy hi sA hA => ?_) (fun A H2 nA sA hA => ?_)
        · obtain ⟨dk, hdk, jk⟩ := (t2.same sA).get hy
          wtm_at "vq"
          refine ⟨rfl, ?_⟩
          wtm_at "vq"
          refine c_trJ jk (o.at (List.mem_of_getElem? hdk)) (fun H3 s3 => ?_)
          refine lc_yes nA (s3 _ _ hA) ?_ (by simp; omega) (sA.trans s3)
          rw [List.take_add_one, hdk, Option.toList_some, List.map_append]
          rfl
        rw [el, List.take_length] at hA
        wtm_at "vq"
        refine i_all (bs := ds.map isTripD) (by rw [List.map_map]; exact SqL.of hA) ?_
        cases e3 : (ds.map isTripD).all id with
        | false =>
          wtm_at "vq"
          obtain ⟨b, hb, z⟩ := List.all_eq_false.mp e3
          obtain ⟨d, hd, rfl⟩ := List.mem_map.mp hb
          exact qf (isRows_trip hd (by simpa using z)) _ sA
        | true =>
          obtain ⟨rs, rfl⟩ := allTrips_inv (ds := ds) fun d hd => by
            have := List.all_eq_true.mp e3 (isTripD d) (List.mem_map.mpr ⟨d, hd, rfl⟩)
            exact this
          have w2 : TL K H2 xs (rs.map dRow) := (t2.same sA).td fun i hi => by
            rw [List.getElem_map]
            exact nl_row _
          have w1 := Tp.mono sA t1
          have g1 := Tp.mono sA h1
          have g2 := h2.tm (Tm.same sA)
          have gx := hx.mono sA
          have qf : isRowsB (.tuple (rs.map dRow)) x qs = false → ∀ H', Same H2 H' → Q (.bl false) H' := fun e H' sH => qf e H' (sA.trans sH)
          have qt : isRowsB (.tuple (rs.map dRow)) x qs = true → ∀ H', Same H2 H' → Q (.bl true) H' := fun e H' sH => by
            have := q H' (s0.trans (sA.trans sH))
            rwa [e] at this
          have er : rs.length = qs.length := by
            rw [List.length_map] at el
            omega
          clear hA nA sA h1 h2 hx t1 t2 j s0
          wtm_at "vq"
          rename_i pa H3 n3 s3 t3
          have a3 : TD K H3 (.ref pa) (dRow (rowAt x qs 0)) := row_td (Tp.of t3.eq) t_NOUGHT.pt t_NOUGHT.pt t_NOUGHT.pt
          have w1 := Tp.mono s3 w1
          have w2 := w2.tm (Tm.same s3)
          have g1 := Tp.mono s3 g1
          have g2 := g2.tm (Tm.same s3)
          have gx := gx.mono s3
          clear t3 n3
          refine i_iZA ?_
          wtm_at "vq"
          refine i_itZT g1 w1 ?_
          refine i_forZT (xs := ts) (ys := xs) ll.symm (fun i σ' H' => ∃ (pb pl : Addr) (v5 v6 : Option V), σ' = [some (.ref p), some (.ref pt), some (.ref px), some (.ref pb), some (.ref pl), v5, v6] ∧ TD K H' (.ref pb) (dRow (rowAt x qs i)) ∧ PartAt K H' pl (tot qs i) ∧ (∀ (j : Nat) (r : Row), j < i → rs[j]? = some r → r = rowAt x qs (j + 1)) ∧ Same H3 H') ⟨pa, c_NOUGHT, none, none, rfl, a3, t_NOUGHT.pt, fun j r h => absurd h (by omega), Same.refl _⟩ ?_ ?_ ?_
          · rintro i σ' H' ⟨pb, pl, v5, v6, rfl, b1, b2, b3, s4⟩
            exact ⟨Tp.mono s4 g1, Tp.mono s4 w1⟩
          · rintro i y z σ' H4 T H5 hy hz ⟨pb, pl, v5, v6, rfl, b1, b2, b3, s4⟩ nT sT hT
            obtain ⟨pt', tq, rfl, htq, hpt⟩ := (g2.tm (Tm.same (s4.trans sT))).part hy
            obtain ⟨r, hr_, gr⟩ := (w2.tm (Tm.same (s4.trans sT))).row hz
            obtain ⟨pr, _, _, _, rfl, _⟩ := id gr.row
            have hi : i < qs.length := (List.getElem?_eq_some_iff.mp htq).1
            have e1 := getD_at htq
            have hC : i * (2 * B) + 4 * B ≤ 2 ^ 40 := by
              have := Nat.mul_le_mul (show i ≤ 122 by omega) (show 2 * B ≤ 2 ^ 31 by omega)
              omega
            have o5 : True ∧ Same H3 H5 := ⟨trivial, s4.trans sT⟩
            have b1 := b1.tm (Tm.same sT)
            have b2 := b2.mono sT
            have gx := gx.mono o5.2
            refine i_gtup (Tp.of hT.eq) rfl ?_
            clear s4 sT nT hT
            wtm_at "vq"
            refine c_next b1 hpt b2 gx L S (hq tq (List.mem_of_getElem? htq)) (tot_ok hq i (by omega)) (row_ok S hq i (by omega)) hC (fun v H6 s6 t6 => ?_)
            have er1 : payNext x (rowAt x qs i) tq (tot qs i) = rowAt x qs (i + 1) := by
              rw [← e1]
              rfl
            rw [er1] at t6
            obtain ⟨p6, _, _, _, rfl, _⟩ := id t6.row
            refine i_neD (d := dRow r) (e := dRow (rowAt x qs (i + 1))) (gr.tm (Tm.same s6)).dp t6.dp (Sh.shaped (sh_row _) (by decide)) (Sh.shaped (sh_row _) (by decide)) ?_
            by_cases c : r = rowAt x qs (i + 1)
            · rw [eqv_row.mpr c]
              wtm_at "vq"
              refine ⟨pr, pt', _, _, rfl, ?_, ?_, fun k r' hk hr' => ?_, o5.2.trans s6⟩
              · rw [← c]
                exact gr.tm (Tm.same s6)
              · rw [e1]
                exact hpt.mono s6
              · rcases (by omega : k < i ∨ k = i) with h | rfl
                · exact b3 k r' h hr'
                · rw [hr_] at hr'
                  cases hr'
                  exact c
            · rw [show PyData.eqv (dRow r) (dRow (rowAt x qs (i + 1))) = false from Bool.eq_false_iff.mpr fun e => c (eqv_row.mp e)]
              wtm_at "vq"
              exact qf (isRows_at hr_ c) _ (s3.trans (o5.2.trans s6))
          · rintro σ' H4 ⟨pb, pl, v5, v6, rfl, b1, b2, b3, s4⟩
            wtm_at "vq"
            refine qt (isRows_all er fun i r h => b3 i r ?_ h) _ (s3.trans s4)
            have := (List.getElem?_eq_some_iff.mp h).1
            omega
    · wtm_at "vq"
      refine i_isi (ty_dict hp) kb_dict_tuple ?_
      wtm_at "vq"
      exact q _ s0
theorem ok_payments_right {f c_NOUGHT : Addr} {fd : FuncData} {dvs : List V} {kws : List (Str × V)} (F : FunD K "payments_right" "payments_right" (defArgs s_payments_right) (defBody s_payments_right) (defScope s_payments_right) dvs kws f fd) (mg_NOUGHT : mg "NOUGHT" = some (.ref c_NOUGHT)) (t_NOUGHT : PartK K c_NOUGHT 0)
    (O_need_share : Own P w K mg base CX0 5 "need_share" ["share"] [] (spNeed K)) (O_is_triple : Own P w K mg base CX0 3 "is_triple" ["thing"] [] (spTrJ K)) (O_paid_next : Own P w K mg base CX0 4 "paid_next" ["ahead", "total", "last", "share"] [] (spNext K)) (n_isinstance : mg "isinstance" = none) (n_len : mg "len" = none) (n_tuple : mg "tuple" = none) (n_all : mg "all" = none) (n_zip : mg "zip" = none) : FnG P w K mg base CX0 6 f fd ["totals", "thing", "share"] (spPR K) :=
  FnG.or3 (ok_payments_rightL F mg_NOUGHT t_NOUGHT O_need_share O_is_triple O_paid_next n_isinstance n_len n_tuple n_all n_zip) (ok_payments_rightT F mg_NOUGHT t_NOUGHT O_need_share O_is_triple O_paid_next n_isinstance n_len n_tuple n_all n_zip) fun vs H Q E ⟨t, h⟩ => by
    cases t
    · exact .inl h
    · exact .inr h
end
section
local macro_rules | `(tactic| wtm_at "lkP") => `(tactic| first
  | with_reducible assumption
  | exact PartK.pt (by with_reducible assumption)
  | exact PartAt.tm (by with_reducible assumption) (by wtm_at "tm") | fail)
/-! ### the steps as one word: wtm_at "v1" a step, wtm_at "v" as many as go -/
local macro_rules | `(tactic| wtm_at "tm") => `(tactic| first
  | exact Tm.refl _
  | exact Tm.same (by with_reducible assumption)
  | exact Tm.fx (by with_reducible assumption)
  | (refine Tm.trans ?_ (Tm.same (by with_reducible assumption)); wtm_at "tm")
  | (refine Tm.trans ?_ (Tm.fx (by with_reducible assumption)); wtm_at "tm") | fail)
local macro_rules | `(tactic| wtm_at "lkT1") => `(tactic| first
  | with_reducible assumption
  | exact TpK.tp (by with_reducible assumption)
  | exact TpH.tm (by with_reducible assumption) (by wtm_at "tm")
  | exact Tp.tm (by with_reducible assumption) (by wtm_at "tm")
  | exact Tp.of (by with_reducible assumption) | fail)
local macro_rules | `(tactic| wtm_at "lkT") => `(tactic| first
  | wtm_at "lkT1"
  | exact PartAt.tpe (by wtm_at "lkP") (by rfl)
  | fail)
local macro_rules | `(tactic| wtm_at "lk") => `(tactic| first
  | assumption
  | exact b_get (by assumption) (by wtm_at "lk")
  | exact b_lst (by assumption) (by wtm_at "ne") (by wtm_at "ne") (by wtm_at "lk") | fail)
local macro_rules | `(tactic| wtm_at "lkL") => `(tactic| first
  | assumption
  | exact SqL.of (by wtm_at "lk")
  | exact b_L (by assumption) (by wtm_at "lkL") | fail)
local macro_rules | `(tactic| wtm_at "intL") => `(tactic| first | exact IntL.nil | exact IntL.cons (by wtm_at "intL") | fail)
local macro_rules | `(tactic| wtm_at "lkS0") => `(tactic| first
  | with_reducible assumption
  | exact StoreAt.same (by with_reducible assumption) (by wtm_at "lkS0") | fail)
local macro_rules | `(tactic| wtm_at "lkS") => `(tactic| first
  | with_reducible assumption
  | exact StoreAt.from (by with_reducible assumption) (by wtm_at "sm") | fail)
local macro_rules | `(tactic| wtm_at "ne") => `(tactic| first
  | assumption
  | exact Ne.symm (by assumption)
  | exact st_ne1 (by with_reducible assumption) (by wtm_at "lkS0")
  | exact st_ne2 (by with_reducible assumption) (by wtm_at "lkS0")
  | exact new_ne (by assumption) (by wtm_at "lk")
  | exact new_ne' (by assumption) (by wtm_at "lk") | fail)
local macro_rules | `(tactic| wtm_at "sm") => `(tactic| first
  | with_reducible assumption
  | exact Same.refl _
  | (refine Same.trans ?_ (by with_reducible assumption); wtm_at "sm") | fail)
local macro_rules | `(tactic| wtm_at "fx") => `(tactic| first
  | with_reducible assumption
  | exact Fx.same (Same.refl _)
  | exact Fx.same (by with_reducible assumption)
  | (refine Fx.trans ?_ (by with_reducible assumption); wtm_at "fx")
  | (refine Fx.trans ?_ (Fx.same (by with_reducible assumption)); wtm_at "fx") | fail)
local macro_rules | `(tactic| wtm_at "v0") => `(tactic| first
  | with_reducible refine i_seq ?_ | with_reducible refine i_asg ?_ | with_reducible refine i_var rfl ?_ | with_reducible refine i_c ?_ | with_reducible refine i_name ?_
  | with_reducible refine i_op ?_ | with_reducible refine i_ifS ?_ | with_reducible refine i_test ?_ | with_reducible refine i_tB ?_
  | with_reducible refine i_cons ?_ | with_reducible refine i_nil ?_ | with_reducible refine i_call ?_ | with_reducible refine i_callN ?_ | with_reducible refine i_callX ?_ | with_reducible refine i_callNX ?_ | with_reducible refine i_cb ?_
  | with_reducible refine i_tup ?_ | with_reducible refine i_lst ?_ | with_reducible refine i_ret ?_ | with_reducible refine i_retN ?_ | with_reducible refine i_drop ?_
  | with_reducible refine i_next ?_ | with_reducible refine i_par ?_ | with_reducible refine i_par2 ?_ | with_reducible refine i_ifE ?_ | with_reducible refine i_un ?_
  | with_reducible refine i_and ?_ | with_reducible refine i_or ?_ | with_reducible refine i_not ?_ | with_reducible refine i_andV ?_ | with_reducible refine i_orV ?_ | with_reducible refine i_notV ?_
  | with_reducible refine i_notV2 ?_ | with_reducible refine i_bif (A := fun _ => _) ?_ | with_reducible refine i_brk ?_ | with_reducible refine i_ctn ?_
  | with_reducible refine i_abs ?_ | with_reducible refine i_min ?_ | with_reducible refine i_max ?_ | with_reducible refine i_for ?_ | with_reducible refine i_iR1 ?_ | with_reducible refine i_iR2 ?_ | with_reducible refine i_iL ?_ | with_reducible refine i_iT ?_ | with_reducible refine i_wb ?_
  | with_reducible refine i_sl ?_ | with_reducible refine i_no ?_ | with_reducible refine i_so ?_ | with_reducible refine i_exI ?_ | with_reducible refine i_exB ?_ | with_reducible refine i_gcons ?_ | with_reducible refine i_gnil ?_ | with_reducible refine i_bm ?_ | with_reducible refine i_gsub ?_ | with_reducible refine i_lc ?_ | with_reducible refine i_yes ?_ | with_reducible refine i_iE ?_
  | with_reducible refine ite_1 ?_ | with_reducible refine i_pow6 ?_ | with_reducible refine i_pow18 ?_ | with_reducible refine i_pow30 ?_
  | with_reducible refine i_addI ?_ | with_reducible refine i_I0 ?_ | with_reducible refine i_U ?_ | with_reducible refine i_eqI ?_ | with_reducible refine i_neI ?_ | fail)
local macro_rules | `(tactic| wtm_at "v1") => `(tactic| first
  | wtm_at "v0"
  | ((with_reducible show rIx _ _ _ _ _); first | refine i_ixT (by wtm_at "lkT") rfl ?_ | refine i_ixL (by wtm_at "lkL") rfl ?_)
  | ((with_reducible show rLenU _ _ _ _); first | refine i_lenT (by wtm_at "lkT") ?_ | refine i_lenL (by wtm_at "lkL") ?_)
  | ((with_reducible show spDraw _ _ _ _); refine c_draw (by wtm_at "lkS") (by first | decide | omega) (by first | decide | omega) (by omega) ?_; intro _ _ _ _ _ _)
  | (with_reducible refine i_newTH (by first | decide | (simp; done)) ?_; intro _ _ _ _ _)
  | (with_reducible refine i_newL (by first | decide | (simp; done)) ?_; intro _ _ _ _ _) | fail)
local macro_rules | `(tactic| wtm_at "v") => `(tactic| repeat wtm_at "v1")
local macro_rules | `(tactic| wtm_at "vi") => `(tactic| repeat ((fail_if_success (with_reducible show tIfS _ _ _ _ _ _)); wtm_at "v1"))
/-! ### data shown and compared: found by themselves -/
local macro_rules | `(tactic| wtm_at "bd") => `(tactic| first | assumption | exact Bd.mono (by assumption) (by decide) | fail)
local macro_rules | `(tactic| wtm_at "bi") => `(tactic| first | exact natAbs_up (by assumption) (by decide) | exact natAbs_up (n := 64) (by decide) (by decide) | exact natAbs_up (n := 64) (by omega) (by decide) | fail)
local macro_rules | `(tactic| wtm_at "dpA") => `(tactic| first | exact DpAll.nil | exact DpAll.cons (by wtm_at "dp") (by wtm_at "dpA") | fail)
local macro_rules | `(tactic| wtm_at "dp") => `(tactic| first
  | exact Dp.int _ | exact Dp.bl _ | exact Dp.non | exact Dp.str _
  | exact dp_PA (by wtm_at "lkP")
  | exact Dp.tup (Tp.sq (by wtm_at "lkT")) (by wtm_at "dpA")
  | exact Dp.lst (by wtm_at "lkL") (by wtm_at "dpA") | fail)
local macro_rules | `(tactic| wtm_at "okA") => `(tactic| first | exact OkAll.nil' | exact OkAll.cons' (by wtm_at "ok") (by wtm_at "okA") | fail)
local macro_rules | `(tactic| wtm_at "ok") => `(tactic| first
  | ((with_reducible show Ok _ _ (dP _)); exact ok_P (by wtm_at "bd"))
  | exact Ok.int (by wtm_at "bi") | exact Ok.bool _ | exact Ok.none
  | ((with_reducible show Ok _ _ (.list _)); exact Ok.lst' (by wtm_at "okA")) | ((with_reducible show Ok _ _ (.tuple _)); exact Ok.tup' (by wtm_at "okA")) | fail)
local macro_rules | `(tactic| wtm_at "shA") => `(tactic| first | exact ShAll.nil | (refine ShAll.cons ?ha ?hb; (case ha => wtm_at "sh"); (case hb => wtm_at "shA")) | exact ShAll.ints _ | fail)
local macro_rules | `(tactic| wtm_at "sh") => `(tactic| first
  | ((with_reducible show Sh _ (dP _)); exact sh_P _)
  | exact Sh.int _ | exact Sh.bool _ | exact Sh.none | (refine Sh.lst ?_; wtm_at "shA") | (refine Sh.tup ?_; wtm_at "shA") | fail)
local macro_rules | `(tactic| wtm_at "v0") => `(tactic| first
  | ((with_reducible refine i_lens ?ha ?hb ?_); (case ha => rfl); (case hb => rfl))
  | with_reducible refine ite_0 ?_ | with_reducible refine ite_n0 ?_ | with_reducible refine ite_n1 ?_
  | ((with_reducible show rEqU _ (.ref _) (.ref _) _ _); refine i_eqP (by wtm_at "lkP") (by wtm_at "lkP") ?_)
  | ((with_reducible show rNeU _ (.ref _) (.ref _) _ _); refine i_neP (by wtm_at "lkP") (by wtm_at "lkP") ?_)
  | ((with_reducible show rEqU _ (.ref _) (.ref _) _ _); refine i_eqD (by wtm_at "dp") (by wtm_at "dp") (Sh.shaped (n := 9) (by wtm_at "sh") (by decide)) (Sh.shaped (n := 9) (by wtm_at "sh") (by decide)) ?_)
  | ((with_reducible show rNeU _ (.ref _) (.ref _) _ _); refine i_neD (by wtm_at "dp") (by wtm_at "dp") (Sh.shaped (n := 9) (by wtm_at "sh") (by decide)) (Sh.shaped (n := 9) (by wtm_at "sh") (by decide)) ?_)
  | ((with_reducible show rReprD _ _ _ _); refine i_repr (by wtm_at "dp") (by wtm_at "ok") (Nat.le_of_ble_eq_true rfl) (Nat.le_of_ble_eq_true rfl) ?_) | fail)
/-! calls of the reckoning; what is alike is alike -/
local macro_rules | `(tactic| wtm_at "v0") => `(tactic| first
  | ((with_reducible show spPP _ CT _ _ _ _ _); refine c_PP (by wtm_at "lkP") (by wtm_at "lkP") (by wtm_at "bd") (by wtm_at "bd") True.intro ?_; intro _ _ _ _)
  | ((with_reducible show spLess _ _ _ _ _); refine c_less (by wtm_at "lkP") (by wtm_at "lkP") (by wtm_at "bd") (by wtm_at "bd") ?_)
  | with_reducible refine ite_n (fun c => absurd rfl c) (fun _ => ?_)
  | ((with_reducible show rNeU _ (.bl _) (.bl _) _ _); refine i_neB rfl ?_)
  | ((with_reducible show rEqU _ (.bl _) (.bl _) _ _); refine i_eqB rfl ?_)
  | ((with_reducible show rNeU _ (.str _) (.str _) _ _); refine i_neS rfl ?_)
  | ((with_reducible show rEqU _ (.str _) (.str _) _ _); refine i_eqS rfl ?_) | fail)
/-! pairs that are written -/
local macro_rules | `(tactic| wtm_at "lkP") => `(tactic| first
  | exact part01 (by wtm_at "lkT1")
  | exact part11 (by wtm_at "lkT1")
  | exact partI (by wtm_at "lkT1")
  | exact partLit (by wtm_at "lkT1") (by decide) (by decide) | fail)
/-! deep data -/
local macro_rules | `(tactic| wtm_at "td") => `(tactic| first
  | with_reducible assumption
  | exact TD.tm (by with_reducible assumption) (by wtm_at "tm")
  | exact PartAt.td (by wtm_at "lkP") | fail)
local macro_rules | `(tactic| wtm_at "tl") => `(tactic| first
  | with_reducible assumption
  | exact TL.tm (by with_reducible assumption) (by wtm_at "tm") | fail)
/-! stops ahead of what is compared or shown -/
local macro_rules | `(tactic| wtm_at "vq") => `(tactic| repeat ((fail_if_success (with_reducible show rEqU _ (.ref _) _ _ _)); (fail_if_success (with_reducible show rNeU _ (.ref _) _ _ _)); (fail_if_success (with_reducible show rReprD _ _ _ _)); wtm_at "v1"))
variable {P : Program} {w : World} {K : PySem.W.Frag} {mg : Str → Option Value} {base : Heap}
/-! ### rows of things, how long they are shown -/
theorem piled_app : ∀ (a b : List Str), piled (a ++ b) = piled a + piled b
  | [], b => by simp [piled_nil]
  | t :: r, b => by
    rw [List.cons_append, piled_cons, piled_cons, piled_app r b]
    omega
theorem shownAll_app : ∀ (a b : List PyData), PyData.shownAll (a ++ b) = PyData.shownAll a ++ PyData.shownAll b
  | [], b => by simp only [PyData.shownAll, List.nil_append]
  | d :: r, b => by simp only [List.cons_append, PyData.shownAll, shownAll_app r b]
abbrev pil (ds : List PyData) : Nat := piled (PyData.shownAll ds)
theorem pil_app (a b : List PyData) : pil (a ++ b) = pil a + pil b := by
  show piled _ = _
  rw [shownAll_app, piled_app]
theorem pil_one (d : PyData) : pil [d] = d.shown.length + 2 := by
  show piled (PyData.shownAll [d]) = _
  simp only [PyData.shownAll, piled_cons, piled_nil]
  try omega
theorem pil_take (ds : List PyData) (j : Nat) : pil (ds.take j) ≤ pil ds := by
  have := pil_app (ds.take j) (ds.drop j)
  rw [List.take_append_drop] at this
  omega
theorem pil_drop (ds : List PyData) (j : Nat) : pil (ds.drop j) ≤ pil ds := by
  have := pil_app (ds.take j) (ds.drop j)
  rw [List.take_append_drop] at this
  omega
theorem pil_cons (d : PyData) (ds : List PyData) : pil (d :: ds) = d.shown.length + 2 + pil ds := by
  rw [show d :: ds = [d] ++ ds from rfl, pil_app, pil_one]
theorem pil_rev : ∀ ds : List PyData, pil ds.reverse = pil ds
  | [] => rfl
  | d :: r => by
    rw [List.reverse_cons, pil_app, pil_rev r, pil_one, pil_cons]
    omega
theorem pil_le {M : Nat} : ∀ {ds : List PyData}, (∀ d ∈ ds, d.shown.length ≤ M) → pil ds ≤ ds.length * (M + 2)
  | [], _ => Nat.zero_le _
  | d :: r, h => by
    rw [pil_cons, List.length_cons, Nat.add_mul]
    have a := h d (List.mem_cons_self ..)
    have b := pil_le fun e he => h e (List.mem_cons_of_mem _ he)
    omega
theorem Ok.tupS {n B : Nat} {ds : List PyData} (h : ∀ d ∈ ds, ∃ M, Ok n M d) (hB : pil ds ≤ B) : Ok (n + 1) (B + 3) (.tuple ds) := by
  obtain ⟨M, hM⟩ : ∃ M, ∀ d ∈ ds, Ok n M d := by
    refine ⟨pil ds, fun d hd => ?_⟩
    obtain ⟨M, o⟩ := h d hd
    obtain ⟨a, b, rfl⟩ := List.append_of_mem hd
    refine ⟨o.sh, o.cl, o.dp, ?_⟩
    rw [pil_app, pil_cons]
    omega
  have o := Ok.tup (OkAll.all hM) (Nat.le_refl _)
  refine ⟨o.sh, o.cl, o.dp, ?_⟩
  simp only [PyData.shown]
  have a := tup_len (PyData.shownAll ds)
  have : piled (PyData.shownAll ds) ≤ B := hB
  omega
theorem Ok.lstS {n B : Nat} {ds : List PyData} (h : ∀ d ∈ ds, ∃ M, Ok n M d) (hB : pil ds ≤ B) : Ok (n + 1) (B + 3) (.list ds) := by
  obtain ⟨M, hM⟩ : ∃ M, ∀ d ∈ ds, Ok n M d := by
    refine ⟨pil ds, fun d hd => ?_⟩
    obtain ⟨M, o⟩ := h d hd
    obtain ⟨a, b, rfl⟩ := List.append_of_mem hd
    refine ⟨o.sh, o.cl, o.dp, ?_⟩
    rw [pil_app, pil_cons]
    omega
  have o := Ok.lst (OkAll.all hM) (Nat.le_refl _)
  refine ⟨o.sh, o.cl, o.dp, ?_⟩
  simp only [PyData.shown]
  have a := list_len (PyData.shownAll ds)
  have : piled (PyData.shownAll ds) ≤ B := hB
  omega
/-- a thing in a row -/
structure Thg (K : PySem.W.Frag) (m n : Addr) (H : Hp) (k M : Nat) (v : V) (d : PyData) : Prop where
  j : JD K m n H v d
  o : Ok k M d
  p : Pl d
theorem Thg.fx {m n : Addr} {H H' : Hp} {k M : Nat} {v : V} {d : PyData} (h : Thg K m n H k M v d) (e : Fx m n H H') : Thg K m n H' k M v d := ⟨h.j.fx e, h.o, h.p⟩
theorem Thg.mono {m n : Addr} {H : Hp} {k M k' M' : Nat} {v : V} {d : PyData} (h : Thg K m n H k M v d) (a : k ≤ k') (b : M ≤ M') : Thg K m n H k' M' v d := ⟨h.j, h.o.mono a b, h.p⟩
theorem pl_P (q : Rat) : Pl (dP q) := .tup fun d hd => by
  simp only [List.mem_cons, List.not_mem_nil, or_false] at hd
  rcases hd with rfl | rfl <;> exact .int _
theorem thg_P {m n : Addr} {H : Hp} {p : Addr} {q : Rat} (h : PartAt K H p q) (b : Bd 1919 q) : Thg K m n H 1 4000 (.ref p) (dP q) := ⟨h.td.jd, ok_P b, pl_P q⟩
theorem thg_int {m n : Addr} {H : Hp} {i : Int} (h : i.natAbs < 2 ^ 1919) : Thg K m n H 0 1921 (.int i) (.int i) := ⟨.int i, .int h, .int i⟩
theorem thg_bl {m n : Addr} {H : Hp} (b : Bool) : Thg K m n H 0 5 (.bl b) (.bool b) := ⟨.bl b, .bool b, .bl b⟩
theorem thg_non {m n : Addr} {H : Hp} : Thg K m n H 0 4 .non .none := ⟨.non, .none, .non⟩
theorem thg_str {m n : Addr} {H : Hp} : Thg K m n H 0 20 (.str (Str.ofString "")) (.str (Str.ofString "")) := ⟨.str _, Ok.str (m := 20) (by decide +kernel) (by decide +kernel), .str⟩
/-- a row of things -/
structure RowP (K : PySem.W.Frag) (m n : Addr) (H : Hp) (k B : Nat) (xs : List V) (ds : List PyData) : Prop where
  r : JL K m n H xs ds
  o : ∀ d ∈ ds, ∃ M, Ok k M d
  p : ∀ d ∈ ds, Pl d
  b : pil ds ≤ B
section
variable {m n : Addr} {H H' : Hp} {k B C : Nat} {xs ys : List V} {ds es : List PyData} {v : V} {d : PyData}
theorem RowP.fx (h : RowP K m n H k B xs ds) (e : Fx m n H H') : RowP K m n H' k B xs ds := ⟨h.r.fx e, h.o, h.p, h.b⟩
theorem RowP.lift {k' : Nat} (h : RowP K m n H k B xs ds) (e : k ≤ k') : RowP K m n H k' B xs ds := ⟨h.r, fun d hd => let ⟨M, o⟩ := h.o d hd; ⟨M, o.mono e (Nat.le_refl _)⟩, h.p, h.b⟩
theorem RowP.nil : RowP K m n H k 0 [] [] := ⟨.nil, by simp, by simp, Nat.le_refl _⟩
theorem RowP.append (h : RowP K m n H k B xs ds) (g : RowP K m n H k C ys es) : RowP K m n H k (B + C) (xs ++ ys) (ds ++ es) := ⟨h.r.append g.r, fun d hd => (List.mem_append.mp hd).elim (h.o d) (g.o d), fun d hd => (List.mem_append.mp hd).elim (h.p d) (g.p d), by
  rw [pil_app]
  have := h.b
  have := g.b
  omega⟩
theorem RowP.take (h : RowP K m n H k B xs ds) (j : Nat) : RowP K m n H k B (xs.take j) (ds.take j) := ⟨h.r.take j, fun d hd => h.o d (List.mem_of_mem_take hd), fun d hd => h.p d (List.mem_of_mem_take hd), Nat.le_trans (pil_take ds j) h.b⟩
theorem RowP.drop (h : RowP K m n H k B xs ds) (j : Nat) : RowP K m n H k B (xs.drop j) (ds.drop j) := ⟨h.r.drop j, fun d hd => h.o d (List.mem_of_mem_drop hd), fun d hd => h.p d (List.mem_of_mem_drop hd), Nat.le_trans (pil_drop ds j) h.b⟩
theorem RowP.rev (h : RowP K m n H k B xs ds) : RowP K m n H k B xs.reverse ds.reverse := ⟨h.r.rev, fun d hd => h.o d (List.mem_reverse.mp hd), fun d hd => h.p d (List.mem_reverse.mp hd), by rw [pil_rev]; exact h.b⟩
theorem RowP.one {M : Nat} (h : Thg K m n H k M v d) : RowP K m n H k (M + 2) [v] [d] := ⟨.cons h.j .nil, fun e he => by rw [List.mem_singleton.mp he]; exact ⟨M, h.o⟩, fun e he => by rw [List.mem_singleton.mp he]; exact h.p, by
  rw [pil_one]
  have := h.o.ln
  omega⟩
theorem RowP.cut {a b : Nat} (h : RowP K m n H k B xs ds) : ∃ es, RowP K m n H k B (cutV xs (some (a : Int)) (some ((a : Int) + (b : Int)))) es := by
  unfold cutV
  have e1 : HT.sIx xs.length 0 (some (a : Int)) = min a xs.length := HT.sIx_nat _ _ _
  have e2 : HT.sIx xs.length xs.length (some ((a : Int) + (b : Int))) = min (a + b) xs.length := HT.sIx_nat _ _ (a + b)
  rw [e1, e2]
  exact ⟨_, (h.drop _).take _⟩
theorem RowP.tup {p : Addr} (h : RowP K m n H k B xs ds) (t : Tp K H p xs) : Thg K m n H (k + 1) (B + 3) (.ref p) (.tuple ds) := ⟨.of t h.r, .tupS h.o h.b, .tup h.p⟩
theorem RowP.lst {p : Addr} (h : RowP K m n H k B xs ds) (t : H p = some (.lst xs)) (hm : p ≠ m) (hn : p ≠ n) : Thg K m n H (k + 1) (B + 3) (.ref p) (.list ds) := ⟨.ofL t hm hn h.r, .lstS h.o h.b, .lst h.p⟩
theorem RowP.of {M : Nat} (r : JL K m n H xs ds) (o : ∀ d ∈ ds, Ok k M d) (p : ∀ d ∈ ds, Pl d) (l : ds.length ≤ C) : RowP K m n H k (C * (M + 2)) xs ds := ⟨r, fun d hd => ⟨M, o d hd⟩, p, Nat.le_trans (pil_le fun d hd => (o d hd).ln) (Nat.mul_le_mul_right _ l)⟩
theorem RowP.cons {M : Nat} (h : Thg K m n H k M v d) (r : RowP K m n H k B xs ds) : RowP K m n H k (M + 2 + B) (v :: xs) (d :: ds) := (RowP.one h).append r
theorem Thg.pap {M : Nat} (h : Thg K m n H k M v d) (hk : k ≤ 10) (hM : M ≤ 16000000) : PapJ K m n H v := .inl ⟨d, h.j, h.o.mono hk hM, h.p⟩
end
theorem cut_toJ {xs : List V} {n : Nat} (h : n ≤ xs.length) : cutV xs none (some (n : Int)) = xs.take n := by
  unfold cutV
  rw [show HT.sIx xs.length xs.length (some (n : Int)) = min n xs.length from HT.sIx_nat _ _ _, HT.sIx_none, Nat.min_eq_left h]
  simp
theorem cut_fromJ {xs : List V} {n : Nat} : cutV xs (some (n : Int)) none = xs.drop n := by
  unfold cutV
  by_cases h : n ≤ xs.length
  · rw [HT.sIx_nat, HT.sIx_none, Nat.min_eq_left h]
    exact List.take_of_length_le (by simp)
  · rw [HT.sIx_nat, HT.sIx_none, Nat.min_eq_right (by omega), List.drop_eq_nil_of_le (Nat.le_refl _), List.drop_eq_nil_of_le (by omega)]
    exact List.take_nil
theorem cut_len {xs : List V} {a b : Nat} : (cutV xs (some (a : Int)) (some ((a : Int) + (b : Int)))).length ≤ xs.length := by
  unfold cutV
  simp
  omega
theorem i_tSlS {r : V → Option Int → Option Int → Option Int → Hp → VK → Prop} {te : TE} {tl th tp : TO} {σ : L2.St} {H : Hp} {Q : VK} (h : te σ H fun x H1 => tl σ H1 fun l H2 => th σ H2 fun u H3 => tp σ H3 fun c H4 => r x l u c H4 Q) : tSlS r te tl th tp σ H Q := h
end
section
local macro_rules | `(tactic| wtm_at "lkP") => `(tactic| first
  | with_reducible assumption
  | exact PartK.pt (by with_reducible assumption)
  | exact PartAt.tm (by with_reducible assumption) (by wtm_at "tm") | fail)
/-! ### the steps as one word: wtm_at "v1" a step, wtm_at "v" as many as go -/
local macro_rules | `(tactic| wtm_at "tm") => `(tactic| first
  | exact Tm.refl _
  | exact Tm.same (by with_reducible assumption)
  | exact Tm.fx (by with_reducible assumption)
  | (refine Tm.trans ?_ (Tm.same (by with_reducible assumption)); wtm_at "tm")
  | (refine Tm.trans ?_ (Tm.fx (by with_reducible assumption)); wtm_at "tm") | fail)
local macro_rules | `(tactic| wtm_at "lkT1") => `(tactic| first
  | with_reducible assumption
  | exact TpK.tp (by with_reducible assumption)
  | exact TpH.tm (by with_reducible assumption) (by wtm_at "tm")
  | exact Tp.tm (by with_reducible assumption) (by wtm_at "tm")
  | exact Tp.of (by with_reducible assumption) | fail)
local macro_rules | `(tactic| wtm_at "lkT") => `(tactic| first
  | wtm_at "lkT1"
  | exact PartAt.tpe (by wtm_at "lkP") (by rfl)
  | fail)
local macro_rules | `(tactic| wtm_at "lk") => `(tactic| first
  | assumption
  | exact b_get (by assumption) (by wtm_at "lk")
  | exact b_lst (by assumption) (by wtm_at "ne") (by wtm_at "ne") (by wtm_at "lk") | fail)
local macro_rules | `(tactic| wtm_at "lkL") => `(tactic| first
  | assumption
  | exact SqL.of (by wtm_at "lk")
  | exact b_L (by assumption) (by wtm_at "lkL") | fail)
local macro_rules | `(tactic| wtm_at "intL") => `(tactic| first | exact IntL.nil | exact IntL.cons (by wtm_at "intL") | fail)
local macro_rules | `(tactic| wtm_at "lkS0") => `(tactic| first
  | with_reducible assumption
  | exact StoreAt.same (by with_reducible assumption) (by wtm_at "lkS0") | fail)
local macro_rules | `(tactic| wtm_at "lkS") => `(tactic| first
  | with_reducible assumption
  | exact StoreAt.from (by with_reducible assumption) (by wtm_at "sm") | fail)
local macro_rules | `(tactic| wtm_at "ne") => `(tactic| first
  | assumption
  | exact Ne.symm (by assumption)
  | exact st_ne1 (by with_reducible assumption) (by wtm_at "lkS0")
  | exact st_ne2 (by with_reducible assumption) (by wtm_at "lkS0")
  | exact new_ne (by assumption) (by wtm_at "lk")
  | exact new_ne' (by assumption) (by wtm_at "lk") | fail)
local macro_rules | `(tactic| wtm_at "sm") => `(tactic| first
  | with_reducible assumption
  | exact Same.refl _
  | (refine Same.trans ?_ (by with_reducible assumption); wtm_at "sm") | fail)
local macro_rules | `(tactic| wtm_at "fx") => `(tactic| first
  | with_reducible assumption
  | exact Fx.same (Same.refl _)
  | exact Fx.same (by with_reducible assumption)
  | (refine Fx.trans ?_ (by with_reducible assumption); wtm_at "fx")
  | (refine Fx.trans ?_ (Fx.same (by with_reducible assumption)); wtm_at "fx") | fail)
local macro_rules | `(tactic| wtm_at "v0") => `(tactic| first
  | with_reducible refine i_seq ?_ | with_reducible refine i_asg ?_ | with_reducible refine i_var rfl ?_ | with_reducible refine i_c ?_ | with_reducible refine i_name ?_
  | with_reducible refine i_op ?_ | with_reducible refine i_ifS ?_ | with_reducible refine i_test ?_ | with_reducible refine i_tB ?_
  | with_reducible refine i_cons ?_ | with_reducible refine i_nil ?_ | with_reducible refine i_call ?_ | with_reducible refine i_callN ?_ | with_reducible refine i_callX ?_ | with_reducible refine i_callNX ?_ | with_reducible refine i_cb ?_
  | with_reducible refine i_tup ?_ | with_reducible refine i_lst ?_ | with_reducible refine i_ret ?_ | with_reducible refine i_retN ?_ | with_reducible refine i_drop ?_
  | with_reducible refine i_next ?_ | with_reducible refine i_par ?_ | with_reducible refine i_par2 ?_ | with_reducible refine i_ifE ?_ | with_reducible refine i_un ?_
  | with_reducible refine i_and ?_ | with_reducible refine i_or ?_ | with_reducible refine i_not ?_ | with_reducible refine i_andV ?_ | with_reducible refine i_orV ?_ | with_reducible refine i_notV ?_
  | with_reducible refine i_notV2 ?_ | with_reducible refine i_bif (A := fun _ => _) ?_ | with_reducible refine i_brk ?_ | with_reducible refine i_ctn ?_
  | with_reducible refine i_abs ?_ | with_reducible refine i_min ?_ | with_reducible refine i_max ?_ | with_reducible refine i_for ?_ | with_reducible refine i_iR1 ?_ | with_reducible refine i_iR2 ?_ | with_reducible refine i_iL ?_ | with_reducible refine i_iT ?_ | with_reducible refine i_wb ?_
  | with_reducible refine i_sl ?_ | with_reducible refine i_no ?_ | with_reducible refine i_so ?_ | with_reducible refine i_exI ?_ | with_reducible refine i_exB ?_ | with_reducible refine i_gcons ?_ | with_reducible refine i_gnil ?_ | with_reducible refine i_bm ?_ | with_reducible refine i_gsub ?_ | with_reducible refine i_lc ?_ | with_reducible refine i_yes ?_ | with_reducible refine i_iE ?_
  | with_reducible refine ite_1 ?_ | with_reducible refine i_pow6 ?_ | with_reducible refine i_pow18 ?_ | with_reducible refine i_pow30 ?_
  | with_reducible refine i_addI ?_ | with_reducible refine i_I0 ?_ | with_reducible refine i_U ?_ | with_reducible refine i_eqI ?_ | with_reducible refine i_neI ?_ | fail)
local macro_rules | `(tactic| wtm_at "v1") => `(tactic| first
  | wtm_at "v0"
  | ((with_reducible show rIx _ _ _ _ _); first | refine i_ixT (by wtm_at "lkT") rfl ?_ | refine i_ixL (by wtm_at "lkL") rfl ?_)
  | ((with_reducible show rLenU _ _ _ _); first | refine i_lenT (by wtm_at "lkT") ?_ | refine i_lenL (by wtm_at "lkL") ?_)
  | ((with_reducible show spDraw _ _ _ _); refine c_draw (by wtm_at "lkS") (by first | decide | omega) (by first | decide | omega) (by omega) ?_; intro _ _ _ _ _ _)
  | (with_reducible refine i_newTH (by first | decide | (simp; done)) ?_; intro _ _ _ _ _)
  | (with_reducible refine i_newL (by first | decide | (simp; done)) ?_; intro _ _ _ _ _) | fail)
local macro_rules | `(tactic| wtm_at "v") => `(tactic| repeat wtm_at "v1")
local macro_rules | `(tactic| wtm_at "vi") => `(tactic| repeat ((fail_if_success (with_reducible show tIfS _ _ _ _ _ _)); wtm_at "v1"))
/-! ### data shown and compared: found by themselves -/
local macro_rules | `(tactic| wtm_at "bd") => `(tactic| first | assumption | exact Bd.mono (by assumption) (by decide) | fail)
local macro_rules | `(tactic| wtm_at "bi") => `(tactic| first | exact natAbs_up (by assumption) (by decide) | exact natAbs_up (n := 64) (by decide) (by decide) | exact natAbs_up (n := 64) (by omega) (by decide) | fail)
local macro_rules | `(tactic| wtm_at "dpA") => `(tactic| first | exact DpAll.nil | exact DpAll.cons (by wtm_at "dp") (by wtm_at "dpA") | fail)
local macro_rules | `(tactic| wtm_at "dp") => `(tactic| first
  | exact Dp.int _ | exact Dp.bl _ | exact Dp.non | exact Dp.str _
  | exact dp_PA (by wtm_at "lkP")
  | exact Dp.tup (Tp.sq (by wtm_at "lkT")) (by wtm_at "dpA")
  | exact Dp.lst (by wtm_at "lkL") (by wtm_at "dpA") | fail)
local macro_rules | `(tactic| wtm_at "okA") => `(tactic| first | exact OkAll.nil' | exact OkAll.cons' (by wtm_at "ok") (by wtm_at "okA") | fail)
local macro_rules | `(tactic| wtm_at "ok") => `(tactic| first
  | ((with_reducible show Ok _ _ (dP _)); exact ok_P (by wtm_at "bd"))
  | exact Ok.int (by wtm_at "bi") | exact Ok.bool _ | exact Ok.none
  | ((with_reducible show Ok _ _ (.list _)); exact Ok.lst' (by wtm_at "okA")) | ((with_reducible show Ok _ _ (.tuple _)); exact Ok.tup' (by wtm_at "okA")) | fail)
local macro_rules | `(tactic| wtm_at "shA") => `(tactic| first | exact ShAll.nil | (refine ShAll.cons ?ha ?hb; (case ha => wtm_at "sh"); (case hb => wtm_at "shA")) | exact ShAll.ints _ | fail)
local macro_rules | `(tactic| wtm_at "sh") => `(tactic| first
  | ((with_reducible show Sh _ (dP _)); exact sh_P _)
  | exact Sh.int _ | exact Sh.bool _ | exact Sh.none | (refine Sh.lst ?_; wtm_at "shA") | (refine Sh.tup ?_; wtm_at "shA") | fail)
local macro_rules | `(tactic| wtm_at "v0") => `(tactic| first
  | ((with_reducible refine i_lens ?ha ?hb ?_); (case ha => rfl); (case hb => rfl))
  | with_reducible refine ite_0 ?_ | with_reducible refine ite_n0 ?_ | with_reducible refine ite_n1 ?_
  | ((with_reducible show rEqU _ (.ref _) (.ref _) _ _); refine i_eqP (by wtm_at "lkP") (by wtm_at "lkP") ?_)
  | ((with_reducible show rNeU _ (.ref _) (.ref _) _ _); refine i_neP (by wtm_at "lkP") (by wtm_at "lkP") ?_)
  | ((with_reducible show rEqU _ (.ref _) (.ref _) _ _); refine i_eqD (by wtm_at "dp") (by wtm_at "dp") (Sh.shaped (n := 9) (by wtm_at "sh") (by decide)) (Sh.shaped (n := 9) (by wtm_at "sh") (by decide)) ?_)
  | ((with_reducible show rNeU _ (.ref _) (.ref _) _ _); refine i_neD (by wtm_at "dp") (by wtm_at "dp") (Sh.shaped (n := 9) (by wtm_at "sh") (by decide)) (Sh.shaped (n := 9) (by wtm_at "sh") (by decide)) ?_)
  | ((with_reducible show rReprD _ _ _ _); refine i_repr (by wtm_at "dp") (by wtm_at "ok") (Nat.le_of_ble_eq_true rfl) (Nat.le_of_ble_eq_true rfl) ?_) | fail)
/-! calls of the reckoning; what is alike is alike -/
local macro_rules | `(tactic| wtm_at "v0") => `(tactic| first
  | ((with_reducible show spPP _ CT _ _ _ _ _); refine c_PP (by wtm_at "lkP") (by wtm_at "lkP") (by wtm_at "bd") (by wtm_at "bd") True.intro ?_; intro _ _ _ _)
  | ((with_reducible show spLess _ _ _ _ _); refine c_less (by wtm_at "lkP") (by wtm_at "lkP") (by wtm_at "bd") (by wtm_at "bd") ?_)
  | with_reducible refine ite_n (fun c => absurd rfl c) (fun _ => ?_)
  | ((with_reducible show rNeU _ (.bl _) (.bl _) _ _); refine i_neB rfl ?_)
  | ((with_reducible show rEqU _ (.bl _) (.bl _) _ _); refine i_eqB rfl ?_)
  | ((with_reducible show rNeU _ (.str _) (.str _) _ _); refine i_neS rfl ?_)
  | ((with_reducible show rEqU _ (.str _) (.str _) _ _); refine i_eqS rfl ?_) | fail)
/-! pairs that are written -/
local macro_rules | `(tactic| wtm_at "lkP") => `(tactic| first
  | exact part01 (by wtm_at "lkT1")
  | exact part11 (by wtm_at "lkT1")
  | exact partI (by wtm_at "lkT1")
  | exact partLit (by wtm_at "lkT1") (by decide) (by decide) | fail)
/-! deep data -/
local macro_rules | `(tactic| wtm_at "td") => `(tactic| first
  | with_reducible assumption
  | exact TD.tm (by with_reducible assumption) (by wtm_at "tm")
  | exact PartAt.td (by wtm_at "lkP") | fail)
local macro_rules | `(tactic| wtm_at "tl") => `(tactic| first
  | with_reducible assumption
  | exact TL.tm (by with_reducible assumption) (by wtm_at "tm") | fail)
/-! stops ahead of what is compared or shown -/
local macro_rules | `(tactic| wtm_at "vq") => `(tactic| repeat ((fail_if_success (with_reducible show rEqU _ (.ref _) _ _ _)); (fail_if_success (with_reducible show rNeU _ (.ref _) _ _ _)); (fail_if_success (with_reducible show rReprD _ _ _ _)); wtm_at "v1"))
variable {P : Program} {w : World} {K : PySem.W.Frag} {mg : Str → Option Value} {base : Heap}
/-! ### one thing otherwise -/
theorem thg_two {m n : Addr} {H : Hp} {p : Addr} {u v : V} {d e : PyData} {k M : Nat} (h : Tp K H p [u, v]) (a : Thg K m n H k M u d) (b : Thg K m n H k M v e) : Thg K m n H (k + 1) (2 * (M + 2) + 3) (.ref p) (.tuple [d, e]) := ⟨.of h (.cons a.j (.cons b.j .nil)), Ok.tup (k := 2) (.cons a.o (.cons b.o .nil)) (Nat.le_refl 2), .tup fun x hx => by
  simp only [List.mem_cons, List.not_mem_nil, or_false] at hx
  rcases hx with rfl | rfl
  · exact a.p
  · exact b.p⟩
theorem thg_twoL {m n : Addr} {H : Hp} {p : Addr} {u v : V} {d e : PyData} {k M : Nat} (h : H p = some (.lst [u, v])) (hm : p ≠ m) (hn : p ≠ n) (a : Thg K m n H k M u d) (b : Thg K m n H k M v e) : Thg K m n H (k + 1) (2 * (M + 2) + 3) (.ref p) (.list [d, e]) := ⟨.ofL h hm hn (.cons a.j (.cons b.j .nil)), Ok.lst (k := 2) (.cons a.o (.cons b.o .nil)) (Nat.le_refl 2), .lst fun x hx => by
  simp only [List.mem_cons, List.not_mem_nil, or_false] at hx
  rcases hx with rfl | rfl
  · exact a.p
  · exact b.p⟩
def spOth (K : PySem.W.Frag) : Sp := fun vs H Q _ => ∃ (st gl : Addr) (n : Nat) (p : Addr) (q : Rat), vs = [.ref st, .ref p] ∧ StoreAt H st gl n ∧ n ≤ 90000000 ∧ PartAt K H p q ∧ Bd 1900 q ∧ ∀ (v : V) (d : PyData) H', Thg K st gl H' 2 8000 v d → StoreAt H' st gl (n + 300) → Fx st gl H H' → Q v H'
theorem c_oth {st gl : Addr} {n : Nat} {p : Addr} {q : Rat} {H : Hp} {Q : VK} {E : XK} (S : StoreAt H st gl n) (hn : n ≤ 90000000) (h : PartAt K H p q) (b : Bd 1900 q) (k : ∀ (v : V) (d : PyData) H', Thg K st gl H' 2 8000 v d → StoreAt H' st gl (n + 300) → Fx st gl H H' → Q v H') : spOth K ([.ref st, .ref p] ++ []) H Q E := ⟨st, gl, n, p, q, rfl, S, hn, h, b, k⟩
abbrev s_law_otherwise : Stmt := topS 38
theorem sc_law_otherwise : FnScope ["store", "one", "way", "step", "some"] ["store", "one"] (defScope s_law_otherwise) := ⟨rfl, rfl, rfl, by decide +kernel, rfl, by decide +kernel, by decide +kernel⟩
theorem ok_law_otherwise {f : Addr} {fd : FuncData} (F : FunD K "_law_otherwise" "_law_otherwise" (defArgs s_law_otherwise) (defBody s_law_otherwise) (defScope s_law_otherwise) [] [] f fd) (O_law_draw : Own P w K mg base CX0 2 "_law_draw" ["store", "many"] [] spDraw) (O_law_part : Own P w K mg base CX0 1 "_law_part" ["above", "below"] [] (spPart K)) (O_law_sum : Own P w K mg base CX0 2 "_law_sum" ["one", "other"] [] (spPP K CT (· + ·))) (O_law_rest : Own P w K mg base CX0 2 "_law_rest" ["one", "other"] [] (spPP K CT (· - ·))) (n_isinstance : mg "isinstance" = none) (n_tuple : mg "tuple" = none) (n_list : mg "list" = none) : FnG P w K mg base CX0 3 f fd ["store", "one"] (spOth K) := by
  refine okG (k := 2) F sc_law_otherwise (fun vs H Q E h => ?_) (fun cdv A hG outer s H vs Q E hr h => ?_)
  · obtain ⟨a, b, c, d, e, rfl, _⟩ := h
    rfl
  · obtain ⟨st, gl, n, p, q, rfl, S, hn, hp, bq, k⟩ := h
    refine ⟨_, (pss_cons (ps_set (i := 2) sc_law_otherwise.nd rfl (Or.inl rfl) (pe_own O_law_draw hG (hr.mono (by decide)) pass0 (pa_cons (pv 0) (pa_cons pe_int pa_nil)))) (pss_cons (ps_set (i := 3) sc_law_otherwise.nd rfl (Or.inl rfl) (pe_own O_law_part hG (hr.mono (by decide)) pass0 (pa_cons pe_int (pa_cons (pe_op (k_add K) pe_int (pe_own O_law_draw hG (hr.mono (by decide)) pass0 (pa_cons (pv 0) (pa_cons pe_int pa_nil)))) pa_nil)))) (pss_cons (ps_if (pt_not (pt_val (pe_callB (k_isi K) (by rfl) n_isinstance bt_isinstance (pa_cons (pv 1) (pa_cons (pe_bltn (v := .ty "tuple") (by rfl) n_tuple (by decide +kernel) rfl) pa_nil))))) (pss_one (ps_ret (pe_ix (k_ix K) (pe_lst (pa_cons (pe_op (k_add K) (pv 1) pe_int) (pa_cons (pe_op op_sub (pv 1) pe_int) (pa_cons pe_non pa_nil)))) (pe_op op_modN (pv 2) pe_int) (fun _ _ => rfl)))) pss_nil) (pss_cons (ps_set (i := 4) sc_law_otherwise.nd rfl (Or.inl rfl) (pe_lst (pa_cons (pe_own O_law_sum hG (hr.mono (by decide)) pass0 (pa_cons (pv 1) (pa_cons (pv 3) pa_nil))) (pa_cons (pe_own O_law_rest hG (hr.mono (by decide)) pass0 (pa_cons (pv 1) (pa_cons (pv 3) pa_nil))) (pa_cons (pe_tup (pa_cons (pe_op op_sub pe_int (pe_ix (k_ix K) (pv 1) pe_int (fun _ _ => rfl))) (pa_cons (pe_ix (k_ix K) (pv 1) pe_int (fun _ _ => rfl)) pa_nil))) (pa_cons (pe_tup (pa_cons pe_int (pa_cons pe_int pa_nil))) (pa_cons (pe_tup (pa_cons (pe_op op_mulU pe_int (pe_ix (k_ix K) (pv 1) pe_int (fun _ _ => rfl))) (pa_cons (pe_op op_mulU pe_int (pe_ix (k_ix K) (pv 1) pe_int (fun _ _ => rfl))) pa_nil))) pa_nil))))))) (pss_one (ps_ret (pe_ix (k_ix K) (pe_op (k_add K) (pv 4) (pe_lst (pa_cons (pe_tup (pa_cons (pe_ix (k_ix K) (pv 1) pe_int (fun _ _ => rfl)) (pa_cons pe_bl pa_nil))) (pa_cons pe_non (pa_cons (pe_callTy (k_lstC K) (by rfl) n_list bt_list (pa_cons (pv 1) pa_nil)) (pa_cons (pe_ix (k_ix K) (pv 1) pe_int (fun _ _ => rfl)) pa_nil)))))) (pv 2) (fun _ _ => rfl)))))))), ?_⟩
    have hpt : Tp K H p [.int q.num, .int q.den] := hp.1
    wtm_at "vq"
    rename_i way H1 w0 w1 S1 F1 e H2 e0 e1 S2 F2
    have F12 : True ∧ Fx st gl H H2 := ⟨trivial, F1.trans F2⟩
    have hp2 := hp.tm (Tm.fx F12.2)
    have hpt := hpt.tm (Tm.fx F12.2)
    clear F1 F2 S1 S
    have eb : (1 + e).natAbs < 2 ^ 12 := by omega
    have e1b : (1 : Int).natAbs < 2 ^ 12 := by decide
    refine c_part (by omega) (natAbs_up (n := 12) eb (by decide)) (natAbs_up (n := 12) e1b (by decide)) (fun ps H3 s3 h3 => ?_)
    obtain ⟨z, hz, bz⟩ : ∃ z, PartAt K H3 ps z ∧ Bd 12 z := ⟨_, h3, bd_divInt (by omega) e1b eb⟩
    clear h3
    have hp3 := hp2.mono s3
    have hpt := Tp.mono s3 hpt
    wtm_at "vq"
    refine i_isi (ty_tup hpt) kb_tuple_tuple ?_
    wtm_at "vq"
    rename_i r1 G1 s1 g1 r2 G2 s2 g2 p3 G3 m3 s3' t3 p4 G4 m4 s4 t4
    have b3 : (2 : Int).natAbs < 2 ^ 3 := by decide
    have m1 : CMulW 2 q.num := wide_mul b3 bq.1 (by decide) (by decide) (by decide)
    have m2 : CMulW 2 (q.den : Int) := wide_mul b3 bq.d (by decide) (by decide) (by decide)
    refine i_mulI m1 ?_
    wtm_at "vq"
    refine i_mulI m2 ?_
    wtm_at "vq"
    rename_i p5 G5 m5 s5 t5 p6 G6 m6 s6 h6 p7 G7 m7 s7 t7
    have o7 : True ∧ Same H3 G7 := ⟨trivial, s1.trans (s2.trans (s3'.trans (s4.trans (s5.trans (s6.trans s7)))))⟩
    refine i_lstC (.inr (Tp.mono o7.2 hpt)) (fun p8 G8 m8 s8 h8 => ?_)
    have hpt8 := Tp.mono (o7.2.trans s8) hpt
    wtm_at "vq"
    rename_i p9 G9 m9 s9 h9
    refine i_addL (s9 _ _ (s8 _ _ (s7 _ _ h6))) h9 (by simp) (fun pa Ga ma sa ha => ?_)
    have F9 : True ∧ Fx st gl H Ga := ⟨trivial, F12.2.trans (Fx.same (s3.trans (o7.2.trans (s8.trans (s9.trans sa)))))⟩
    have np8 : p8 ≠ st ∧ p8 ≠ gl := ⟨by wtm_at "ne", by wtm_at "ne"⟩
    have nn : q.num.natAbs < 2 ^ 1919 := Nat.lt_of_lt_of_le bq.1 (Nat.pow_le_pow_right (by decide) (by decide))
    have nd : (q.den : Int).natAbs < 2 ^ 1919 := Nat.lt_of_lt_of_le bq.d (Nat.pow_le_pow_right (by decide) (by decide))
    have S9 : StoreAt Ga st gl (n + 200) := ((S2.same s3).same (o7.2.trans (s8.trans (s9.trans sa)))).mono (by omega)
    have dbl : ∀ {i : Int} , i.natAbs < 2 ^ 1900 → (2 * i).natAbs < 2 ^ 1919 := fun {i} h => by
      have e : (2 * i).natAbs = 2 * i.natAbs := by rw [Int.natAbs_mul]; rfl
      rw [e, show (2 : Nat) ^ 1919 = 2 * 2 ^ 1918 from by rw [← Nat.pow_succ']]
      exact Nat.mul_lt_mul_of_pos_left (Nat.lt_of_lt_of_le h (Nat.pow_le_pow_right (by decide) (by decide))) (by decide)
    have neg : (0 - q.num).natAbs < 2 ^ 1919 := by
      rw [Int.zero_sub, Int.natAbs_neg]
      exact nn
    have A0 : Thg K st gl Ga 2 8000 (.ref r1) (dP (q + z)) := (thg_P (g1.mono (s2.trans (s3'.trans (s4.trans (s5.trans (s6.trans (s7.trans (s8.trans (s9.trans sa))))))))) ((bd_add bq bz).mono (by decide))).mono (by decide) (by decide)
    have A1 : Thg K st gl Ga 2 8000 (.ref r2) (dP (q - z)) := (thg_P (g2.mono (s3'.trans (s4.trans (s5.trans (s6.trans (s7.trans (s8.trans (s9.trans sa)))))))) ((bd_sub bq bz).mono (by decide))).mono (by decide) (by decide)
    have A2 := (thg_two (K := K) (m := st) (n := gl) (Tp.mono (s4.trans (s5.trans (s6.trans (s7.trans (s8.trans (s9.trans sa)))))) (Tp.of t3.eq)) (thg_int neg) (thg_int nd)).mono (k' := 2) (M' := 8000) (by decide) (by decide)
    have A3 := (thg_two (K := K) (m := st) (n := gl) (Tp.mono (s5.trans (s6.trans (s7.trans (s8.trans (s9.trans sa))))) (Tp.of t4.eq)) (thg_int (i := 0) (by decide)) (thg_int (i := 1) (by decide))).mono (k' := 2) (M' := 8000) (by decide) (by decide)
    have A4 := (thg_two (K := K) (m := st) (n := gl) (Tp.mono (s6.trans (s7.trans (s8.trans (s9.trans sa)))) (Tp.of t5.eq)) (thg_int (dbl bq.1)) (thg_int (dbl bq.d))).mono (k' := 2) (M' := 8000) (by decide) (by decide)
    have A5 := (thg_two (K := K) (m := st) (n := gl) (Tp.mono (s8.trans (s9.trans sa)) (Tp.of t7.eq)) (thg_int nn) ((thg_bl true).mono (M' := 1921) (Nat.le_refl 0) (by decide))).mono (k' := 2) (M' := 8000) (by decide) (by decide)
    have A7 := (thg_twoL (K := K) (m := st) (n := gl) (sa _ _ (s9 _ _ h8)) np8.1 np8.2 (thg_int nn) (thg_int nd)).mono (k' := 2) (M' := 8000) (by decide) (by decide)
    obtain ⟨vz, dz, ez, Z⟩ : ∃ (vz : V) (dz : PyData), atI [.ref r1, .ref r2, .ref p3, .ref p4, .ref p5, .ref p7, .non, .ref p8, .int q.num] way = some vz ∧ Thg K st gl Ga 2 8000 vz dz := by
      rcases (by omega : way = ((0 : Nat) : Int) ∨ way = ((1 : Nat) : Int) ∨ way = ((2 : Nat) : Int) ∨ way = ((3 : Nat) : Int) ∨ way = ((4 : Nat) : Int) ∨ way = ((5 : Nat) : Int) ∨ way = ((6 : Nat) : Int) ∨ way = ((7 : Nat) : Int) ∨ way = ((8 : Nat) : Int)) with rfl | rfl | rfl | rfl | rfl | rfl | rfl | rfl | rfl
      · exact ⟨_, _, atI_nat rfl, A0⟩
      · exact ⟨_, _, atI_nat rfl, A1⟩
      · exact ⟨_, _, atI_nat rfl, A2⟩
      · exact ⟨_, _, atI_nat rfl, A3⟩
      · exact ⟨_, _, atI_nat rfl, A4⟩
      · exact ⟨_, _, atI_nat rfl, A5⟩
      · exact ⟨_, _, atI_nat rfl, thg_non.mono (by decide) (by decide)⟩
      · exact ⟨_, _, atI_nat rfl, A7⟩
      · exact ⟨_, _, atI_nat rfl, (thg_int nn).mono (by decide) (by decide)⟩
    clear A0 A1 A2 A3 A4 A5 A7 F12
    wtm_at "vq"
    refine i_ixL (SqL.of ha) ez ?_
    exact k _ _ _ Z (S9.mono (by omega)) F9.2
def spRowO (K : PySem.W.Frag) : Sp := fun vs H Q _ => ∃ (st gl : Addr) (n : Nat) (p : Addr) (r : Row), vs = [.ref st, .ref p] ∧ StoreAt H st gl n ∧ n ≤ 80000000 ∧ TD K H (.ref p) (dRow r) ∧ (Bd 1900 r.now ∧ Bd 1900 r.inall ∧ Bd 1900 r.debt) ∧ ∀ (v : V) (d : PyData) H', Thg K st gl H' 4 60000 v d → StoreAt H' st gl (n + 600) → Fx st gl H H' → Q v H'
theorem c_rowO {st gl : Addr} {n : Nat} {p : Addr} {r : Row} {H : Hp} {Q : VK} {E : XK} (S : StoreAt H st gl n) (hn : n ≤ 80000000) (h : TD K H (.ref p) (dRow r)) (b : Bd 1900 r.now ∧ Bd 1900 r.inall ∧ Bd 1900 r.debt) (k : ∀ (v : V) (d : PyData) H', Thg K st gl H' 4 60000 v d → StoreAt H' st gl (n + 600) → Fx st gl H H' → Q v H') : spRowO K ([.ref st, .ref p] ++ []) H Q E := ⟨st, gl, n, p, r, rfl, S, hn, h, b, k⟩
abbrev s_law_row_otherwise : Stmt := topS 39
theorem sc_law_row_otherwise : FnScope ["store", "row", "way", "at"] ["store", "row"] (defScope s_law_row_otherwise) := ⟨rfl, rfl, rfl, by decide +kernel, rfl, by decide +kernel, by decide +kernel⟩
theorem ok_law_row_otherwise {f : Addr} {fd : FuncData} (F : FunD K "_law_row_otherwise" "_law_row_otherwise" (defArgs s_law_row_otherwise) (defBody s_law_row_otherwise) (defScope s_law_row_otherwise) [] [] f fd) (O_law_draw : Own P w K mg base CX0 2 "_law_draw" ["store", "many"] [] spDraw) (O_law_otherwise : Own P w K mg base CX0 3 "_law_otherwise" ["store", "one"] [] (spOth K)) (n_list : mg "list" = none) : FnG P w K mg base CX0 4 f fd ["store", "row"] (spRowO K) := by
  refine okG (k := 3) F sc_law_row_otherwise (fun vs H Q E h => ?_) (fun cdv A hG outer s H vs Q E hr h => ?_)
  · obtain ⟨a, b, c, d, e, rfl, _⟩ := h
    rfl
  · obtain ⟨st, gl, n, p, r, rfl, S, hn, hp, bq, k⟩ := h
    refine ⟨_, (pss_cons (ps_set (i := 2) sc_law_row_otherwise.nd rfl (Or.inl rfl) (pe_own O_law_draw hG (hr.mono (by decide)) pass0 (pa_cons (pv 0) (pa_cons pe_int pa_nil)))) (pss_cons (ps_set (i := 3) sc_law_row_otherwise.nd rfl (Or.inl rfl) (pe_own O_law_draw hG (hr.mono (by decide)) pass0 (pa_cons (pv 0) (pa_cons pe_int pa_nil)))) (pss_cons (ps_if (pt_cmpR op_lt (pv 2) pe_int (nomark _)) (pss_one (ps_ret (pe_op (k_catA K) (pe_op (k_catA K) (pe_slice (k_slA K) (pv 1) po_none (po_some (pv 3))) (pe_tup (pa_cons (pe_own O_law_otherwise hG (hr.mono (by decide)) pass0 (pa_cons (pv 0) (pa_cons (pe_ix (k_ix K) (pv 1) (pv 3) (fun _ _ => rfl)) pa_nil))) pa_nil))) (pe_slice (k_slA K) (pv 1) (po_some (pe_op (k_add K) (pv 3) pe_int)) po_none)))) pss_nil) (pss_one (ps_ret (pe_ix (k_ix K) (pe_lst (pa_cons (pe_callTy (k_lstC K) (by rfl) n_list bt_list (pa_cons (pv 1) pa_nil)) (pa_cons (pe_slice (k_slA K) (pv 1) po_none (po_some pe_int)) (pa_cons (pe_op (k_catA K) (pv 1) (pe_tup (pa_cons (pe_tup (pa_cons pe_int (pa_cons pe_int pa_nil))) pa_nil))) pa_nil)))) (pe_op op_sub (pv 2) pe_int) (fun _ _ => rfl))))))), ?_⟩
    wtm_at "vq"
    rename_i way H1 w0 w1 S1 F1 e H2 e0 e1 S2 F2
    obtain ⟨j, rfl⟩ : ∃ j : Nat, e = j := ⟨e.toNat, by omega⟩
    have F12 : True ∧ Fx st gl H H2 := ⟨trivial, F1.trans F2⟩
    have hp2 := hp.tm (Tm.fx F12.2)
    clear F1 F2 S1 S hp
    obtain ⟨_, pa, pb, pc, z, t1, u1, u2, u3⟩ := id hp2.row
    cases z
    have RK : RowP K st gl H2 2 12006 [.ref pa, .ref pb, .ref pc] [dP r.now, dP r.inall, dP r.debt] := (((RowP.one ((thg_P u1 (bq.1.mono (by decide))).mono (by decide) (Nat.le_refl _))).append (RowP.one ((thg_P u2 (bq.2.1.mono (by decide))).mono (by decide) (Nat.le_refl _)))).append (RowP.one ((thg_P u3 (bq.2.2.mono (by decide))).mono (by decide) (Nat.le_refl _))))
    have at3 : ∀ j, j < 3 → ∃ pe q, [V.ref pa, .ref pb, .ref pc][j]? = some (.ref pe) ∧ PartAt K H2 pe q ∧ Bd 1900 q := fun j hj => by
      rcases (by omega : j = 0 ∨ j = 1 ∨ j = 2) with rfl | rfl | rfl
      · exact ⟨_, _, rfl, u1, bq.1⟩
      · exact ⟨_, _, rfl, u2, bq.2.1⟩
      · exact ⟨_, _, rfl, u3, bq.2.2⟩
    have l3 : ([V.ref pa, .ref pb, .ref pc]).length = 3 := rfl
    generalize [V.ref pa, .ref pb, .ref pc] = ks at *
    with_reducible refine ite_d (fun c => ?_) (fun c => ?_)
    · wtm_at "vq"
      refine i_slA t1 (fun p7 H7 s7 t7 => ?_)
      rw [cut_toJ (by omega)] at t7
      obtain ⟨pe, q, hpe, hq, bqq⟩ := at3 j (by omega)
      wtm_at "vq"
      refine i_ixT (Tp.mono s7 t1) (atI_nat hpe) ?_
      wtm_at "vq"
      refine c_oth (S2.same s7) (by omega) (hq.mono s7) bqq (fun v d H8 Z S8 F8 => ?_)
      wtm_at "vq"
      rename_i pd HD nD sD tD
      have t78 := t7.tm (Tm.fx F8)
      have t18 := (Tp.mono s7 t1).tm (Tm.fx F8)
      refine i_catA (xs := ks.take j) (ys := [v]) (Tp.mono sD t78) (Tp.of tD.eq) (by simp; omega) (fun pe2 HE sE tE => ?_)
      wtm_at "vq"
      refine i_slA (Tp.mono (sD.trans sE) t18) (fun pf HF sF tF => ?_)
      rw [show ((j : Nat) : Int) + 1 = ((j + 1 : Nat) : Int) by omega, cut_fromJ] at tF
      refine i_catA (xs := ks.take j ++ [v]) (ys := ks.drop (j + 1)) (Tp.mono sF tE) tF (by simp; omega) (fun pg HG sG tG => ?_)
      have o1 : True ∧ Same H8 HG := ⟨trivial, sD.trans (sE.trans (sF.trans sG))⟩
      have F2G : True ∧ Fx st gl H2 HG := ⟨trivial, (Fx.same s7).trans (F8.trans (Fx.same o1.2))⟩
      have RR := (((RK.take j).fx F2G.2).append (RowP.one (Z.fx (Fx.same o1.2)))).append ((RK.drop (j + 1)).fx F2G.2)
      exact k _ _ _ ((RR.tup tG).mono (by decide) (by decide)) ((S8.same o1.2).mono (by omega)) (F12.2.trans F2G.2)
    wtm_at "vq"
    refine i_lstC (.inr t1) (fun qa Ga na sa ha => ?_)
    wtm_at "vq"
    refine i_slA (Tp.mono sa t1) (fun p7 H7 s7 t7 => ?_)
    rw [show (2 : Int) = ((2 : Nat) : Int) from rfl, cut_toJ (by omega)] at t7
    wtm_at "vq"
    rename_i p8 H8 n8 s8 t8 p9 H9 n9 s9 t9
    have I8 : Thg K st gl H8 2 4000 (.ref p8) (.tuple [.int 0, .int 1]) := (thg_two (Tp.of t8.eq) (thg_int (i := 0) (by decide)) (thg_int (i := 1) (by decide))).mono (by decide) (by decide)
    refine i_catA (xs := ks) (ys := [.ref p8]) (Tp.mono (sa.trans (s7.trans (s8.trans s9))) t1) (Tp.of t9.eq) (by simp; omega) (fun pg HG sG tG => ?_)
    wtm_at "vq"
    rename_i pl HL nL sL hL
    have o2 : True ∧ Same H2 HL := ⟨trivial, sa.trans (s7.trans (s8.trans (s9.trans (sG.trans sL))))⟩
    have nqa : qa ≠ st ∧ qa ≠ gl := ⟨by wtm_at "ne", by wtm_at "ne"⟩
    have R2 := RK.fx (Fx.same o2.2)
    have A0 := (R2.lst ((s7.trans (s8.trans (s9.trans (sG.trans sL)))) _ _ ha) nqa.1 nqa.2).mono (k' := 4) (M' := 60000) (by decide) (by decide)
    have A1 := ((R2.take 2).tup (Tp.mono (s8.trans (s9.trans (sG.trans sL))) t7)).mono (k' := 4) (M' := 60000) (by decide) (by decide)
    have A2 := ((R2.append (RowP.one (I8.fx (Fx.same (s9.trans (sG.trans sL)))))).tup (Tp.mono sL tG)).mono (k' := 4) (M' := 60000) (by decide) (by decide)
    obtain ⟨vz, dz, ez, Z⟩ : ∃ (vz : V) (dz : PyData), atI [.ref qa, .ref p7, .ref pg] (way - 4) = some vz ∧ Thg K st gl HL 4 60000 vz dz := by
      rcases (by omega : way - 4 = ((0 : Nat) : Int) ∨ way - 4 = ((1 : Nat) : Int) ∨ way - 4 = ((2 : Nat) : Int)) with e | e | e <;> rw [e]
      · exact ⟨_, _, atI_nat rfl, A0⟩
      · exact ⟨_, _, atI_nat rfl, A1⟩
      · exact ⟨_, _, atI_nat rfl, A2⟩
    refine i_ixL (SqL.of hL) ez ?_
    exact k _ _ _ Z ((S2.same o2.2).mono (by omega)) (F12.2.trans (Fx.same o2.2))
end
section
local macro_rules | `(tactic| wtm_at "lkP") => `(tactic| first
  | with_reducible assumption
  | exact PartK.pt (by with_reducible assumption)
  | exact PartAt.tm (by with_reducible assumption) (by wtm_at "tm") | fail)
/-! ### the steps as one word: wtm_at "v1" a step, wtm_at "v" as many as go -/
local macro_rules | `(tactic| wtm_at "tm") => `(tactic| first
  | exact Tm.refl _
  | exact Tm.same (by with_reducible assumption)
  | exact Tm.fx (by with_reducible assumption)
  | (refine Tm.trans ?_ (Tm.same (by with_reducible assumption)); wtm_at "tm")
  | (refine Tm.trans ?_ (Tm.fx (by with_reducible assumption)); wtm_at "tm") | fail)
local macro_rules | `(tactic| wtm_at "lkT1") => `(tactic| first
  | with_reducible assumption
  | exact TpK.tp (by with_reducible assumption)
  | exact TpH.tm (by with_reducible assumption) (by wtm_at "tm")
  | exact Tp.tm (by with_reducible assumption) (by wtm_at "tm")
  | exact Tp.of (by with_reducible assumption) | fail)
local macro_rules | `(tactic| wtm_at "lkT") => `(tactic| first
  | wtm_at "lkT1"
  | exact PartAt.tpe (by wtm_at "lkP") (by rfl)
  | fail)
local macro_rules | `(tactic| wtm_at "lk") => `(tactic| first
  | assumption
  | exact b_get (by assumption) (by wtm_at "lk")
  | exact b_lst (by assumption) (by wtm_at "ne") (by wtm_at "ne") (by wtm_at "lk") | fail)
local macro_rules | `(tactic| wtm_at "lkL") => `(tactic| first
  | assumption
  | exact SqL.of (by wtm_at "lk")
  | exact b_L (by assumption) (by wtm_at "lkL") | fail)
local macro_rules | `(tactic| wtm_at "intL") => `(tactic| first | exact IntL.nil | exact IntL.cons (by wtm_at "intL") | fail)
local macro_rules | `(tactic| wtm_at "lkS0") => `(tactic| first
  | with_reducible assumption
  | exact StoreAt.same (by with_reducible assumption) (by wtm_at "lkS0") | fail)
local macro_rules | `(tactic| wtm_at "lkS") => `(tactic| first
  | with_reducible assumption
  | exact StoreAt.from (by with_reducible assumption) (by wtm_at "sm") | fail)
local macro_rules | `(tactic| wtm_at "ne") => `(tactic| first
  | assumption
  | exact Ne.symm (by assumption)
  | exact st_ne1 (by with_reducible assumption) (by wtm_at "lkS0")
  | exact st_ne2 (by with_reducible assumption) (by wtm_at "lkS0")
  | exact new_ne (by assumption) (by wtm_at "lk")
  | exact new_ne' (by assumption) (by wtm_at "lk") | fail)
local macro_rules | `(tactic| wtm_at "sm") => `(tactic| first
  | with_reducible assumption
  | exact Same.refl _
  | (refine Same.trans ?_ (by with_reducible assumption); wtm_at "sm") | fail)
local macro_rules | `(tactic| wtm_at "fx") => `(tactic| first
  | with_reducible assumption
  | exact Fx.same (Same.refl _)
  | exact Fx.same (by with_reducible assumption)
  | (refine Fx.trans ?_ (by with_reducible assumption); wtm_at "fx")
  | (refine Fx.trans ?_ (Fx.same (by with_reducible assumption)); wtm_at "fx") | fail)
local macro_rules | `(tactic| wtm_at "v0") => `(tactic| first
  | with_reducible refine i_seq ?_ | with_reducible refine i_asg ?_ | with_reducible refine i_var rfl ?_ | with_reducible refine i_c ?_ | with_reducible refine i_name ?_
  | with_reducible refine i_op ?_ | with_reducible refine i_ifS ?_ | with_reducible refine i_test ?_ | with_reducible refine i_tB ?_
  | with_reducible refine i_cons ?_ | with_reducible refine i_nil ?_ | with_reducible refine i_call ?_ | with_reducible refine i_callN ?_ | with_reducible refine i_callX ?_ | with_reducible refine i_callNX ?_ | with_reducible refine i_cb ?_
  | with_reducible refine i_tup ?_ | with_reducible refine i_lst ?_ | with_reducible refine i_ret ?_ | with_reducible refine i_retN ?_ | with_reducible refine i_drop ?_
  | with_reducible refine i_next ?_ | with_reducible refine i_par ?_ | with_reducible refine i_par2 ?_ | with_reducible refine i_ifE ?_ | with_reducible refine i_un ?_
  | with_reducible refine i_and ?_ | with_reducible refine i_or ?_ | with_reducible refine i_not ?_ | with_reducible refine i_andV ?_ | with_reducible refine i_orV ?_ | with_reducible refine i_notV ?_
  | with_reducible refine i_notV2 ?_ | with_reducible refine i_bif (A := fun _ => _) ?_ | with_reducible refine i_brk ?_ | with_reducible refine i_ctn ?_
  | with_reducible refine i_abs ?_ | with_reducible refine i_min ?_ | with_reducible refine i_max ?_ | with_reducible refine i_for ?_ | with_reducible refine i_iR1 ?_ | with_reducible refine i_iR2 ?_ | with_reducible refine i_iL ?_ | with_reducible refine i_iT ?_ | with_reducible refine i_wb ?_
  | with_reducible refine i_sl ?_ | with_reducible refine i_no ?_ | with_reducible refine i_so ?_ | with_reducible refine i_exI ?_ | with_reducible refine i_exB ?_ | with_reducible refine i_gcons ?_ | with_reducible refine i_gnil ?_ | with_reducible refine i_bm ?_ | with_reducible refine i_gsub ?_ | with_reducible refine i_lc ?_ | with_reducible refine i_yes ?_ | with_reducible refine i_iE ?_
  | with_reducible refine ite_1 ?_ | with_reducible refine i_pow6 ?_ | with_reducible refine i_pow18 ?_ | with_reducible refine i_pow30 ?_
  | with_reducible refine i_addI ?_ | with_reducible refine i_I0 ?_ | with_reducible refine i_U ?_ | with_reducible refine i_eqI ?_ | with_reducible refine i_neI ?_ | fail)
local macro_rules | `(tactic| wtm_at "v1") => `(tactic| first
  | wtm_at "v0"
  | ((with_reducible show rIx _ _ _ _ _); first | refine i_ixT (by wtm_at "lkT") rfl ?_ | refine i_ixL (by wtm_at "lkL") rfl ?_)
  | ((with_reducible show rLenU _ _ _ _); first | refine i_lenT (by wtm_at "lkT") ?_ | refine i_lenL (by wtm_at "lkL") ?_)
  | ((with_reducible show spDraw _ _ _ _); refine c_draw (by wtm_at "lkS") (by first | decide | omega) (by first | decide | omega) (by omega) ?_; intro _ _ _ _ _ _)
  | (with_reducible refine i_newTH (by first | decide | (simp; done)) ?_; intro _ _ _ _ _)
  | (with_reducible refine i_newL (by first | decide | (simp; done)) ?_; intro _ _ _ _ _) | fail)
local macro_rules | `(tactic| wtm_at "v") => `(tactic| repeat wtm_at "v1")
local macro_rules | `(tactic| wtm_at "vi") => `(tactic| repeat ((fail_if_success (with_reducible show tIfS _ _ _ _ _ _)); wtm_at "v1"))
/-! ### data shown and compared: found by themselves -/
local macro_rules | `(tactic| wtm_at "bd") => `(tactic| first | assumption | exact Bd.mono (by assumption) (by decide) | fail)
local macro_rules | `(tactic| wtm_at "bi") => `(tactic| first | exact natAbs_up (by assumption) (by decide) | exact natAbs_up (n := 64) (by decide) (by decide) | exact natAbs_up (n := 64) (by omega) (by decide) | fail)
local macro_rules | `(tactic| wtm_at "dpA") => `(tactic| first | exact DpAll.nil | exact DpAll.cons (by wtm_at "dp") (by wtm_at "dpA") | fail)
local macro_rules | `(tactic| wtm_at "dp") => `(tactic| first
  | exact Dp.int _ | exact Dp.bl _ | exact Dp.non | exact Dp.str _
  | exact dp_PA (by wtm_at "lkP")
  | exact Dp.tup (Tp.sq (by wtm_at "lkT")) (by wtm_at "dpA")
  | exact Dp.lst (by wtm_at "lkL") (by wtm_at "dpA") | fail)
local macro_rules | `(tactic| wtm_at "okA") => `(tactic| first | exact OkAll.nil' | exact OkAll.cons' (by wtm_at "ok") (by wtm_at "okA") | fail)
local macro_rules | `(tactic| wtm_at "ok") => `(tactic| first
  | ((with_reducible show Ok _ _ (dP _)); exact ok_P (by wtm_at "bd"))
  | exact Ok.int (by wtm_at "bi") | exact Ok.bool _ | exact Ok.none
  | ((with_reducible show Ok _ _ (.list _)); exact Ok.lst' (by wtm_at "okA")) | ((with_reducible show Ok _ _ (.tuple _)); exact Ok.tup' (by wtm_at "okA")) | fail)
local macro_rules | `(tactic| wtm_at "shA") => `(tactic| first | exact ShAll.nil | (refine ShAll.cons ?ha ?hb; (case ha => wtm_at "sh"); (case hb => wtm_at "shA")) | exact ShAll.ints _ | fail)
local macro_rules | `(tactic| wtm_at "sh") => `(tactic| first
  | ((with_reducible show Sh _ (dP _)); exact sh_P _)
  | exact Sh.int _ | exact Sh.bool _ | exact Sh.none | (refine Sh.lst ?_; wtm_at "shA") | (refine Sh.tup ?_; wtm_at "shA") | fail)
local macro_rules | `(tactic| wtm_at "v0") => `(tactic| first
  | ((with_reducible refine i_lens ?ha ?hb ?_); (case ha => rfl); (case hb => rfl))
  | with_reducible refine ite_0 ?_ | with_reducible refine ite_n0 ?_ | with_reducible refine ite_n1 ?_
  | ((with_reducible show rEqU _ (.ref _) (.ref _) _ _); refine i_eqP (by wtm_at "lkP") (by wtm_at "lkP") ?_)
  | ((with_reducible show rNeU _ (.ref _) (.ref _) _ _); refine i_neP (by wtm_at "lkP") (by wtm_at "lkP") ?_)
  | ((with_reducible show rEqU _ (.ref _) (.ref _) _ _); refine i_eqD (by wtm_at "dp") (by wtm_at "dp") (Sh.shaped (n := 9) (by wtm_at "sh") (by decide)) (Sh.shaped (n := 9) (by wtm_at "sh") (by decide)) ?_)
  | ((with_reducible show rNeU _ (.ref _) (.ref _) _ _); refine i_neD (by wtm_at "dp") (by wtm_at "dp") (Sh.shaped (n := 9) (by wtm_at "sh") (by decide)) (Sh.shaped (n := 9) (by wtm_at "sh") (by decide)) ?_)
  | ((with_reducible show rReprD _ _ _ _); refine i_repr (by wtm_at "dp") (by wtm_at "ok") (Nat.le_of_ble_eq_true rfl) (Nat.le_of_ble_eq_true rfl) ?_) | fail)
/-! calls of the reckoning; what is alike is alike -/
local macro_rules | `(tactic| wtm_at "v0") => `(tactic| first
  | ((with_reducible show spPP _ CT _ _ _ _ _); refine c_PP (by wtm_at "lkP") (by wtm_at "lkP") (by wtm_at "bd") (by wtm_at "bd") True.intro ?_; intro _ _ _ _)
  | ((with_reducible show spLess _ _ _ _ _); refine c_less (by wtm_at "lkP") (by wtm_at "lkP") (by wtm_at "bd") (by wtm_at "bd") ?_)
  | with_reducible refine ite_n (fun c => absurd rfl c) (fun _ => ?_)
  | ((with_reducible show rNeU _ (.bl _) (.bl _) _ _); refine i_neB rfl ?_)
  | ((with_reducible show rEqU _ (.bl _) (.bl _) _ _); refine i_eqB rfl ?_)
  | ((with_reducible show rNeU _ (.str _) (.str _) _ _); refine i_neS rfl ?_)
  | ((with_reducible show rEqU _ (.str _) (.str _) _ _); refine i_eqS rfl ?_) | fail)
/-! pairs that are written -/
local macro_rules | `(tactic| wtm_at "lkP") => `(tactic| first
  | exact part01 (by wtm_at "lkT1")
  | exact part11 (by wtm_at "lkT1")
  | exact partI (by wtm_at "lkT1")
  | exact partLit (by wtm_at "lkT1") (by decide) (by decide) | fail)
/-! deep data -/
local macro_rules | `(tactic| wtm_at "td") => `(tactic| first
  | with_reducible assumption
  | exact TD.tm (by with_reducible assumption) (by wtm_at "tm")
  | exact PartAt.td (by wtm_at "lkP") | fail)
local macro_rules | `(tactic| wtm_at "tl") => `(tactic| first
  | with_reducible assumption
  | exact TL.tm (by with_reducible assumption) (by wtm_at "tm") | fail)
/-! stops ahead of what is compared or shown -/
local macro_rules | `(tactic| wtm_at "vq") => `(tactic| repeat ((fail_if_success (with_reducible show rEqU _ (.ref _) _ _ _)); (fail_if_success (with_reducible show rNeU _ (.ref _) _ _ _)); (fail_if_success (with_reducible show rReprD _ _ _ _)); wtm_at "v1"))
variable {P : Program} {w : World} {K : PySem.W.Frag} {mg : Str → Option Value} {base : Heap}
/-! ### papers spoilt -/
def spSpo (K : PySem.W.Frag) : Sp := fun vs H Q _ => ∃ (st gl : Addr) (n : Nat) (p : Addr) (rs : List Row), vs = [.ref st, .ref p] ∧ StoreAt H st gl n ∧ n ≤ 70000000 ∧ TD K H (.ref p) (dRows rs) ∧ (∀ r ∈ rs, Bd 1900 r.now ∧ Bd 1900 r.inall ∧ Bd 1900 r.debt) ∧ rs.length ≤ 122 ∧ ∀ (v : V) H', PapJ K st gl H' v → StoreAt H' st gl (n + 1500) → Fx st gl H H' → Q v H'
theorem c_spo {st gl : Addr} {n : Nat} {p : Addr} {rs : List Row} {H : Hp} {Q : VK} {E : XK} (S : StoreAt H st gl n) (hn : n ≤ 70000000) (h : TD K H (.ref p) (dRows rs)) (b : ∀ r ∈ rs, Bd 1900 r.now ∧ Bd 1900 r.inall ∧ Bd 1900 r.debt) (l : rs.length ≤ 122) (k : ∀ (v : V) H', PapJ K st gl H' v → StoreAt H' st gl (n + 1500) → Fx st gl H H' → Q v H') : spSpo K ([.ref st, .ref p] ++ []) H Q E := ⟨st, gl, n, p, rs, rfl, S, hn, h, b, l, k⟩
theorem ntu_row (r : Row) : NTu (dRow r) := by
  have := nt_rows [r]
  cases this with
  | tup a => exact a (dRow r) (by simp)
abbrev s_law_spoilt : Stmt := topS 40
theorem sc_law_spoilt : FnScope ["store", "rows", "way", "at"] ["store", "rows"] (defScope s_law_spoilt) := ⟨rfl, rfl, rfl, by decide +kernel, rfl, by decide +kernel, by decide +kernel⟩
theorem ok_law_spoilt {f : Addr} {fd : FuncData} (F : FunD K "_law_spoilt" "_law_spoilt" (defArgs s_law_spoilt) (defBody s_law_spoilt) (defScope s_law_spoilt) [] [] f fd) (O_law_draw : Own P w K mg base CX0 2 "_law_draw" ["store", "many"] [] spDraw) (O_law_row_otherwise : Own P w K mg base CX0 4 "_law_row_otherwise" ["store", "row"] [] (spRowO K)) (n_list : mg "list" = none) (n_len : mg "len" = none) : FnG P w K mg base CX0 5 f fd ["store", "rows"] (spSpo K) := by
  refine okG (k := 4) F sc_law_spoilt (fun vs H Q E h => ?_) (fun cdv A hG outer s H vs Q E hr h => ?_)
  · obtain ⟨a, b, c, d, e, rfl, _⟩ := h
    rfl
  · obtain ⟨st, gl, n, p, rs, rfl, S, hn, hp, bq, lr, k⟩ := h
    refine ⟨_, (pss_cons (ps_set (i := 2) sc_law_spoilt.nd rfl (Or.inl rfl) (pe_own O_law_draw hG (hr.mono (by decide)) pass0 (pa_cons (pv 0) (pa_cons pe_int pa_nil)))) (pss_cons (ps_set (i := 3) sc_law_spoilt.nd rfl (Or.inl rfl) (pe_own O_law_draw hG (hr.mono (by decide)) pass0 (pa_cons (pv 0) (pa_cons (pe_op (k_add K) (pe_callB (k_len K) (by rfl) n_len bt_len (pa_cons (pv 1) pa_nil)) pe_int) pa_nil)))) (pss_cons (ps_if ((pw_or (pt_cmpR (k_eq K hr) (pv 2) pe_int (nomark _)) (pw_or1 (pt_cmpR (k_eq K hr) (pv 3) (pe_callB (k_len K) (by rfl) n_len bt_len (pa_cons (pv 1) pa_nil)) (nomark _))))).pt (pss_one (ps_ret (pe_ix (k_ix K) (pe_lst (pa_cons (pe_op (k_catA K) (pe_slice (k_slA K) (pv 1) po_none (po_some (pv 3))) (pe_slice (k_slA K) (pv 1) (po_some (pe_op (k_add K) (pv 3) pe_int)) po_none)) (pa_cons (pe_op (k_catA K) (pv 1) (pe_tup (pa_cons (pe_tup (pa_cons (pe_tup (pa_cons pe_int (pa_cons pe_int pa_nil))) (pa_cons (pe_tup (pa_cons pe_int (pa_cons pe_int pa_nil))) (pa_cons (pe_tup (pa_cons pe_int (pa_cons pe_int pa_nil))) pa_nil)))) pa_nil))) (pa_cons (pe_callTy (k_lstC K) (by rfl) n_list bt_list (pa_cons (pv 1) pa_nil)) (pa_cons pe_non (pa_cons pe_int (pa_cons pe_str (pa_cons pe_dnewK pa_nil)))))))) (pe_own O_law_draw hG (hr.mono (by decide)) pass0 (pa_cons (pv 0) (pa_cons pe_int pa_nil))) (fun _ _ => rfl)))) pss_nil) (pss_cons (ps_if (pt_cmpR (k_eq K hr) (pv 2) pe_int (nomark _)) (pss_one (ps_ret (pe_op (k_catA K) (pe_op (k_catA K) (pe_slice (k_slA K) (pv 1) po_none (po_some (pv 3))) (pe_slice (k_slA K) (pv 1) (po_some (pv 3)) (po_some (pe_op (k_add K) (pv 3) pe_int)))) (pe_slice (k_slA K) (pv 1) (po_some (pv 3)) po_none)))) pss_nil) (pss_cons (ps_if (pt_cmpR (k_eq K hr) (pv 2) pe_int (nomark _)) (pss_one (ps_ret (pe_op (k_catA K) (pe_op (k_catA K) (pe_slice (k_slA K) (pv 1) po_none (po_some (pv 3))) (pe_sliceS K rfl (pe_slice (k_slA K) (pv 1) (po_some (pv 3)) (po_some (pe_op (k_add K) (pv 3) pe_int))) po_none po_none (po_some (pe_un un_neg pe_int)))) (pe_slice (k_slA K) (pv 1) (po_some (pe_op (k_add K) (pv 3) pe_int)) po_none)))) pss_nil) (pss_cons (ps_if (pt_cmpR (k_eq K hr) (pv 2) pe_int (nomark _)) (pss_one (ps_ret (pe_op (k_catA K) (pe_op (k_catA K) (pe_slice (k_slA K) (pv 1) po_none (po_some (pv 3))) (pe_tup (pa_cons (pe_ix (k_ix K) (pe_lst (pa_cons pe_non (pa_cons pe_int (pa_cons pe_str (pa_cons (pe_tup pa_nil) (pa_cons (pv 1) pa_nil)))))) (pe_own O_law_draw hG (hr.mono (by decide)) pass0 (pa_cons (pv 0) (pa_cons pe_int pa_nil))) (fun _ _ => rfl)) pa_nil))) (pe_slice (k_slA K) (pv 1) (po_some (pe_op (k_add K) (pv 3) pe_int)) po_none)))) pss_nil) (pss_one (ps_ret (pe_op (k_catA K) (pe_op (k_catA K) (pe_slice (k_slA K) (pv 1) po_none (po_some (pv 3))) (pe_tup (pa_cons (pe_own O_law_row_otherwise hG (hr.mono (by decide)) pass0 (pa_cons (pv 0) (pa_cons (pe_ix (k_ix K) (pv 1) (pv 3) (fun _ _ => rfl)) pa_nil))) pa_nil))) (pe_slice (k_slA K) (pv 1) (po_some (pe_op (k_add K) (pv 3) pe_int)) po_none)))))))))), ?_⟩
    obtain ⟨_, ks, z, z1, z2⟩ := TD.inv hp
    cases z
    have lk : ks.length = rs.length := by simpa using z2.len
    wtm_at "vq"
    rename_i way H1 w0 w1 S1 F1 e H2 e0 e1 S2 F2
    obtain ⟨j, rfl⟩ : ∃ j : Nat, e = j := ⟨e.toNat, by omega⟩
    have F12 : True ∧ Fx st gl H H2 := ⟨trivial, F1.trans F2⟩
    have t1 := z1.tm (Tm.fx F12.2)
    have t2 := z2.tm (Tm.fx F12.2)
    clear F1 F2 S1 S hp z1 z2
    have RK : RowP K st gl H2 5 (122 * 12102) ks (rs.map dRow) := RowP.of (M := 12100) t2.jl (fun d hd => by
      obtain ⟨r, hr, rfl⟩ := List.mem_map.mp hd
      exact (ok_row (bq r hr).1 (bq r hr).2.1 (bq r hr).2.2).mono (by decide) (Nat.le_refl _)) (fun d hd => by
      obtain ⟨r, hr, rfl⟩ := List.mem_map.mp hd
      exact (ntu_row r).pl) (by rw [List.length_map]; exact lr)
    with_reducible refine ite_d (fun c0 => ?_) (fun c0 => ?_)
    · skip
      wtm_at "vq"
      refine i_slA t1 (fun p3 H3 s3 t3 => ?_)
      rw [cut_toJ (by omega)] at t3
      wtm_at "vq"
      refine i_slA (Tp.mono s3 t1) (fun p4 H4 s4 t4 => ?_)
      rw [show ((j : Nat) : Int) + 1 = ((j + 1 : Nat) : Int) by omega, cut_fromJ] at t4
      refine i_catA (Tp.mono s4 t3) t4 (by simp; omega) (fun p5 H5 s5 t5 => ?_)
      wtm_at "vq"
      rename_i q1 G1 m1 g1 u1 q2 G2 m2 g2 u2 q3 G3 m3 g3 u3 q4 G4 m4 g4 u4 q5 G5 m5 g5 u5
      have o5 : True ∧ Same H2 G5 := ⟨trivial, s3.trans (s4.trans (s5.trans (g1.trans (g2.trans (g3.trans (g4.trans g5))))))⟩
      have z0 : ∀ {p : Addr} {H : Hp}, Tp K H p [.int 0, .int 1] → Thg K st gl H 1 4000 (.ref p) (dP 0) := fun h => thg_P ⟨h⟩ ⟨by decide, by decide⟩
      have I4 : Thg K st gl G4 2 12009 (.ref q4) (.tuple [dP 0, dP 0, dP 0]) := (((RowP.one (z0 (Tp.mono (g2.trans (g3.trans g4)) (Tp.of u1.eq)))).append (RowP.one (z0 (Tp.mono (g3.trans g4) (Tp.of u2.eq))))).append (RowP.one (z0 (Tp.mono g4 (Tp.of u3.eq))))).tup (xs := [.ref q1, .ref q2, .ref q3]) (Tp.of u4.eq)
      refine i_catA (xs := ks) (ys := [.ref q4]) (Tp.mono o5.2 t1) (Tp.of u5.eq) (by simp; omega) (fun p6 H6 s6 t6 => ?_)
      wtm_at "vq"
      refine i_lstC (.inr (Tp.mono (o5.2.trans s6) t1)) (fun p7 H7 n7 s7 h7 => ?_)
      wtm_at "vq"
      refine i_dnew (fun p8 H8 n8 s8 h8 => ?_)
      wtm_at "vq"
      rename_i p9 H9 n9 s9 h9 d9 H10 d90 d91 S10 F10
      have o9 : True ∧ Same H2 H9 := ⟨trivial, o5.2.trans (s6.trans (s7.trans (s8.trans s9)))⟩
      have F210 : True ∧ Fx st gl H2 H10 := ⟨trivial, (Fx.same o9.2).trans F10⟩
      have np9 : p9 ≠ st ∧ p9 ≠ gl := ⟨by wtm_at "ne", by wtm_at "ne"⟩
      have np7 : p7 ≠ st ∧ p7 ≠ gl := ⟨by wtm_at "ne", by wtm_at "ne"⟩
      have np8 : p8 ≠ st ∧ p8 ≠ gl := ⟨by wtm_at "ne", by wtm_at "ne"⟩
      have h10 := b_lst F10 np9.1 np9.2 h9
      have h710 : H10 p7 = some (.lst ks) := b_lst F10 np7.1 np7.2 (s9 _ _ (s8 _ _ h7))
      have h810 : H10 p8 = some (.dK []) := b_lst F10 np8.1 np8.2 (s9 _ _ h8)
      have x5 := (Tp.mono (g1.trans (g2.trans (g3.trans (g4.trans (g5.trans (s6.trans (s7.trans (s8.trans s9)))))))) t5).tm (Tm.fx F10)
      have x6 := (Tp.mono (s7.trans (s8.trans s9)) t6).tm (Tm.fx F10)
      have R10 := RK.fx F210.2
      have I10 := (I4.fx (Fx.same (g5.trans (s6.trans (s7.trans (s8.trans s9)))))).fx F10
      have A0 := ((R10.take j).append (R10.drop (j + 1))).tup x5
      have A1 := (R10.append (RowP.one (I10.mono (k' := 5) (by decide) (Nat.le_refl _)))).tup x6
      have A2 := R10.lst h710 np7.1 np7.2
      obtain ⟨vz, ez, Z⟩ : ∃ (vz : V), atI [.ref p5, .ref p6, .ref p7, .non, .int 7, .str (Str.ofString ""), .ref p8] d9 = some vz ∧ PapJ K st gl H10 vz := by
        rcases (by omega : d9 = ((0 : Nat) : Int) ∨ d9 = ((1 : Nat) : Int) ∨ d9 = ((2 : Nat) : Int) ∨ d9 = ((3 : Nat) : Int) ∨ d9 = ((4 : Nat) : Int) ∨ d9 = ((5 : Nat) : Int) ∨ d9 = ((6 : Nat) : Int)) with rfl | rfl | rfl | rfl | rfl | rfl | rfl
        · exact ⟨_, atI_nat rfl, A0.pap (by decide) (by decide)⟩
        · exact ⟨_, atI_nat rfl, A1.pap (by decide) (by decide)⟩
        · exact ⟨_, atI_nat rfl, A2.pap (by decide) (by decide)⟩
        · exact ⟨_, atI_nat rfl, thg_non.pap (by decide) (by decide)⟩
        · exact ⟨_, atI_nat rfl, (thg_int (i := 7) (by decide)).pap (by decide) (by decide)⟩
        · exact ⟨_, atI_nat rfl, thg_str.pap (by decide) (by decide)⟩
        · exact ⟨_, atI_nat rfl, .inr ⟨p8, rfl, h810, np8.1, np8.2⟩⟩
      refine i_ixL (SqL.of h10) ez ?_
      exact k _ _ Z (S10.mono (by omega)) (F12.2.trans F210.2)
    wtm_at "vq"
    with_reducible refine ite_d (fun c1 => ?_) (fun c1 => ?_)
    · skip
      wtm_at "vq"
      refine i_slA t1 (fun p3 H3 s3 t3 => ?_)
      rw [cut_toJ (by omega)] at t3
      wtm_at "vq"
      refine i_slA (Tp.mono s3 t1) (fun p4 H4 s4 t4 => ?_)
      rw [show ((j : Nat) : Int) + 1 = ((j + 1 : Nat) : Int) by omega, cut_fromJ] at t4
      refine i_catA (Tp.mono s4 t3) t4 (by simp; omega) (fun p5 H5 s5 t5 => ?_)
      wtm_at "vq"
      rename_i q1 G1 m1 g1 u1 q2 G2 m2 g2 u2 q3 G3 m3 g3 u3 q4 G4 m4 g4 u4 q5 G5 m5 g5 u5
      have o5 : True ∧ Same H2 G5 := ⟨trivial, s3.trans (s4.trans (s5.trans (g1.trans (g2.trans (g3.trans (g4.trans g5))))))⟩
      have z0 : ∀ {p : Addr} {H : Hp}, Tp K H p [.int 0, .int 1] → Thg K st gl H 1 4000 (.ref p) (dP 0) := fun h => thg_P ⟨h⟩ ⟨by decide, by decide⟩
      have I4 : Thg K st gl G4 2 12009 (.ref q4) (.tuple [dP 0, dP 0, dP 0]) := (((RowP.one (z0 (Tp.mono (g2.trans (g3.trans g4)) (Tp.of u1.eq)))).append (RowP.one (z0 (Tp.mono (g3.trans g4) (Tp.of u2.eq))))).append (RowP.one (z0 (Tp.mono g4 (Tp.of u3.eq))))).tup (xs := [.ref q1, .ref q2, .ref q3]) (Tp.of u4.eq)
      refine i_catA (xs := ks) (ys := [.ref q4]) (Tp.mono o5.2 t1) (Tp.of u5.eq) (by simp; omega) (fun p6 H6 s6 t6 => ?_)
      wtm_at "vq"
      refine i_lstC (.inr (Tp.mono (o5.2.trans s6) t1)) (fun p7 H7 n7 s7 h7 => ?_)
      wtm_at "vq"
      refine i_dnew (fun p8 H8 n8 s8 h8 => ?_)
      wtm_at "vq"
      rename_i p9 H9 n9 s9 h9 d9 H10 d90 d91 S10 F10
      have o9 : True ∧ Same H2 H9 := ⟨trivial, o5.2.trans (s6.trans (s7.trans (s8.trans s9)))⟩
      have F210 : True ∧ Fx st gl H2 H10 := ⟨trivial, (Fx.same o9.2).trans F10⟩
      have np9 : p9 ≠ st ∧ p9 ≠ gl := ⟨by wtm_at "ne", by wtm_at "ne"⟩
      have np7 : p7 ≠ st ∧ p7 ≠ gl := ⟨by wtm_at "ne", by wtm_at "ne"⟩
      have np8 : p8 ≠ st ∧ p8 ≠ gl := ⟨by wtm_at "ne", by wtm_at "ne"⟩
      have h10 := b_lst F10 np9.1 np9.2 h9
      have h710 : H10 p7 = some (.lst ks) := b_lst F10 np7.1 np7.2 (s9 _ _ (s8 _ _ h7))
      have h810 : H10 p8 = some (.dK []) := b_lst F10 np8.1 np8.2 (s9 _ _ h8)
      have x5 := (Tp.mono (g1.trans (g2.trans (g3.trans (g4.trans (g5.trans (s6.trans (s7.trans (s8.trans s9)))))))) t5).tm (Tm.fx F10)
      have x6 := (Tp.mono (s7.trans (s8.trans s9)) t6).tm (Tm.fx F10)
      have R10 := RK.fx F210.2
      have I10 := (I4.fx (Fx.same (g5.trans (s6.trans (s7.trans (s8.trans s9)))))).fx F10
      have A0 := ((R10.take j).append (R10.drop (j + 1))).tup x5
      have A1 := (R10.append (RowP.one (I10.mono (k' := 5) (by decide) (Nat.le_refl _)))).tup x6
      have A2 := R10.lst h710 np7.1 np7.2
      obtain ⟨vz, ez, Z⟩ : ∃ (vz : V), atI [.ref p5, .ref p6, .ref p7, .non, .int 7, .str (Str.ofString ""), .ref p8] d9 = some vz ∧ PapJ K st gl H10 vz := by
        rcases (by omega : d9 = ((0 : Nat) : Int) ∨ d9 = ((1 : Nat) : Int) ∨ d9 = ((2 : Nat) : Int) ∨ d9 = ((3 : Nat) : Int) ∨ d9 = ((4 : Nat) : Int) ∨ d9 = ((5 : Nat) : Int) ∨ d9 = ((6 : Nat) : Int)) with rfl | rfl | rfl | rfl | rfl | rfl | rfl
        · exact ⟨_, atI_nat rfl, A0.pap (by decide) (by decide)⟩
        · exact ⟨_, atI_nat rfl, A1.pap (by decide) (by decide)⟩
        · exact ⟨_, atI_nat rfl, A2.pap (by decide) (by decide)⟩
        · exact ⟨_, atI_nat rfl, thg_non.pap (by decide) (by decide)⟩
        · exact ⟨_, atI_nat rfl, (thg_int (i := 7) (by decide)).pap (by decide) (by decide)⟩
        · exact ⟨_, atI_nat rfl, thg_str.pap (by decide) (by decide)⟩
        · exact ⟨_, atI_nat rfl, .inr ⟨p8, rfl, h810, np8.1, np8.2⟩⟩
      refine i_ixL (SqL.of h10) ez ?_
      exact k _ _ Z (S10.mono (by omega)) (F12.2.trans F210.2)
    have jl : j < ks.length := by omega
    wtm_at "vq"
    with_reducible refine ite_d (fun c2 => ?_) (fun c2 => ?_)
    · wtm_at "vq"
      refine i_slA t1 (fun p3 H3 s3 t3 => ?_)
      rw [cut_toJ (by omega)] at t3
      wtm_at "vq"
      refine i_slA (Tp.mono s3 t1) (fun p4 H4 s4 t4 => ?_)
      obtain ⟨es, RE⟩ := RK.cut (a := j) (b := 1)
      have lc : (cutV ks (some (j : Int)) (some ((j : Int) + 1))).length ≤ ks.length := cut_len (a := j) (b := 1)
      have t4 : Tp K H4 p4 (cutV ks (some (j : Int)) (some ((j : Int) + ((1 : Nat) : Int)))) := t4
      refine i_catA (Tp.mono s4 t3) t4 (by simp; omega) (fun p5 H5 s5 t5 => ?_)
      wtm_at "vq"
      refine i_slA (Tp.mono (s3.trans (s4.trans s5)) t1) (fun p6 H6 s6 t6 => ?_)
      rw [cut_fromJ] at t6
      refine i_catA (Tp.mono s6 t5) t6 (by simp; omega) (fun p7 H7 s7 t7 => ?_)
      have o2 : True ∧ Same H2 H7 := ⟨trivial, s3.trans (s4.trans (s5.trans (s6.trans s7)))⟩
      have RR := (((RK.take j).append RE).append (RK.drop j)).fx (Fx.same o2.2)
      exact k _ _ ((RR.tup t7).pap (by decide) (by decide)) ((S2.same o2.2).mono (by omega)) (F12.2.trans (Fx.same o2.2))
    wtm_at "vq"
    with_reducible refine ite_d (fun c3 => ?_) (fun c3 => ?_)
    · wtm_at "vq"
      refine i_slA t1 (fun p3 H3 s3 t3 => ?_)
      rw [cut_toJ (by omega)] at t3
      wtm_at "vq"
      refine i_tSlS ?_
      wtm_at "vq"
      refine i_slA (Tp.mono s3 t1) (fun p4 H4 s4 t4 => ?_)
      wtm_at "vq"
      refine i_revS t4 (fun p9 H9 n9 s9 t9 => ?_)
      obtain ⟨es, RE⟩ := RK.cut (a := j) (b := 2)
      have lc : (cutV ks (some (j : Int)) (some ((j : Int) + 2))).length ≤ ks.length := cut_len (a := j) (b := 2)
      have t9' : Tp K H9 p9 (cutV ks (some (j : Int)) (some ((j : Int) + 2))).reverse := Tp.of t9.eq
      refine i_catA (Tp.mono (s4.trans s9) t3) t9' (by simp; omega) (fun p5 H5 s5 t5 => ?_)
      wtm_at "vq"
      refine i_slA (Tp.mono (s3.trans (s4.trans (s9.trans s5))) t1) (fun p6 H6 s6 t6 => ?_)
      rw [show ((j : Nat) : Int) + 2 = ((j + 2 : Nat) : Int) by omega, cut_fromJ] at t6
      refine i_catA (Tp.mono s6 t5) t6 (by simp; omega) (fun p7 H7 s7 t7 => ?_)
      have o2 : True ∧ Same H2 H7 := ⟨trivial, s3.trans (s4.trans (s9.trans (s5.trans (s6.trans s7))))⟩
      have RR := (((RK.take j).append RE.rev).append (RK.drop (j + 2))).fx (Fx.same o2.2)
      exact k _ _ ((RR.tup t7).pap (by decide) (by decide)) ((S2.same o2.2).mono (by omega)) (F12.2.trans (Fx.same o2.2))
    wtm_at "vq"
    with_reducible refine ite_d (fun c4 => ?_) (fun c4 => ?_)
    · wtm_at "vq"
      refine i_slA t1 (fun p3 H3 s3 t3 => ?_)
      rw [cut_toJ (by omega)] at t3
      wtm_at "vq"
      rename_i p4 H4 m4 s4 t4 p5 H5 m5 s5 h5 d6 H6 d60 d61 S6 F6
      have np5 : p5 ≠ st ∧ p5 ≠ gl := ⟨by wtm_at "ne", by wtm_at "ne"⟩
      have h56 := b_lst F6 np5.1 np5.2 h5
      have F26 : True ∧ Fx st gl H2 H6 := ⟨trivial, (Fx.same (s3.trans (s4.trans s5))).trans F6⟩
      have x4 : Tp K H6 p4 [] := (Tp.mono s5 (Tp.of t4.eq)).tm (Tm.fx F6)
      have t36 := (Tp.mono (s4.trans s5) t3).tm (Tm.fx F6)
      have t16 := t1.tm (Tm.fx F26.2)
      have R6 := RK.fx F26.2
      obtain ⟨vz, dz, ez, Z⟩ : ∃ (vz : V) (dz : PyData), atI [.non, .int 7, .str (Str.ofString ""), .ref p4, .ref p] d6 = some vz ∧ Thg K st gl H6 6 1500000 vz dz := by
        rcases (by omega : d6 = ((0 : Nat) : Int) ∨ d6 = ((1 : Nat) : Int) ∨ d6 = ((2 : Nat) : Int) ∨ d6 = ((3 : Nat) : Int) ∨ d6 = ((4 : Nat) : Int)) with rfl | rfl | rfl | rfl | rfl
        · exact ⟨_, _, atI_nat rfl, thg_non.mono (by decide) (by decide)⟩
        · exact ⟨_, _, atI_nat rfl, (thg_int (i := 7) (by decide)).mono (by decide) (by decide)⟩
        · exact ⟨_, _, atI_nat rfl, thg_str.mono (by decide) (by decide)⟩
        · exact ⟨_, _, atI_nat rfl, ((RowP.nil (k := 1)).tup x4).mono (by decide) (by decide)⟩
        · exact ⟨_, _, atI_nat rfl, (R6.tup t16).mono (by decide) (by decide)⟩
      refine i_ixL (SqL.of h56) ez ?_
      wtm_at "vq"
      rename_i pd HD nD sD tD
      refine i_catA (xs := ks.take j) (ys := [vz]) (Tp.mono sD t36) (Tp.of tD.eq) (by simp; omega) (fun p7 H7 s7 t7 => ?_)
      wtm_at "vq"
      refine i_slA (Tp.mono (sD.trans s7) t16) (fun p8 H8 s8 t8 => ?_)
      rw [show ((j : Nat) : Int) + 1 = ((j + 1 : Nat) : Int) by omega, cut_fromJ] at t8
      refine i_catA (xs := ks.take j ++ [vz]) (ys := ks.drop (j + 1)) (Tp.mono s8 t7) t8 (by simp; omega) (fun p9 H9 s9 t9 => ?_)
      have o9 : True ∧ Same H6 H9 := ⟨trivial, sD.trans (s7.trans (s8.trans s9))⟩
      have RR := (((R6.lift (k' := 6) (by decide)).take j).append (RowP.one Z)).append ((R6.lift (k' := 6) (by decide)).drop (j + 1))
      exact k _ _ (((RR.fx (Fx.same o9.2)).tup t9).pap (by decide) (by decide)) ((S6.same o9.2).mono (by omega)) (F12.2.trans (F26.2.trans (Fx.same o9.2)))
    wtm_at "vq"
    refine i_slA t1 (fun p3 H3 s3 t3 => ?_)
    rw [cut_toJ (by omega)] at t3
    obtain ⟨va, hva⟩ : ∃ va, ks[j]? = some va := ⟨_, List.getElem?_eq_getElem jl⟩
    obtain ⟨r, hr_, gr⟩ := t2.row hva
    obtain ⟨pa, _, _, _, rfl, _⟩ := id gr.row
    have br := bq r (List.mem_of_getElem? hr_)
    wtm_at "vq"
    refine i_ixT (Tp.mono s3 t1) (atI_nat hva) ?_
    wtm_at "vq"
    refine c_rowO (S2.same s3) (by omega) (gr.tm (Tm.same s3)) br (fun v d H8 Z S8 F8 => ?_)
    wtm_at "vq"
    rename_i pd HD nD sD tD
    have F28 : True ∧ Fx st gl H2 H8 := ⟨trivial, (Fx.same s3).trans F8⟩
    have t38 := t3.tm (Tm.fx F8)
    have t18 := t1.tm (Tm.fx F28.2)
    have R8 := (RK.fx F28.2)
    refine i_catA (xs := ks.take j) (ys := [v]) (Tp.mono sD t38) (Tp.of tD.eq) (by simp; omega) (fun p7 H7 s7 t7 => ?_)
    wtm_at "vq"
    refine i_slA (Tp.mono (sD.trans s7) t18) (fun p8 H9 s8 t8 => ?_)
    rw [show ((j : Nat) : Int) + 1 = ((j + 1 : Nat) : Int) by omega, cut_fromJ] at t8
    refine i_catA (xs := ks.take j ++ [v]) (ys := ks.drop (j + 1)) (Tp.mono s8 t7) t8 (by simp; omega) (fun p9 HA s9 t9 => ?_)
    have o9 : True ∧ Same H8 HA := ⟨trivial, sD.trans (s7.trans (s8.trans s9))⟩
    have RR := ((R8.take j).append (RowP.one (Z.mono (k' := 5) (by decide) (Nat.le_refl _)))).append (R8.drop (j + 1))
    exact k _ _ (((RR.fx (Fx.same o9.2)).tup t9).pap (by decide) (by decide)) ((S8.same o9.2).mono (by omega)) (F12.2.trans (F28.2.trans (Fx.same o9.2)))
end
section
local macro_rules | `(tactic| wtm_at "lkP") => `(tactic| first
  | with_reducible assumption
  | exact PartK.pt (by with_reducible assumption)
  | exact PartAt.tm (by with_reducible assumption) (by wtm_at "tm") | fail)
/-! ### the steps as one word: wtm_at "v1" a step, wtm_at "v" as many as go -/
local macro_rules | `(tactic| wtm_at "tm") => `(tactic| first
  | exact Tm.refl _
  | exact Tm.same (by with_reducible assumption)
  | exact Tm.fx (by with_reducible assumption)
  | (refine Tm.trans ?_ (Tm.same (by with_reducible assumption)); wtm_at "tm")
  | (refine Tm.trans ?_ (Tm.fx (by with_reducible assumption)); wtm_at "tm") | fail)
local macro_rules | `(tactic| wtm_at "lkT1") => `(tactic| first
  | with_reducible assumption
  | exact TpK.tp (by with_reducible assumption)
  | exact TpH.tm (by with_reducible assumption) (by wtm_at "tm")
  | exact Tp.tm (by with_reducible assumption) (by wtm_at "tm")
  | exact Tp.of (by with_reducible assumption) | fail)
local macro_rules | `(tactic| wtm_at "lkT") => `(tactic| first
  | wtm_at "lkT1"
  | exact PartAt.tpe (by wtm_at "lkP") (by rfl)
  | fail)
local macro_rules | `(tactic| wtm_at "lk") => `(tactic| first
  | assumption
  | exact b_get (by assumption) (by wtm_at "lk")
  | exact b_lst (by assumption) (by wtm_at "ne") (by wtm_at "ne") (by wtm_at "lk") | fail)
local macro_rules | `(tactic| wtm_at "lkL") => `(tactic| first
  | assumption
  | exact SqL.of (by wtm_at "lk")
  | exact b_L (by assumption) (by wtm_at "lkL") | fail)
local macro_rules | `(tactic| wtm_at "intL") => `(tactic| first | exact IntL.nil | exact IntL.cons (by wtm_at "intL") | fail)
local macro_rules | `(tactic| wtm_at "lkS0") => `(tactic| first
  | with_reducible assumption
  | exact StoreAt.same (by with_reducible assumption) (by wtm_at "lkS0") | fail)
local macro_rules | `(tactic| wtm_at "lkS") => `(tactic| first
  | with_reducible assumption
  | exact StoreAt.from (by with_reducible assumption) (by wtm_at "sm") | fail)
local macro_rules | `(tactic| wtm_at "ne") => `(tactic| first
  | assumption
  | exact Ne.symm (by assumption)
  | exact st_ne1 (by with_reducible assumption) (by wtm_at "lkS0")
  | exact st_ne2 (by with_reducible assumption) (by wtm_at "lkS0")
  | exact new_ne (by assumption) (by wtm_at "lk")
  | exact new_ne' (by assumption) (by wtm_at "lk") | fail)
local macro_rules | `(tactic| wtm_at "sm") => `(tactic| first
  | with_reducible assumption
  | exact Same.refl _
  | (refine Same.trans ?_ (by with_reducible assumption); wtm_at "sm") | fail)
local macro_rules | `(tactic| wtm_at "fx") => `(tactic| first
  | with_reducible assumption
  | exact Fx.same (Same.refl _)
  | exact Fx.same (by with_reducible assumption)
  | (refine Fx.trans ?_ (by with_reducible assumption); wtm_at "fx")
  | (refine Fx.trans ?_ (Fx.same (by with_reducible assumption)); wtm_at "fx") | fail)
local macro_rules | `(tactic| wtm_at "v0") => `(tactic| first
  | with_reducible refine i_seq ?_ | with_reducible refine i_asg ?_ | with_reducible refine i_var rfl ?_ | with_reducible refine i_c ?_ | with_reducible refine i_name ?_
  | with_reducible refine i_op ?_ | with_reducible refine i_ifS ?_ | with_reducible refine i_test ?_ | with_reducible refine i_tB ?_
  | with_reducible refine i_cons ?_ | with_reducible refine i_nil ?_ | with_reducible refine i_call ?_ | with_reducible refine i_callN ?_ | with_reducible refine i_callX ?_ | with_reducible refine i_callNX ?_ | with_reducible refine i_cb ?_
  | with_reducible refine i_tup ?_ | with_reducible refine i_lst ?_ | with_reducible refine i_ret ?_ | with_reducible refine i_retN ?_ | with_reducible refine i_drop ?_
  | with_reducible refine i_next ?_ | with_reducible refine i_par ?_ | with_reducible refine i_par2 ?_ | with_reducible refine i_ifE ?_ | with_reducible refine i_un ?_
  | with_reducible refine i_and ?_ | with_reducible refine i_or ?_ | with_reducible refine i_not ?_ | with_reducible refine i_andV ?_ | with_reducible refine i_orV ?_ | with_reducible refine i_notV ?_
  | with_reducible refine i_notV2 ?_ | with_reducible refine i_bif (A := fun _ => _) ?_ | with_reducible refine i_brk ?_ | with_reducible refine i_ctn ?_
  | with_reducible refine i_abs ?_ | with_reducible refine i_min ?_ | with_reducible refine i_max ?_ | with_reducible refine i_for ?_ | with_reducible refine i_iR1 ?_ | with_reducible refine i_iR2 ?_ | with_reducible refine i_iL ?_ | with_reducible refine i_iT ?_ | with_reducible refine i_wb ?_
  | with_reducible refine i_sl ?_ | with_reducible refine i_no ?_ | with_reducible refine i_so ?_ | with_reducible refine i_exI ?_ | with_reducible refine i_exB ?_ | with_reducible refine i_gcons ?_ | with_reducible refine i_gnil ?_ | with_reducible refine i_bm ?_ | with_reducible refine i_gsub ?_ | with_reducible refine i_lc ?_ | with_reducible refine i_yes ?_ | with_reducible refine i_iE ?_
  | with_reducible refine ite_1 ?_ | with_reducible refine i_pow6 ?_ | with_reducible refine i_pow18 ?_ | with_reducible refine i_pow30 ?_
  | with_reducible refine i_addI ?_ | with_reducible refine i_I0 ?_ | with_reducible refine i_U ?_ | with_reducible refine i_eqI ?_ | with_reducible refine i_neI ?_ | fail)
local macro_rules | `(tactic| wtm_at "v1") => `(tactic| first
  | wtm_at "v0"
  | ((with_reducible show rIx _ _ _ _ _); first | refine i_ixT (by wtm_at "lkT") rfl ?_ | refine i_ixL (by wtm_at "lkL") rfl ?_)
  | ((with_reducible show rLenU _ _ _ _); first | refine i_lenT (by wtm_at "lkT") ?_ | refine i_lenL (by wtm_at "lkL") ?_)
  | ((with_reducible show spDraw _ _ _ _); refine c_draw (by wtm_at "lkS") (by first | decide | omega) (by first | decide | omega) (by omega) ?_; intro _ _ _ _ _ _)
  | (with_reducible refine i_newTH (by first | decide | (simp; done)) ?_; intro _ _ _ _ _)
  | (with_reducible refine i_newL (by first | decide | (simp; done)) ?_; intro _ _ _ _ _) | fail)
local macro_rules | `(tactic| wtm_at "v") => `(tactic| repeat wtm_at "v1")
local macro_rules | `(tactic| wtm_at "vi") => `(tactic| repeat ((fail_if_success (with_reducible show tIfS _ _ _ _ _ _)); wtm_at "v1"))
/-! ### data shown and compared: found by themselves -/
local macro_rules | `(tactic| wtm_at "bd") => `(tactic| first | assumption | exact Bd.mono (by assumption) (by decide) | fail)
local macro_rules | `(tactic| wtm_at "bi") => `(tactic| first | exact natAbs_up (by assumption) (by decide) | exact natAbs_up (n := 64) (by decide) (by decide) | exact natAbs_up (n := 64) (by omega) (by decide) | fail)
local macro_rules | `(tactic| wtm_at "dpA") => `(tactic| first | exact DpAll.nil | exact DpAll.cons (by wtm_at "dp") (by wtm_at "dpA") | fail)
local macro_rules | `(tactic| wtm_at "dp") => `(tactic| first
  | exact Dp.int _ | exact Dp.bl _ | exact Dp.non | exact Dp.str _
  | exact dp_PA (by wtm_at "lkP")
  | exact Dp.tup (Tp.sq (by wtm_at "lkT")) (by wtm_at "dpA")
  | exact Dp.lst (by wtm_at "lkL") (by wtm_at "dpA") | fail)
local macro_rules | `(tactic| wtm_at "okA") => `(tactic| first | exact OkAll.nil' | exact OkAll.cons' (by wtm_at "ok") (by wtm_at "okA") | fail)
local macro_rules | `(tactic| wtm_at "ok") => `(tactic| first
  | ((with_reducible show Ok _ _ (dP _)); exact ok_P (by wtm_at "bd"))
  | exact Ok.int (by wtm_at "bi") | exact Ok.bool _ | exact Ok.none
  | ((with_reducible show Ok _ _ (.list _)); exact Ok.lst' (by wtm_at "okA")) | ((with_reducible show Ok _ _ (.tuple _)); exact Ok.tup' (by wtm_at "okA")) | fail)
local macro_rules | `(tactic| wtm_at "shA") => `(tactic| first | exact ShAll.nil | (refine ShAll.cons ?ha ?hb; (case ha => wtm_at "sh"); (case hb => wtm_at "shA")) | exact ShAll.ints _ | fail)
local macro_rules | `(tactic| wtm_at "sh") => `(tactic| first
  | ((with_reducible show Sh _ (dP _)); exact sh_P _)
  | exact Sh.int _ | exact Sh.bool _ | exact Sh.none | (refine Sh.lst ?_; wtm_at "shA") | (refine Sh.tup ?_; wtm_at "shA") | fail)
local macro_rules | `(tactic| wtm_at "v0") => `(tactic| first
  | ((with_reducible refine i_lens ?ha ?hb ?_); (case ha => rfl); (case hb => rfl))
  | with_reducible refine ite_0 ?_ | with_reducible refine ite_n0 ?_ | with_reducible refine ite_n1 ?_
  | ((with_reducible show rEqU _ (.ref _) (.ref _) _ _); refine i_eqP (by wtm_at "lkP") (by wtm_at "lkP") ?_)
  | ((with_reducible show rNeU _ (.ref _) (.ref _) _ _); refine i_neP (by wtm_at "lkP") (by wtm_at "lkP") ?_)
  | ((with_reducible show rEqU _ (.ref _) (.ref _) _ _); refine i_eqD (by wtm_at "dp") (by wtm_at "dp") (Sh.shaped (n := 9) (by wtm_at "sh") (by decide)) (Sh.shaped (n := 9) (by wtm_at "sh") (by decide)) ?_)
  | ((with_reducible show rNeU _ (.ref _) (.ref _) _ _); refine i_neD (by wtm_at "dp") (by wtm_at "dp") (Sh.shaped (n := 9) (by wtm_at "sh") (by decide)) (Sh.shaped (n := 9) (by wtm_at "sh") (by decide)) ?_)
  | ((with_reducible show rReprD _ _ _ _); refine i_repr (by wtm_at "dp") (by wtm_at "ok") (Nat.le_of_ble_eq_true rfl) (Nat.le_of_ble_eq_true rfl) ?_) | fail)
/-! calls of the reckoning; what is alike is alike -/
local macro_rules | `(tactic| wtm_at "v0") => `(tactic| first
  | ((with_reducible show spPP _ CT _ _ _ _ _); refine c_PP (by wtm_at "lkP") (by wtm_at "lkP") (by wtm_at "bd") (by wtm_at "bd") True.intro ?_; intro _ _ _ _)
  | ((with_reducible show spLess _ _ _ _ _); refine c_less (by wtm_at "lkP") (by wtm_at "lkP") (by wtm_at "bd") (by wtm_at "bd") ?_)
  | with_reducible refine ite_n (fun c => absurd rfl c) (fun _ => ?_)
  | ((with_reducible show rNeU _ (.bl _) (.bl _) _ _); refine i_neB rfl ?_)
  | ((with_reducible show rEqU _ (.bl _) (.bl _) _ _); refine i_eqB rfl ?_)
  | ((with_reducible show rNeU _ (.str _) (.str _) _ _); refine i_neS rfl ?_)
  | ((with_reducible show rEqU _ (.str _) (.str _) _ _); refine i_eqS rfl ?_) | fail)
/-! pairs that are written -/
local macro_rules | `(tactic| wtm_at "lkP") => `(tactic| first
  | exact part01 (by wtm_at "lkT1")
  | exact part11 (by wtm_at "lkT1")
  | exact partI (by wtm_at "lkT1")
  | exact partLit (by wtm_at "lkT1") (by decide) (by decide) | fail)
/-! deep data -/
local macro_rules | `(tactic| wtm_at "td") => `(tactic| first
  | with_reducible assumption
  | exact TD.tm (by with_reducible assumption) (by wtm_at "tm")
  | exact PartAt.td (by wtm_at "lkP") | fail)
local macro_rules | `(tactic| wtm_at "tl") => `(tactic| first
  | with_reducible assumption
  | exact TL.tm (by with_reducible assumption) (by wtm_at "tm") | fail)
/-! stops ahead of what is compared or shown -/
local macro_rules | `(tactic| wtm_at "vq") => `(tactic| repeat ((fail_if_success (with_reducible show rEqU _ (.ref _) _ _ _)); (fail_if_success (with_reducible show rNeU _ (.ref _) _ _ _)); (fail_if_success (with_reducible show rReprD _ _ _ _)); wtm_at "v1"))
variable {P : Program} {w : World} {K : PySem.W.Frag} {mg : Str → Option Value} {base : Heap}
theorem pl_whs (rs : List Row) (i : Nat) : Pl (.tuple (whTo rs i)) := .tup fun d hd => by
  obtain ⟨j, _, rfl⟩ := List.mem_map.mp hd
  refine .tup fun d hd => ?_
  simp only [List.mem_cons, List.not_mem_nil, or_false] at hd
  rcases hd with rfl | rfl | rfl
  · exact .int _
  · exact .int _
  · exact pl_P _
/-- totals of a turn -/
structure Dues (K : PySem.W.Frag) (H : Hp) (st gl p : Addr) (xs : List V) (qs : List Rat) (D : Nat) : Prop where
  h : H p = some (.lst xs)
  t : TL K H xs (qs.map dP)
  n1 : p ≠ st
  n2 : p ≠ gl
  l : qs.length ≤ 120
  d0 : 0 < D
  d1 : D < 2 ^ 1340
  b : ∀ q ∈ qs, Dv D (2 ^ 24) q
theorem Dues.fx {st gl p : Addr} {xs : List V} {qs : List Rat} {D : Nat} {H H' : Hp} (h : Dues K H st gl p xs qs D) (e : Fx st gl H H') : Dues K H' st gl p xs qs D := ⟨b_lst e h.n1 h.n2 h.h, h.t.tm (Tm.fx e), h.n1, h.n2, h.l, h.d0, h.d1, h.b⟩
def spThing (K : PySem.W.Frag) : Sp := fun vs H Q _ => ∃ (st gl : Addr) (n : Nat) (pd px pe : Addr) (xs ys : List V) (qs qe : List Rat) (D De : Nat) (x : Rat), vs = [.ref st, .ref pd, .ref px, .ref pe] ∧ StoreAt H st gl n ∧ n ≤ 60000000 ∧ Dues K H st gl pd xs qs D ∧ Dues K H st gl pe ys qe De ∧ PartAt K H px x ∧ x.den ≤ 1000 ∧ 0 < x ∧ x ≤ 1 ∧ ∀ (v : V) H', PapJ K st gl H' v → StoreAt H' st gl (n + 2000) → Fx st gl H H' → Q v H'
theorem c_thing {st gl : Addr} {n : Nat} {pd px pe : Addr} {xs ys : List V} {qs qe : List Rat} {D De : Nat} {x : Rat} {H : Hp} {Q : VK} {E : XK} (S : StoreAt H st gl n) (hn : n ≤ 60000000) (h1 : Dues K H st gl pd xs qs D) (h2 : Dues K H st gl pe ys qe De) (hx : PartAt K H px x) (xd : x.den ≤ 1000) (x0 : 0 < x) (x1 : x ≤ 1) (k : ∀ (v : V) H', PapJ K st gl H' v → StoreAt H' st gl (n + 2000) → Fx st gl H H' → Q v H') : spThing K ([.ref st, .ref pd, .ref px, .ref pe] ++ []) H Q E := ⟨st, gl, n, pd, px, pe, xs, ys, qs, qe, D, De, x, rfl, S, hn, h1, h2, hx, xd, x0, x1, k⟩
theorem pap_rows {D E B : Nat} {x : Rat} {qs : List Rat} {m n : Addr} {H : Hp} {v : V} (h : TD K H v (dRows (rowsTo x qs qs.length))) (L : Lim D E) (S : Shr E x) (hq : ∀ q ∈ qs, Dv D B q) (hl : qs.length ≤ 122) (hB : B ≤ 2 ^ 30) : PapJ K m n H v := .inl ⟨_, h.jd, (ok_rows L S hq hl hB).mono (by decide) (by decide), (nt_rows _).pl⟩
abbrev s_law_thing : Stmt := topS 41
theorem sc_law_thing : FnScope ["store", "dues", "ratio", "elder", "way", "told"] ["store", "dues", "ratio", "elder"] (defScope s_law_thing) := ⟨rfl, rfl, rfl, by decide +kernel, rfl, by decide +kernel, by decide +kernel⟩
theorem ok_law_thing {f c_ONE : Addr} {fd : FuncData} (F : FunD K "_law_thing" "_law_thing" (defArgs s_law_thing) (defBody s_law_thing) (defScope s_law_thing) [] [] f fd) (t_ONE : PartK K c_ONE 1) (O_law_draw : Own P w K mg base CX0 2 "_law_draw" ["store", "many"] [] spDraw)
    (O_payments_1 : Own P w K mg base CX0 6 "payments" ["totals", "share", "whole"] [.ref c_ONE, .bl false] (spPay K))
    (O_payments_1_share : OwnK P w K mg base CX0 6 "payments" ["totals", "share", "whole"] 1 ["share"] (fun vs zs => [vs.getD 0 .non, zs.getD 0 .non, .bl false]) (spPay K))
    (O_payments_1_share_whole : OwnK P w K mg base CX0 6 "payments" ["totals", "share", "whole"] 1 ["share", "whole"] (fun vs zs => [vs.getD 0 .non, zs.getD 0 .non, zs.getD 1 .non]) (spPay K))
    (O_law_spoilt : Own P w K mg base CX0 5 "_law_spoilt" ["store", "rows"] [] (spSpo K)) : FnG P w K mg base CX0 7 f fd ["store", "dues", "ratio", "elder"] (spThing K) := by
  refine okG (k := 6) F sc_law_thing (fun vs H Q E h => ?_) (fun cdv A hG outer s H vs Q E hr h => ?_)
  · obtain ⟨a, b, c, d, e, i, j, l, o, r, t, u, v, rfl, _⟩ := h
    rfl
  · obtain ⟨st, gl, n, pd, px, pe, xs, ys, qs, qe, D, De, x, rfl, S, hn, hd, he, hx, xd, x0, x1, k⟩ := h
    refine ⟨_, (pss_cons (ps_set (i := 4) sc_law_thing.nd rfl (Or.inl rfl) (pe_own O_law_draw hG (hr.mono (by decide)) pass0 (pa_cons (pv 0) (pa_cons pe_int pa_nil)))) (pss_cons (ps_set (i := 5) sc_law_thing.nd rfl (Or.inl rfl) (pe_ownK O_payments_1_share hG (hr.mono (by decide)) pass0 (pa_cons (pv 1) pa_nil) (pk_cons (pv 2) pk_nil))) (pss_cons (ps_if (pt_cmpR op_lt (pv 4) pe_int (nomark _)) (pss_one (ps_ret (pv 5))) pss_nil) (pss_cons (ps_if (pt_cmpR (k_eq K hr) (pv 4) pe_int (nomark _)) (pss_one (ps_ret (pe_ix (k_ix K) (pe_lst (pa_cons (pe_own O_payments_1 hG (hr.mono (by decide)) pass0 (pa_cons (pv 1) pa_nil)) (pa_cons (pe_ownK O_payments_1_share_whole hG (hr.mono (by decide)) pass0 (pa_cons (pv 1) pa_nil) (pk_cons (pv 2) (pk_cons pe_bl pk_nil))) (pa_cons (pe_own O_payments_1 hG (hr.mono (by decide)) pass0 (pa_cons (pv 3) pa_nil)) pa_nil)))) (pe_own O_law_draw hG (hr.mono (by decide)) pass0 (pa_cons (pv 0) (pa_cons pe_int pa_nil))) (fun _ _ => rfl)))) pss_nil) (pss_one (ps_ret (pe_own O_law_spoilt hG (hr.mono (by decide)) pass0 (pa_cons (pv 0) (pa_cons (pv 5) pa_nil))))))))), ?_⟩
    have L := lim_of hd.d0 hd.d1 x.den_pos xd
    have L1 := lim_of hd.d0 hd.d1 (E := 1) (by decide) (by decide)
    have Le := lim_of he.d0 he.d1 (E := 1) (by decide) (by decide)
    have Sx := shr_of x0 x1
    have l1 := hd.l
    have l2 := he.l
    wtm_at "vq"
    rename_i way H1 w0 w1 S1 F1
    have hd1 := hd.fx F1
    have he1 := he.fx F1
    have hx1 := hx.tm (Tm.fx F1)
    have F1' : True ∧ Fx st gl H H1 := ⟨trivial, F1⟩
    clear F1 hd he hx S
    refine c_pay (.lst (SqL.of hd1.h) hd1.t) hx1 L Sx hd1.b (by decide) (by omega) (fun r1 H2 s2 t2 => ?_)
    have t2 : TD K H2 (.ref r1) (dRows (rowsTo x qs qs.length)) := t2
    wtm_at "vq"
    with_reducible refine ite_d (fun c1 => ?_) (fun c1 => ?_)
    · wtm_at "vq"
      exact k _ _ (pap_rows t2 L Sx hd1.b (by omega) (by decide)) ((S1.same s2).mono (by omega)) (F1'.2.trans (Fx.same s2))
    wtm_at "vq"
    with_reducible refine ite_d (fun c2 => ?_) (fun c2 => ?_)
    · have hd2 := hd1.fx (Fx.same s2)
      have he2 := he1.fx (Fx.same s2)
      wtm_at "vq"
      refine c_pay (.lst (SqL.of hd2.h) hd2.t) t_ONE.pt L1 shr_one hd2.b (by decide) (by omega) (fun r3 H3 s3 t3 => ?_)
      have t3 : TD K H3 (.ref r3) (dRows (rowsTo 1 qs qs.length)) := t3
      have hd3 := hd2.fx (Fx.same s3)
      wtm_at "vq"
      refine c_pay (.lst (SqL.of hd3.h) hd3.t) (hx1.mono (s2.trans s3)) L Sx hd3.b (by decide) (by omega) (fun r4 H4 s4 t4 => ?_)
      have t4 : TD K H4 (.ref r4) (.tuple (whTo (rowsTo x qs qs.length) qs.length)) := t4
      have he4 := he2.fx (Fx.same (s3.trans s4))
      wtm_at "vq"
      refine c_pay (.lst (SqL.of he4.h) he4.t) t_ONE.pt Le shr_one he4.b (by decide) (by omega) (fun r5 H5 s5 t5 => ?_)
      have t5 : TD K H5 (.ref r5) (dRows (rowsTo 1 qe qe.length)) := t5
      wtm_at "vq"
      rename_i pl H6 m6 s6 h6 d7 H7 d70 d71 S7 F7
      have np : pl ≠ st ∧ pl ≠ gl := ⟨by wtm_at "ne", by wtm_at "ne"⟩
      have h67 := b_lst F7 np.1 np.2 h6
      have A0 : PapJ K st gl H7 (.ref r3) := pap_rows ((t3.tm (Tm.same (s4.trans (s5.trans s6)))).tm (Tm.fx F7)) L1 shr_one hd1.b (by omega) (by decide)
      have A1 : PapJ K st gl H7 (.ref r4) := .inl ⟨_, ((t4.tm (Tm.same (s5.trans s6))).tm (Tm.fx F7)).jd, (ok_whs L Sx hd1.b (by omega) (by decide)).mono (by decide) (by decide), pl_whs _ _⟩
      have A2 : PapJ K st gl H7 (.ref r5) := pap_rows ((t5.tm (Tm.same s6)).tm (Tm.fx F7)) Le shr_one he1.b (by omega) (by decide)
      obtain ⟨vz, ez, Z⟩ : ∃ (vz : V), atI [.ref r3, .ref r4, .ref r5] d7 = some vz ∧ PapJ K st gl H7 vz := by
        rcases (by omega : d7 = ((0 : Nat) : Int) ∨ d7 = ((1 : Nat) : Int) ∨ d7 = ((2 : Nat) : Int)) with rfl | rfl | rfl
        · exact ⟨_, atI_nat rfl, A0⟩
        · exact ⟨_, atI_nat rfl, A1⟩
        · exact ⟨_, atI_nat rfl, A2⟩
      refine i_ixL (SqL.of h67) ez ?_
      exact k _ _ Z (S7.mono (by omega)) (F1'.2.trans ((Fx.same (s2.trans (s3.trans (s4.trans (s5.trans s6))))).trans F7))
    wtm_at "vq"
    refine c_spo (S1.same s2) (by omega) t2 (fun r hr => ?_) (by rw [rowsTo_len]; omega) (fun v H3 Z S3 F3 => ?_)
    · obtain ⟨j, hj, rfl⟩ := List.mem_map.mp hr
      exact rows_bd L Sx hd1.b (by omega) (by decide) (j + 1) (by have := List.mem_range.mp hj; omega)
    exact k _ _ Z (S3.mono (by omega)) (F1'.2.trans ((Fx.same s2).trans F3))
end
section
local macro_rules | `(tactic| wtm_at "lkP") => `(tactic| first
  | with_reducible assumption
  | exact PartK.pt (by with_reducible assumption)
  | exact PartAt.tm (by with_reducible assumption) (by wtm_at "tm") | fail)
/-! ### the steps as one word: wtm_at "v1" a step, wtm_at "v" as many as go -/
local macro_rules | `(tactic| wtm_at "tm") => `(tactic| first
  | exact Tm.refl _
  | exact Tm.same (by with_reducible assumption)
  | exact Tm.fx (by with_reducible assumption)
  | (refine Tm.trans ?_ (Tm.same (by with_reducible assumption)); wtm_at "tm")
  | (refine Tm.trans ?_ (Tm.fx (by with_reducible assumption)); wtm_at "tm") | fail)
local macro_rules | `(tactic| wtm_at "lkT1") => `(tactic| first
  | with_reducible assumption
  | exact TpK.tp (by with_reducible assumption)
  | exact TpH.tm (by with_reducible assumption) (by wtm_at "tm")
  | exact Tp.tm (by with_reducible assumption) (by wtm_at "tm")
  | exact Tp.of (by with_reducible assumption) | fail)
local macro_rules | `(tactic| wtm_at "lkT") => `(tactic| first
  | wtm_at "lkT1"
  | exact PartAt.tpe (by wtm_at "lkP") (by rfl)
  | fail)
local macro_rules | `(tactic| wtm_at "lk") => `(tactic| first
  | assumption
  | exact b_get (by assumption) (by wtm_at "lk")
  | exact b_lst (by assumption) (by wtm_at "ne") (by wtm_at "ne") (by wtm_at "lk") | fail)
local macro_rules | `(tactic| wtm_at "lkL") => `(tactic| first
  | assumption
  | exact SqL.of (by wtm_at "lk")
  | exact b_L (by assumption) (by wtm_at "lkL") | fail)
local macro_rules | `(tactic| wtm_at "intL") => `(tactic| first | exact IntL.nil | exact IntL.cons (by wtm_at "intL") | fail)
local macro_rules | `(tactic| wtm_at "lkS0") => `(tactic| first
  | with_reducible assumption
  | exact StoreAt.same (by with_reducible assumption) (by wtm_at "lkS0") | fail)
local macro_rules | `(tactic| wtm_at "lkS") => `(tactic| first
  | with_reducible assumption
  | exact StoreAt.from (by with_reducible assumption) (by wtm_at "sm") | fail)
local macro_rules | `(tactic| wtm_at "ne") => `(tactic| first
  | assumption
  | exact Ne.symm (by assumption)
  | exact st_ne1 (by with_reducible assumption) (by wtm_at "lkS0")
  | exact st_ne2 (by with_reducible assumption) (by wtm_at "lkS0")
  | exact new_ne (by assumption) (by wtm_at "lk")
  | exact new_ne' (by assumption) (by wtm_at "lk") | fail)
local macro_rules | `(tactic| wtm_at "sm") => `(tactic| first
  | with_reducible assumption
  | exact Same.refl _
  | (refine Same.trans ?_ (by with_reducible assumption); wtm_at "sm") | fail)
local macro_rules | `(tactic| wtm_at "fx") => `(tactic| first
  | with_reducible assumption
  | exact Fx.same (Same.refl _)
  | exact Fx.same (by with_reducible assumption)
  | (refine Fx.trans ?_ (by with_reducible assumption); wtm_at "fx")
  | (refine Fx.trans ?_ (Fx.same (by with_reducible assumption)); wtm_at "fx") | fail)
local macro_rules | `(tactic| wtm_at "v0") => `(tactic| first
  | with_reducible refine i_seq ?_ | with_reducible refine i_asg ?_ | with_reducible refine i_var rfl ?_ | with_reducible refine i_c ?_ | with_reducible refine i_name ?_
  | with_reducible refine i_op ?_ | with_reducible refine i_ifS ?_ | with_reducible refine i_test ?_ | with_reducible refine i_tB ?_
  | with_reducible refine i_cons ?_ | with_reducible refine i_nil ?_ | with_reducible refine i_call ?_ | with_reducible refine i_callN ?_ | with_reducible refine i_callX ?_ | with_reducible refine i_callNX ?_ | with_reducible refine i_cb ?_
  | with_reducible refine i_tup ?_ | with_reducible refine i_lst ?_ | with_reducible refine i_ret ?_ | with_reducible refine i_retN ?_ | with_reducible refine i_drop ?_
  | with_reducible refine i_next ?_ | with_reducible refine i_par ?_ | with_reducible refine i_par2 ?_ | with_reducible refine i_ifE ?_ | with_reducible refine i_un ?_
  | with_reducible refine i_and ?_ | with_reducible refine i_or ?_ | with_reducible refine i_not ?_ | with_reducible refine i_andV ?_ | with_reducible refine i_orV ?_ | with_reducible refine i_notV ?_
  | with_reducible refine i_notV2 ?_ | with_reducible refine i_bif (A := fun _ => _) ?_ | with_reducible refine i_brk ?_ | with_reducible refine i_ctn ?_
  | with_reducible refine i_abs ?_ | with_reducible refine i_min ?_ | with_reducible refine i_max ?_ | with_reducible refine i_for ?_ | with_reducible refine i_iR1 ?_ | with_reducible refine i_iR2 ?_ | with_reducible refine i_iL ?_ | with_reducible refine i_iT ?_ | with_reducible refine i_wb ?_
  | with_reducible refine i_sl ?_ | with_reducible refine i_no ?_ | with_reducible refine i_so ?_ | with_reducible refine i_exI ?_ | with_reducible refine i_exB ?_ | with_reducible refine i_gcons ?_ | with_reducible refine i_gnil ?_ | with_reducible refine i_bm ?_ | with_reducible refine i_gsub ?_ | with_reducible refine i_lc ?_ | with_reducible refine i_yes ?_ | with_reducible refine i_iE ?_
  | with_reducible refine ite_1 ?_ | with_reducible refine i_pow6 ?_ | with_reducible refine i_pow18 ?_ | with_reducible refine i_pow30 ?_
  | with_reducible refine i_addI ?_ | with_reducible refine i_I0 ?_ | with_reducible refine i_U ?_ | with_reducible refine i_eqI ?_ | with_reducible refine i_neI ?_ | fail)
local macro_rules | `(tactic| wtm_at "v1") => `(tactic| first
  | wtm_at "v0"
  | ((with_reducible show rIx _ _ _ _ _); first | refine i_ixT (by wtm_at "lkT") rfl ?_ | refine i_ixL (by wtm_at "lkL") rfl ?_)
  | ((with_reducible show rLenU _ _ _ _); first | refine i_lenT (by wtm_at "lkT") ?_ | refine i_lenL (by wtm_at "lkL") ?_)
  | ((with_reducible show spDraw _ _ _ _); refine c_draw (by wtm_at "lkS") (by first | decide | omega) (by first | decide | omega) (by omega) ?_; intro _ _ _ _ _ _)
  | (with_reducible refine i_newTH (by first | decide | (simp; done)) ?_; intro _ _ _ _ _)
  | (with_reducible refine i_newL (by first | decide | (simp; done)) ?_; intro _ _ _ _ _) | fail)
local macro_rules | `(tactic| wtm_at "v") => `(tactic| repeat wtm_at "v1")
local macro_rules | `(tactic| wtm_at "vi") => `(tactic| repeat ((fail_if_success (with_reducible show tIfS _ _ _ _ _ _)); wtm_at "v1"))
/-! ### data shown and compared: found by themselves -/
local macro_rules | `(tactic| wtm_at "bd") => `(tactic| first | assumption | exact Bd.mono (by assumption) (by decide) | fail)
local macro_rules | `(tactic| wtm_at "bi") => `(tactic| first | exact natAbs_up (by assumption) (by decide) | exact natAbs_up (n := 64) (by decide) (by decide) | exact natAbs_up (n := 64) (by omega) (by decide) | fail)
local macro_rules | `(tactic| wtm_at "dpA") => `(tactic| first | exact DpAll.nil | exact DpAll.cons (by wtm_at "dp") (by wtm_at "dpA") | fail)
local macro_rules | `(tactic| wtm_at "dp") => `(tactic| first
  | exact Dp.int _ | exact Dp.bl _ | exact Dp.non | exact Dp.str _
  | exact dp_PA (by wtm_at "lkP")
  | exact Dp.tup (Tp.sq (by wtm_at "lkT")) (by wtm_at "dpA")
  | exact Dp.lst (by wtm_at "lkL") (by wtm_at "dpA") | fail)
local macro_rules | `(tactic| wtm_at "okA") => `(tactic| first | exact OkAll.nil' | exact OkAll.cons' (by wtm_at "ok") (by wtm_at "okA") | fail)
local macro_rules | `(tactic| wtm_at "ok") => `(tactic| first
  | ((with_reducible show Ok _ _ (dP _)); exact ok_P (by wtm_at "bd"))
  | exact Ok.int (by wtm_at "bi") | exact Ok.bool _ | exact Ok.none
  | ((with_reducible show Ok _ _ (.list _)); exact Ok.lst' (by wtm_at "okA")) | ((with_reducible show Ok _ _ (.tuple _)); exact Ok.tup' (by wtm_at "okA")) | fail)
local macro_rules | `(tactic| wtm_at "shA") => `(tactic| first | exact ShAll.nil | (refine ShAll.cons ?ha ?hb; (case ha => wtm_at "sh"); (case hb => wtm_at "shA")) | exact ShAll.ints _ | fail)
local macro_rules | `(tactic| wtm_at "sh") => `(tactic| first
  | ((with_reducible show Sh _ (dP _)); exact sh_P _)
  | exact Sh.int _ | exact Sh.bool _ | exact Sh.none | (refine Sh.lst ?_; wtm_at "shA") | (refine Sh.tup ?_; wtm_at "shA") | fail)
local macro_rules | `(tactic| wtm_at "v0") => `(tactic| first
  | ((with_reducible refine i_lens ?ha ?hb ?_); (case ha => rfl); (case hb => rfl))
  | with_reducible refine ite_0 ?_ | with_reducible refine ite_n0 ?_ | with_reducible refine ite_n1 ?_
  | ((with_reducible show rEqU _ (.ref _) (.ref _) _ _); refine i_eqP (by wtm_at "lkP") (by wtm_at "lkP") ?_)
  | ((with_reducible show rNeU _ (.ref _) (.ref _) _ _); refine i_neP (by wtm_at "lkP") (by wtm_at "lkP") ?_)
  | ((with_reducible show rEqU _ (.ref _) (.ref _) _ _); refine i_eqD (by wtm_at "dp") (by wtm_at "dp") (Sh.shaped (n := 9) (by wtm_at "sh") (by decide)) (Sh.shaped (n := 9) (by wtm_at "sh") (by decide)) ?_)
  | ((with_reducible show rNeU _ (.ref _) (.ref _) _ _); refine i_neD (by wtm_at "dp") (by wtm_at "dp") (Sh.shaped (n := 9) (by wtm_at "sh") (by decide)) (Sh.shaped (n := 9) (by wtm_at "sh") (by decide)) ?_)
  | ((with_reducible show rReprD _ _ _ _); refine i_repr (by wtm_at "dp") (by wtm_at "ok") (Nat.le_of_ble_eq_true rfl) (Nat.le_of_ble_eq_true rfl) ?_) | fail)
/-! calls of the reckoning; what is alike is alike -/
local macro_rules | `(tactic| wtm_at "v0") => `(tactic| first
  | ((with_reducible show spPP _ CT _ _ _ _ _); refine c_PP (by wtm_at "lkP") (by wtm_at "lkP") (by wtm_at "bd") (by wtm_at "bd") True.intro ?_; intro _ _ _ _)
  | ((with_reducible show spLess _ _ _ _ _); refine c_less (by wtm_at "lkP") (by wtm_at "lkP") (by wtm_at "bd") (by wtm_at "bd") ?_)
  | with_reducible refine ite_n (fun c => absurd rfl c) (fun _ => ?_)
  | ((with_reducible show rNeU _ (.bl _) (.bl _) _ _); refine i_neB rfl ?_)
  | ((with_reducible show rEqU _ (.bl _) (.bl _) _ _); refine i_eqB rfl ?_)
  | ((with_reducible show rNeU _ (.str _) (.str _) _ _); refine i_neS rfl ?_)
  | ((with_reducible show rEqU _ (.str _) (.str _) _ _); refine i_eqS rfl ?_) | fail)
/-! pairs that are written -/
local macro_rules | `(tactic| wtm_at "lkP") => `(tactic| first
  | exact part01 (by wtm_at "lkT1")
  | exact part11 (by wtm_at "lkT1")
  | exact partI (by wtm_at "lkT1")
  | exact partLit (by wtm_at "lkT1") (by decide) (by decide) | fail)
/-! deep data -/
local macro_rules | `(tactic| wtm_at "td") => `(tactic| first
  | with_reducible assumption
  | exact TD.tm (by with_reducible assumption) (by wtm_at "tm")
  | exact PartAt.td (by wtm_at "lkP") | fail)
local macro_rules | `(tactic| wtm_at "tl") => `(tactic| first
  | with_reducible assumption
  | exact TL.tm (by with_reducible assumption) (by wtm_at "tm") | fail)
/-! stops ahead of what is compared or shown -/
local macro_rules | `(tactic| wtm_at "vq") => `(tactic| repeat ((fail_if_success (with_reducible show rEqU _ (.ref _) _ _ _)); (fail_if_success (with_reducible show rNeU _ (.ref _) _ _ _)); (fail_if_success (with_reducible show rReprD _ _ _ _)); wtm_at "v1"))
variable {P : Program} {w : World} {K : PySem.W.Frag} {mg : Str → Option Value} {base : Heap}
def spLaw (K : PySem.W.Frag) : Sp := fun vs H Q _ => ∃ (a : Addr) (ns : List Int), vs = [.ref a] ∧ SqL K H a (ns.map V.int) ∧ ns.length ≤ 63 ∧ ∀ H', Q (.bl true) H'
theorem half_dv : Dv 2 (2 ^ 24) (Rat.divInt 1 2) := ⟨by decide, by decide, by decide⟩
theorem part_lit {K : PySem.W.Frag} {H : Hp} {p : Addr} {a b : Int} (h : Tp K H p [.int a, .int b]) (hb : 0 < b) (hc : Int.gcd a b = 1) : PartAt K H p (Rat.divInt a b) := by
  obtain ⟨e1, e2⟩ := part_of a b hb hc
  refine ⟨?_⟩
  rw [e1, e2]
  exact h
theorem i_eqSS {H : Hp} {Q : VK} {z s : Str} {b : Bool} (e : z = s ↔ b = true) (h : Q (.bl b) H) : rEqU K (.str z) (.str s) H Q := .inl ⟨rfl, by
  rw [show decide (V.str z = V.str s) = b from by
    rw [Bool.eq_iff_iff, decide_eq_true_iff]
    exact ⟨fun h => e.mp (V.str.inj h), fun h => congrArg V.str (e.mpr h)⟩]
  exact h⟩
abbrev s_law : Stmt := topS 42
theorem sc_law : FnScope ["script", "store", "elder", "turn", "dues", "ratio", "due", "k", "paper", "kept", "right", "told"] ["script"] (defScope s_law) := ⟨rfl, rfl, rfl, by decide +kernel, rfl, by decide +kernel, by decide +kernel⟩
theorem ok_law {f c_ONE : Addr} {fd : FuncData} (F : FunD K "law" "law" (defArgs s_law) (defBody s_law) (defScope s_law) [] [] f fd) (t_ONE : PartK K c_ONE 1)
    (O_law_store : Own P w K mg base CX0 1 "_law_store" ["script"] [] (spStore K)) (O_law_draw : Own P w K mg base CX0 2 "_law_draw" ["store", "many"] [] spDraw) (O_law_totals : Own P w K mg base CX0 4 "_law_totals" ["store", "most"] [] (spTotals K)) (O_law_share : Own P w K mg base CX0 3 "_law_share" ["store"] [] (spShare K)) (O_law_rows : Own P w K mg base CX0 3 "_law_rows" ["dues", "ratio"] [] (spRows K))
    (O_law_thing : Own P w K mg base CX0 7 "_law_thing" ["store", "dues", "ratio", "elder"] [] (spThing K))
    (O_payments_right_2 : Own P w K mg base CX0 6 "payments_right" ["totals", "thing", "share"] [.ref c_ONE] (spPR K))
    (O_payments_right_2_share : OwnK P w K mg base CX0 6 "payments_right" ["totals", "thing", "share"] 2 ["share"] (fun vs zs => [vs.getD 0 .non, vs.getD 1 .non, zs.getD 0 .non]) (spPR K))
    (O_payments_right_1_share_thing : OwnK P w K mg base CX0 6 "payments_right" ["totals", "thing", "share"] 1 ["share", "thing"] (fun vs zs => [vs.getD 0 .non, zs.getD 1 .non, zs.getD 0 .non]) (spPR K))
    (O_payments_right_0_thing_share_totals : OwnK P w K mg base CX0 6 "payments_right" ["totals", "thing", "share"] 0 ["thing", "share", "totals"] (fun vs zs => [zs.getD 2 .non, zs.getD 0 .non, zs.getD 1 .non]) (spPR K))
    (n_len : mg "len" = none) (n_min : mg "min" = none) (n_range : mg "range" = none) (n_repr : mg "repr" = none) (n_tuple : mg "tuple" = none) : FnG P w K mg base CX0 8 f fd ["script"] (spLaw K) := by
  refine okG (k := 7) F sc_law (fun vs H Q E h => ?_) (fun cdv A hG outer s H vs Q E hr h => ?_)
  · obtain ⟨a, b, rfl, _⟩ := h
    rfl
  · obtain ⟨a, ns, rfl, hS, hl, k⟩ := h
    refine ⟨_, (pss_cons (ps_set (i := 1) sc_law.nd rfl (Or.inl rfl) (pe_own O_law_store hG (hr.mono (by decide)) pass0 (pa_cons (pv 0) pa_nil))) (pss_cons (ps_set (i := 2) sc_law.nd rfl (Or.inl rfl) (pe_lst (pa_cons (pe_tup (pa_cons pe_int (pa_cons pe_int pa_nil))) pa_nil))) (pss_cons (ps_for PassesOwn.never rfl (pi_range1 (by rfl) n_range (pa_cons (pe_op (k_add K) pe_int (pe_callB (call_minU rfl) (by rfl) n_min bt_min (pa_cons pe_int (pa_cons (pe_callB (k_len K) (by rfl) n_len bt_len (pa_cons (pv 0) pa_nil)) pa_nil)))) pa_nil)) (pg_name (i := 3) sc_law.nd rfl (Or.inl rfl)) (pss_cons (ps_set (i := 4) sc_law.nd rfl (Or.inl rfl) (pe_own O_law_totals hG (hr.mono (by decide)) pass0 (pa_cons (pv 1) (pa_cons pe_int pa_nil)))) (pss_cons (ps_set (i := 5) sc_law.nd rfl (Or.inl rfl) (pe_ix (k_ix K) (pe_lst (pa_cons (pe_tup (pa_cons pe_int (pa_cons pe_int pa_nil))) (pa_cons (pe_own O_law_share hG (hr.mono (by decide)) pass0 (pa_cons (pv 1) pa_nil)) pa_nil))) (pe_own O_law_draw hG (hr.mono (by decide)) pass0 (pa_cons (pv 1) (pa_cons pe_int pa_nil))) (fun _ _ => rfl))) (pss_cons (ps_set (i := 6) sc_law.nd rfl (Or.inl rfl) (pe_own O_law_rows hG (hr.mono (by decide)) pass0 (pa_cons (pv 4) (pa_cons (pv 5) pa_nil)))) (pss_cons (ps_for PassesOwn.never rfl (pi_range1 (by rfl) n_range (pa_cons pe_int pa_nil)) (pg_name (i := 7) sc_law.nd rfl (Or.inl rfl)) (pss_cons (ps_set (i := 8) sc_law.nd rfl (Or.inl rfl) (pe_own O_law_thing hG (hr.mono (by decide)) pass0 (pa_cons (pv 1) (pa_cons (pv 4) (pa_cons (pv 5) (pa_cons (pv 2) pa_nil)))))) (pss_cons (ps_set (i := 9) sc_law.nd rfl (Or.inl rfl) (pe_callB (k_reprT K hG hr) (by rfl) n_repr bt_repr (pa_cons (pv 8) pa_nil))) (pss_cons (ps_set (i := 10) sc_law.nd rfl (Or.inl rfl) (pe_cmpR (k_eq K hr) (pv 9) (pe_callB (k_repr K hG hr) (by rfl) n_repr bt_repr (pa_cons (pv 6) pa_nil)) (nomark _))) (pss_cons (ps_set (i := 11) sc_law.nd rfl (Or.inl rfl) (pe_lst (pa_cons (pe_ownK O_payments_right_2_share hG (hr.mono (by decide)) pass0 (pa_cons (pe_callTy (k_tupL K) (by rfl) n_tuple bt_tuple (pa_cons (pv 4) pa_nil)) (pa_cons (pv 8) pa_nil)) (pk_cons (pv 5) pk_nil)) (pa_cons (pe_ownK O_payments_right_1_share_thing hG (hr.mono (by decide)) pass0 (pa_cons (pv 4) pa_nil) (pk_cons (pv 5) (pk_cons (pv 8) pk_nil))) pa_nil)))) (pss_cons (ps_expr (pe_bm PySem.F.plainAttrs_list PySem.F.slot_list_append PySem.F.type_list_append (mt_append) (pv 11) (pa_cons (pe_ownK0 O_payments_right_0_thing_share_totals hG (hr.mono (by decide)) pass0 (pk_cons (pv 8) (pk_cons (pv 5) (pk_cons (pv 4) pk_nil)))) pa_nil))) (pss_cons (ps_if ((pw_or (pt_cmpR (k_ne K hr) (pe_callB (k_repr K hG hr) (by rfl) n_repr bt_repr (pa_cons (pv 11) pa_nil)) (pe_callB (k_repr K hG hr) (by rfl) n_repr bt_repr (pa_cons (pe_lst (pa_cons (pv 10) (pa_cons (pv 10) (pa_cons (pv 10) pa_nil)))) pa_nil)) (nomark _)) (pw_or1 (pt_cmpR (k_ne K hr) (pe_callB (k_reprT K hG hr) (by rfl) n_repr bt_repr (pa_cons (pv 8) pa_nil)) (pv 9) (nomark _))))).pt (pss_one (ps_ret pe_bl)) pss_nil) (pss_one (ps_if ((pw_and (pt_cmpR (k_eq K hr) (pv 5) (pe_tup (pa_cons pe_int (pa_cons pe_int pa_nil))) (nomark _)) (pw_and1 (pt_cmpR (k_ne K hr) (pe_own O_payments_right_2 hG (hr.mono (by decide)) pass0 (pa_cons (pv 4) (pa_cons (pv 8) pa_nil))) (pv 10) (nomark _))))).pt (pss_one (ps_ret pe_bl)) pss_nil))))))))) (pss_one (ps_set (i := 2) sc_law.nd rfl (Or.inl rfl) (pv 4)))))))) (pss_one (ps_ret pe_bl))))), ?_⟩
    wtm_at "v"
    refine c_store hS hl (fun st gl H1 s1 n1 S1 => ?_)
    wtm_at "v"
    rename_i q1 H2 n2 s2 t2 pe H3 n3 s3 h3
    have e1 : pe ≠ st := by wtm_at "ne"
    have e2 : pe ≠ gl := by wtm_at "ne"
    have hp1 : PartAt K H3 q1 (Rat.divInt 1 2) := part_lit (Tp.mono s3 (Tp.of t2.eq)) (by decide) (by decide)
    have he : Dues K H3 st gl pe [.ref q1] [Rat.divInt 1 2] 2 := ⟨h3, .cons hp1.td .nil, e1, e2, by decide, by decide, by decide, fun q hq => by rw [List.mem_singleton.mp hq]; exact half_dv⟩
    have S3 : StoreAt H3 st gl 0 := StoreAt.mono ((S1.same s2).same s3) (by omega)
    clear n2 s2 t2 n3 s3 h3 hp1 S1
    rw [List.length_map]
    refine i_rng1 (by omega) (by omega) ?_
    refine i_forR (fun i σ' H' => ∃ (pe : Addr) (ys : List V) (qe : List Rat) (De : Nat) (v3 v4 v5 v6 v7 v8 v9 v10 v11 : Option V), σ' = [some (.ref a), some (.ref st), some (.ref pe), v3, v4, v5, v6, v7, v8, v9, v10, v11] ∧ StoreAt H' st gl (1000000 * i) ∧ Dues K H' st gl pe ys qe De) ⟨pe, _, _, _, none, none, none, none, none, none, none, none, none, rfl, S3.mono (by omega), he⟩ ?_ ?_
    · rintro i σ' H4 hi ⟨pe, ys, qe, De, v3, v4, v5, v6, v7, v8, v9, v10, v11, rfl, S4, el⟩
      wtm_at "v"
      refine c_totals S4 (by omega) (by omega) (by omega) (fun pd xs qs D H5 nd d1 d2 hd tl ql D0 D1 hqD S5 F5 => ?_)
      have hD : Dues K H5 st gl pd xs qs D := ⟨hd, tl, d1, d2, ql, D0, D1, hqD⟩
      have el := el.fx F5
      clear hd tl nd S4 F5
      wtm_at "v"
      rename_i po H6 n6 s6 t6
      refine c_share (S5.same s6) (by omega) (fun x px H7 xd x0 x1 hx S7 F7 => ?_)
      wtm_at "v"
      rename_i pl H8 n8 s8 h8 d9 H9 d90 d91 S9 F9
      have npl : pl ≠ st ∧ pl ≠ gl := ⟨by wtm_at "ne", by wtm_at "ne"⟩
      have h89 := b_lst F9 npl.1 npl.2 h8
      have F59 : True ∧ Fx st gl H5 H9 := ⟨trivial, (Fx.same s6).trans (F7.trans ((Fx.same s8).trans F9))⟩
      have ho9 : PartAt K H9 po 1 := (part11 (Tp.of t6.eq)).tm ((Tm.fx F7).trans ((Tm.same s8).trans (Tm.fx F9)))
      have hx9 : PartAt K H9 px x := hx.tm ((Tm.same s8).trans (Tm.fx F9))
      obtain ⟨pr, y, er, hy, yd, y0, y1⟩ : ∃ pr y, atI [V.ref po, .ref px] d9 = some (.ref pr) ∧ PartAt K H9 pr y ∧ y.den ≤ 1000 ∧ 0 < y ∧ y ≤ 1 := by
        rcases (by omega : d9 = ((0 : Nat) : Int) ∨ d9 = ((1 : Nat) : Int)) with rfl | rfl
        · exact ⟨_, _, atI_nat rfl, ho9, by decide, by decide, by decide⟩
        · exact ⟨_, _, atI_nat rfl, hx9, xd, x0, x1⟩
      have hD := hD.fx F59.2
      have el := el.fx F59.2
      clear F59 n6 s6 t6 F7 hx S7 n8 s8 h8 F9 ho9 hx9 S5
      refine i_ixL (SqL.of h89) er ?_
      clear h89
      wtm_at "v"
      have L := lim_of D0 D1 y.den_pos yd
      have L1 := lim_of D0 D1 (E := 1) (by decide) (by decide)
      have Sy := shr_of y0 y1
      refine c_rows (SqL.of hD.h) hD.t hy L Sy hqD (by decide) (by omega) (fun pw H10 s10 r10 => ?_)
      have hD := hD.fx (Fx.same s10)
      have el := el.fx (Fx.same s10)
      have hy := hy.mono s10
      have S10 := S9.same s10
      clear s10 S9
      have okr := ok_rows L Sy hqD (by omega) (by decide)
      wtm_at "v"
      refine i_rng1 (by decide) (by decide) ?_
      refine i_forR (fun kk σ' H' => ∃ (v7 v8 v9 v10 v11 : Option V), σ' = [some (.ref a), some (.ref st), some (.ref pe), some (.int (0 + (i : Int))), some (.ref pd), some (.ref pr), some (.ref pw), v7, v8, v9, v10, v11] ∧ StoreAt H' st gl (1000000 * i + 601000 + 3000 * kk) ∧ Dues K H' st gl pd xs qs D ∧ Dues K H' st gl pe ys qe De ∧ PartAt K H' pr y ∧ TD K H' (.ref pw) (dRows (rowsTo y qs qs.length))) ⟨v7, v8, v9, v10, v11, rfl, S10.mono (by omega), hD, el, hy, r10⟩ ?_ ?_
      · rintro kk σ' H11 hk ⟨v7, v8, v9, v10, v11, rfl, S11, hD, el, hy, rw11⟩
        have hk : kk < 6 := hk
        wtm_at "vq"
        refine c_thing S11 (by omega) hD el hy yd y0 y1 (fun v H12 PJ S12 F12 => ?_)
        have hD := hD.fx F12
        have el := el.fx F12
        have hy := hy.tm (Tm.fx F12)
        have rw12 := rw11.tm (Tm.fx F12)
        clear F12 S11 rw11
        obtain ⟨z, b, ez, U⟩ := PJ.use y qs
        clear PJ
        wtm_at "vq"
        refine (U H12 (Same.refl _)).1 _ ?_
        wtm_at "vq"
        refine i_reprW rw12.dp okr (by decide) (by decide) ?_
        wtm_at "vq"
        refine i_eqSS ez ?_
        wtm_at "vq"
        refine i_tupL (SqL.of hD.h) (fun p13 H13 n13 s13 h13 => ?_)
        wtm_at "vq"
        refine c_pr (.tup (Tp.of h13) (hD.t.tm (Tm.same s13))) (U H13 s13).2 (hy.mono s13) L Sy hqD (by decide) (by omega) (fun H14 s14 => ?_)
        have o14 : True ∧ Same H12 H14 := ⟨trivial, s13.trans s14⟩
        clear s13 s14 n13 h13
        wtm_at "vq"
        have D14 := hD.fx (Fx.same o14.2)
        refine c_pr (.lst (SqL.of D14.h) D14.t) (U H14 o14.2).2 (hy.mono o14.2) L Sy hqD (by decide) (by omega) (fun H15 s15 => ?_)
        have o15 : True ∧ Same H12 H15 := ⟨trivial, o14.2.trans s15⟩
        clear o14 s15 D14
        wtm_at "vq"
        rename_i pt3 H16 n16 s16 h16
        refine i_bmL h16 ?_
        have n12 : New H12 pt3 := o15.2.free n16
        have o16 : True ∧ Same H12 H16 := ⟨trivial, o15.2.trans s16⟩
        have D16 := hD.fx (Fx.same o16.2)
        clear o15 s16 n16
        wtm_at "vq"
        refine c_pr (.lst (SqL.of D16.h) D16.t) (U H16 o16.2).2 (hy.mono o16.2) L Sy hqD (by decide) (by omega) (fun H17 s17 => ?_)
        wtm_at "vq"
        refine i_append (s17 _ _ h16) (by simp) (fun H18 f18 h18 => ?_)
        have o18 : True ∧ Same H12 H18 := ⟨trivial, same_fx1 n12 (o16.2.trans s17) f18⟩
        have h18 : H18 pt3 = some (.lst [.bl b, .bl b, .bl b]) := h18
        clear o16 s17 f18 h16 n12 D16
        have okb : Ok 1 24 (.list [.bool b, .bool b, .bool b]) := Ok.lst (k := 3) (.cons (Ok.bool b) (.cons (Ok.bool b) (.cons (Ok.bool b) .nil))) (Nat.le_refl 3)
        wtm_at "vq"
        refine i_reprW (Dp.lst (SqL.of h18) (.cons (.bl b) (.cons (.bl b) (.cons (.bl b) .nil)))) okb (by decide) (by decide) ?_
        wtm_at "vq"
        rename_i pt4 H19 n19 s19 h19
        refine i_reprW (Dp.lst (SqL.of h19) (.cons (.bl b) (.cons (.bl b) (.cons (.bl b) .nil)))) okb (by decide) (by decide) ?_
        have o19 : True ∧ Same H12 H19 := ⟨trivial, o18.2.trans s19⟩
        clear s19 n19 h19 h18
        wtm_at "vq"
        refine (U H19 o19.2).1 _ ?_
        wtm_at "vq"
        rename_i p20 H20 n20 s20 t20
        have o20 : True ∧ Same H12 H20 := ⟨trivial, o19.2.trans s20⟩
        refine i_eqP (hy.mono o20.2) (part11 (Tp.of t20.eq)) ?_
        have S20 := S12.same o20.2
        have D20 := hD.fx (Fx.same o20.2)
        have e20 := el.fx (Fx.same o20.2)
        have y20 := hy.mono o20.2
        have r20 := rw12.tm (Tm.same o20.2)
        clear o19 s20 t20 n20
        wtm_at "vq"
        with_reducible refine ite_d (fun c => ?_) (fun c => ?_)
        · obtain rfl : y = 1 := c
          wtm_at "vq"
          refine c_pr (.lst (SqL.of D20.h) D20.t) (U H20 o20.2).2 t_ONE.pt L1 shr_one hqD (by decide) (by omega) (fun H21 s21 => ?_)
          wtm_at "vq"
          exact ⟨_, _, _, _, _, rfl, (S20.same s21).mono (by omega), D20.fx (Fx.same s21), e20.fx (Fx.same s21), y20.mono s21, r20.tm (Tm.same s21)⟩
        · wtm_at "vq"
          exact ⟨_, _, _, _, _, rfl, S20.mono (by omega), D20, e20, y20, r20⟩
      · rintro σ' H11 ⟨v7, v8, v9, v10, v11, rfl, S11, hD, el, hy, rw11⟩
        wtm_at "vq"
        exact ⟨pd, xs, qs, D, _, _, _, _, _, _, _, _, _, rfl, S11.mono (show 1000000 * i + 601000 + 3000 * 6 ≤ 1000000 * (i + 1) by omega), hD⟩
    · rintro σ' H4 ⟨pe, ys, qe, De, v3, v4, v5, v6, v7, v8, v9, v10, v11, rfl, S4, el⟩
      wtm_at "v"
      exact k _
end
theorem all_mk {P : Program} {w : World} {K : PySem.W.Frag} {h : Heap} {mg : Str → Option Value} {fa : Addr} (X : K.In h) (G : h.Ns mainGlobals mg) (hfa : mg "law" = some (.ref fa))
    {c_NOUGHT : Addr} {d_NOUGHT : Option Addr} {i_NOUGHT : Array Value} {n_NOUGHT : Nat} {s_NOUGHT : Array (Option Value)}
    {c_ONE : Addr} {d_ONE : Option Addr} {i_ONE : Array Value} {n_ONE : Nat} {s_ONE : Array (Option Value)}
    {f_law_store : Addr} {oc_law_store kV_law_store dc_law_store pm_law_store cd_law_store ct_law_store : Value} {od_law_store an_law_store : Option Addr} {sl_law_store : Array (Option Value)}
    {f_law_draw : Addr} {oc_law_draw kV_law_draw dc_law_draw pm_law_draw cd_law_draw ct_law_draw : Value} {od_law_draw an_law_draw : Option Addr} {sl_law_draw : Array (Option Value)}
    {f_divisor : Addr} {oc_divisor kV_divisor dc_divisor pm_divisor cd_divisor ct_divisor : Value} {od_divisor an_divisor : Option Addr} {sl_divisor : Array (Option Value)}
    {f_part : Addr} {oc_part kV_part dc_part pm_part cd_part ct_part : Value} {od_part an_part : Option Addr} {sl_part : Array (Option Value)}
    {T_part : Addr} {oT_part : Value} {dT_part : Option Addr} {iT_part : Array Value} {nT_part : Nat} {sT_part : Array (Option Value)}
    {f_law_part : Addr} {oc_law_part kV_law_part dc_law_part pm_law_part cd_law_part ct_law_part : Value} {od_law_part an_law_part : Option Addr} {sl_law_part : Array (Option Value)}
    {f_plus : Addr} {oc_plus kV_plus dc_plus pm_plus cd_plus ct_plus : Value} {od_plus an_plus : Option Addr} {sl_plus : Array (Option Value)}
    {f_less : Addr} {oc_less kV_less dc_less pm_less cd_less ct_less : Value} {od_less an_less : Option Addr} {sl_less : Array (Option Value)}
    {f_times : Addr} {oc_times kV_times dc_times pm_times cd_times ct_times : Value} {od_times an_times : Option Addr} {sl_times : Array (Option Value)}
    {f_is_less : Addr} {oc_is_less kV_is_less dc_is_less pm_is_less cd_is_less ct_is_less : Value} {od_is_less an_is_less : Option Addr} {sl_is_less : Array (Option Value)}
    {f_law_sum : Addr} {oc_law_sum kV_law_sum dc_law_sum pm_law_sum cd_law_sum ct_law_sum : Value} {od_law_sum an_law_sum : Option Addr} {sl_law_sum : Array (Option Value)}
    {f_law_rest : Addr} {oc_law_rest kV_law_rest dc_law_rest pm_law_rest cd_law_rest ct_law_rest : Value} {od_law_rest an_law_rest : Option Addr} {sl_law_rest : Array (Option Value)}
    {f_law_fold : Addr} {oc_law_fold kV_law_fold dc_law_fold pm_law_fold cd_law_fold ct_law_fold : Value} {od_law_fold an_law_fold : Option Addr} {sl_law_fold : Array (Option Value)}
    {f_law_under : Addr} {oc_law_under kV_law_under dc_law_under pm_law_under cd_law_under ct_law_under : Value} {od_law_under an_law_under : Option Addr} {sl_law_under : Array (Option Value)}
    {f_floor : Addr} {oc_floor kV_floor dc_floor pm_floor cd_floor ct_floor : Value} {od_floor an_floor : Option Addr} {sl_floor : Array (Option Value)}
    {f_is_whole : Addr} {oc_is_whole kV_is_whole dc_is_whole pm_is_whole cd_is_whole ct_is_whole : Value} {od_is_whole an_is_whole : Option Addr} {sl_is_whole : Array (Option Value)}
    {f_is_part : Addr} {oc_is_part kV_is_part dc_is_part pm_is_part cd_is_part ct_is_part : Value} {od_is_part an_is_part : Option Addr} {sl_is_part : Array (Option Value)}
    {f_is_above : Addr} {oc_is_above kV_is_above dc_is_above pm_is_above cd_is_above ct_is_above : Value} {od_is_above an_is_above : Option Addr} {sl_is_above : Array (Option Value)}
    {f_is_share : Addr} {oc_is_share kV_is_share dc_is_share pm_is_share cd_is_share ct_is_share : Value} {od_is_share an_is_share : Option Addr} {sl_is_share : Array (Option Value)}
    {f_need_share : Addr} {oc_need_share kV_need_share dc_need_share pm_need_share cd_need_share ct_need_share : Value} {od_need_share an_need_share : Option Addr} {sl_need_share : Array (Option Value)}
    {f_paid_next : Addr} {oc_paid_next kV_paid_next dc_paid_next pm_paid_next cd_paid_next ct_paid_next : Value} {od_paid_next an_paid_next : Option Addr} {sl_paid_next : Array (Option Value)}
    {f_in_whole_pence : Addr} {oc_in_whole_pence kV_in_whole_pence dc_in_whole_pence pm_in_whole_pence cd_in_whole_pence ct_in_whole_pence : Value} {od_in_whole_pence an_in_whole_pence : Option Addr} {sl_in_whole_pence : Array (Option Value)}
    {f_payments D_payments : Addr} {oc_payments dc_payments pm_payments cd_payments ct_payments : Value} {od_payments an_payments : Option Addr} {sl_payments : Array (Option Value)}
    {f_law_small : Addr} {oc_law_small kV_law_small dc_law_small pm_law_small cd_law_small ct_law_small : Value} {od_law_small an_law_small : Option Addr} {sl_law_small : Array (Option Value)}
    {f_law_share : Addr} {oc_law_share kV_law_share dc_law_share pm_law_share cd_law_share ct_law_share : Value} {od_law_share an_law_share : Option Addr} {sl_law_share : Array (Option Value)}
    {f_law_rows : Addr} {oc_law_rows kV_law_rows dc_law_rows pm_law_rows cd_law_rows ct_law_rows : Value} {od_law_rows an_law_rows : Option Addr} {sl_law_rows : Array (Option Value)}
    {f_law_totals : Addr} {oc_law_totals kV_law_totals dc_law_totals pm_law_totals cd_law_totals ct_law_totals : Value} {od_law_totals an_law_totals : Option Addr} {sl_law_totals : Array (Option Value)}
    {f_is_triple : Addr} {oc_is_triple kV_is_triple dc_is_triple pm_is_triple cd_is_triple ct_is_triple : Value} {od_is_triple an_is_triple : Option Addr} {sl_is_triple : Array (Option Value)}
    {f_payments_right D_payments_right : Addr} {oc_payments_right dc_payments_right pm_payments_right cd_payments_right ct_payments_right : Value} {od_payments_right an_payments_right : Option Addr} {sl_payments_right : Array (Option Value)}
    {f_law_otherwise : Addr} {oc_law_otherwise kV_law_otherwise dc_law_otherwise pm_law_otherwise cd_law_otherwise ct_law_otherwise : Value} {od_law_otherwise an_law_otherwise : Option Addr} {sl_law_otherwise : Array (Option Value)}
    {f_law_row_otherwise : Addr} {oc_law_row_otherwise kV_law_row_otherwise dc_law_row_otherwise pm_law_row_otherwise cd_law_row_otherwise ct_law_row_otherwise : Value} {od_law_row_otherwise an_law_row_otherwise : Option Addr} {sl_law_row_otherwise : Array (Option Value)}
    {f_law_spoilt : Addr} {oc_law_spoilt kV_law_spoilt dc_law_spoilt pm_law_spoilt cd_law_spoilt ct_law_spoilt : Value} {od_law_spoilt an_law_spoilt : Option Addr} {sl_law_spoilt : Array (Option Value)}
    {f_law_thing : Addr} {oc_law_thing kV_law_thing dc_law_thing pm_law_thing cd_law_thing ct_law_thing : Value} {od_law_thing an_law_thing : Option Addr} {sl_law_thing : Array (Option Value)}
    {f_law : Addr} {oc_law kV_law dc_law pm_law cd_law ct_law : Value} {od_law an_law : Option Addr} {sl_law : Array (Option Value)}
    (a_NOUGHT : PySem.W.nsIn K mainGlobals "NOUGHT" = some (some (.ref c_NOUGHT))) (l_NOUGHT : K.lookup c_NOUGHT = some ⟨.type "tuple", d_NOUGHT, .seq i_NOUGHT n_NOUGHT, s_NOUGHT⟩) (r_NOUGHT : Vals [.int 0, .int 1] i_NOUGHT.toList)
    (a_ONE : PySem.W.nsIn K mainGlobals "ONE" = some (some (.ref c_ONE))) (l_ONE : K.lookup c_ONE = some ⟨.type "tuple", d_ONE, .seq i_ONE n_ONE, s_ONE⟩) (r_ONE : Vals [.int 1, .int 1] i_ONE.toList)
    (a_law_store : PySem.W.nsIn K mainGlobals "_law_store" = some (some (.ref f_law_store)))
    (l_law_store : K.lookup f_law_store = some ⟨oc_law_store, od_law_store, .func (PySem.W.fnOf "_law_store" "_law_store" (defArgs s_law_store) (defBody s_law_store) (defScope s_law_store) .none kV_law_store dc_law_store pm_law_store an_law_store cd_law_store ct_law_store), sl_law_store⟩)
    (c_law_store : PySem.W.codeIn K cd_law_store "_law_store" = true) (k_law_store : PySem.W.keepIn K (.ref f_law_store) = true)
    (a_law_draw : PySem.W.nsIn K mainGlobals "_law_draw" = some (some (.ref f_law_draw)))
    (l_law_draw : K.lookup f_law_draw = some ⟨oc_law_draw, od_law_draw, .func (PySem.W.fnOf "_law_draw" "_law_draw" (defArgs s_law_draw) (defBody s_law_draw) (defScope s_law_draw) .none kV_law_draw dc_law_draw pm_law_draw an_law_draw cd_law_draw ct_law_draw), sl_law_draw⟩)
    (c_law_draw : PySem.W.codeIn K cd_law_draw "_law_draw" = true) (k_law_draw : PySem.W.keepIn K (.ref f_law_draw) = true)
    (a_divisor : PySem.W.nsIn K mainGlobals "divisor" = some (some (.ref f_divisor)))
    (l_divisor : K.lookup f_divisor = some ⟨oc_divisor, od_divisor, .func (PySem.W.fnOf "divisor" "divisor" (defArgs s_divisor) (defBody s_divisor) (defScope s_divisor) .none kV_divisor dc_divisor pm_divisor an_divisor cd_divisor ct_divisor), sl_divisor⟩)
    (c_divisor : PySem.W.codeIn K cd_divisor "divisor" = true) (k_divisor : PySem.W.keepIn K (.ref f_divisor) = true)
    (a_part : PySem.W.nsIn K mainGlobals "part" = some (some (.ref f_part)))
    (l_part : K.lookup f_part = some ⟨oc_part, od_part, .func (PySem.W.fnOf "part" "part" (defArgs s_part) (defBody s_part) (defScope s_part) (.ref T_part) kV_part dc_part pm_part an_part cd_part ct_part), sl_part⟩)
    (c_part : PySem.W.codeIn K cd_part "part" = true) (k_part : PySem.W.keepIn K (.ref f_part) = true)
    (lT_part : K.lookup T_part = some ⟨oT_part, dT_part, .seq iT_part nT_part, sT_part⟩) (r_part : Vals [.int 1] iT_part.toList)
    (a_law_part : PySem.W.nsIn K mainGlobals "_law_part" = some (some (.ref f_law_part)))
    (l_law_part : K.lookup f_law_part = some ⟨oc_law_part, od_law_part, .func (PySem.W.fnOf "_law_part" "_law_part" (defArgs s_law_part) (defBody s_law_part) (defScope s_law_part) .none kV_law_part dc_law_part pm_law_part an_law_part cd_law_part ct_law_part), sl_law_part⟩)
    (c_law_part : PySem.W.codeIn K cd_law_part "_law_part" = true) (k_law_part : PySem.W.keepIn K (.ref f_law_part) = true)
    (a_plus : PySem.W.nsIn K mainGlobals "plus" = some (some (.ref f_plus)))
    (l_plus : K.lookup f_plus = some ⟨oc_plus, od_plus, .func (PySem.W.fnOf "plus" "plus" (defArgs s_plus) (defBody s_plus) (defScope s_plus) .none kV_plus dc_plus pm_plus an_plus cd_plus ct_plus), sl_plus⟩)
    (c_plus : PySem.W.codeIn K cd_plus "plus" = true) (k_plus : PySem.W.keepIn K (.ref f_plus) = true)
    (a_less : PySem.W.nsIn K mainGlobals "less" = some (some (.ref f_less)))
    (l_less : K.lookup f_less = some ⟨oc_less, od_less, .func (PySem.W.fnOf "less" "less" (defArgs s_less) (defBody s_less) (defScope s_less) .none kV_less dc_less pm_less an_less cd_less ct_less), sl_less⟩)
    (c_less : PySem.W.codeIn K cd_less "less" = true) (k_less : PySem.W.keepIn K (.ref f_less) = true)
    (a_times : PySem.W.nsIn K mainGlobals "times" = some (some (.ref f_times)))
    (l_times : K.lookup f_times = some ⟨oc_times, od_times, .func (PySem.W.fnOf "times" "times" (defArgs s_times) (defBody s_times) (defScope s_times) .none kV_times dc_times pm_times an_times cd_times ct_times), sl_times⟩)
    (c_times : PySem.W.codeIn K cd_times "times" = true) (k_times : PySem.W.keepIn K (.ref f_times) = true)
    (a_is_less : PySem.W.nsIn K mainGlobals "is_less" = some (some (.ref f_is_less)))
    (l_is_less : K.lookup f_is_less = some ⟨oc_is_less, od_is_less, .func (PySem.W.fnOf "is_less" "is_less" (defArgs s_is_less) (defBody s_is_less) (defScope s_is_less) .none kV_is_less dc_is_less pm_is_less an_is_less cd_is_less ct_is_less), sl_is_less⟩)
    (c_is_less : PySem.W.codeIn K cd_is_less "is_less" = true) (k_is_less : PySem.W.keepIn K (.ref f_is_less) = true)
    (a_law_sum : PySem.W.nsIn K mainGlobals "_law_sum" = some (some (.ref f_law_sum)))
    (l_law_sum : K.lookup f_law_sum = some ⟨oc_law_sum, od_law_sum, .func (PySem.W.fnOf "_law_sum" "_law_sum" (defArgs s_law_sum) (defBody s_law_sum) (defScope s_law_sum) .none kV_law_sum dc_law_sum pm_law_sum an_law_sum cd_law_sum ct_law_sum), sl_law_sum⟩)
    (c_law_sum : PySem.W.codeIn K cd_law_sum "_law_sum" = true) (k_law_sum : PySem.W.keepIn K (.ref f_law_sum) = true)
    (a_law_rest : PySem.W.nsIn K mainGlobals "_law_rest" = some (some (.ref f_law_rest)))
    (l_law_rest : K.lookup f_law_rest = some ⟨oc_law_rest, od_law_rest, .func (PySem.W.fnOf "_law_rest" "_law_rest" (defArgs s_law_rest) (defBody s_law_rest) (defScope s_law_rest) .none kV_law_rest dc_law_rest pm_law_rest an_law_rest cd_law_rest ct_law_rest), sl_law_rest⟩)
    (c_law_rest : PySem.W.codeIn K cd_law_rest "_law_rest" = true) (k_law_rest : PySem.W.keepIn K (.ref f_law_rest) = true)
    (a_law_fold : PySem.W.nsIn K mainGlobals "_law_fold" = some (some (.ref f_law_fold)))
    (l_law_fold : K.lookup f_law_fold = some ⟨oc_law_fold, od_law_fold, .func (PySem.W.fnOf "_law_fold" "_law_fold" (defArgs s_law_fold) (defBody s_law_fold) (defScope s_law_fold) .none kV_law_fold dc_law_fold pm_law_fold an_law_fold cd_law_fold ct_law_fold), sl_law_fold⟩)
    (c_law_fold : PySem.W.codeIn K cd_law_fold "_law_fold" = true) (k_law_fold : PySem.W.keepIn K (.ref f_law_fold) = true)
    (a_law_under : PySem.W.nsIn K mainGlobals "_law_under" = some (some (.ref f_law_under)))
    (l_law_under : K.lookup f_law_under = some ⟨oc_law_under, od_law_under, .func (PySem.W.fnOf "_law_under" "_law_under" (defArgs s_law_under) (defBody s_law_under) (defScope s_law_under) .none kV_law_under dc_law_under pm_law_under an_law_under cd_law_under ct_law_under), sl_law_under⟩)
    (c_law_under : PySem.W.codeIn K cd_law_under "_law_under" = true) (k_law_under : PySem.W.keepIn K (.ref f_law_under) = true)
    (a_floor : PySem.W.nsIn K mainGlobals "floor" = some (some (.ref f_floor)))
    (l_floor : K.lookup f_floor = some ⟨oc_floor, od_floor, .func (PySem.W.fnOf "floor" "floor" (defArgs s_floor) (defBody s_floor) (defScope s_floor) .none kV_floor dc_floor pm_floor an_floor cd_floor ct_floor), sl_floor⟩)
    (c_floor : PySem.W.codeIn K cd_floor "floor" = true) (k_floor : PySem.W.keepIn K (.ref f_floor) = true)
    (a_is_whole : PySem.W.nsIn K mainGlobals "is_whole" = some (some (.ref f_is_whole)))
    (l_is_whole : K.lookup f_is_whole = some ⟨oc_is_whole, od_is_whole, .func (PySem.W.fnOf "is_whole" "is_whole" (defArgs s_is_whole) (defBody s_is_whole) (defScope s_is_whole) .none kV_is_whole dc_is_whole pm_is_whole an_is_whole cd_is_whole ct_is_whole), sl_is_whole⟩)
    (c_is_whole : PySem.W.codeIn K cd_is_whole "is_whole" = true) (k_is_whole : PySem.W.keepIn K (.ref f_is_whole) = true)
    (a_is_part : PySem.W.nsIn K mainGlobals "is_part" = some (some (.ref f_is_part)))
    (l_is_part : K.lookup f_is_part = some ⟨oc_is_part, od_is_part, .func (PySem.W.fnOf "is_part" "is_part" (defArgs s_is_part) (defBody s_is_part) (defScope s_is_part) .none kV_is_part dc_is_part pm_is_part an_is_part cd_is_part ct_is_part), sl_is_part⟩)
    (c_is_part : PySem.W.codeIn K cd_is_part "is_part" = true) (k_is_part : PySem.W.keepIn K (.ref f_is_part) = true)
    (a_is_above : PySem.W.nsIn K mainGlobals "is_above" = some (some (.ref f_is_above)))
    (l_is_above : K.lookup f_is_above = some ⟨oc_is_above, od_is_above, .func (PySem.W.fnOf "is_above" "is_above" (defArgs s_is_above) (defBody s_is_above) (defScope s_is_above) .none kV_is_above dc_is_above pm_is_above an_is_above cd_is_above ct_is_above), sl_is_above⟩)
    (c_is_above : PySem.W.codeIn K cd_is_above "is_above" = true) (k_is_above : PySem.W.keepIn K (.ref f_is_above) = true)
    (a_is_share : PySem.W.nsIn K mainGlobals "is_share" = some (some (.ref f_is_share)))
    (l_is_share : K.lookup f_is_share = some ⟨oc_is_share, od_is_share, .func (PySem.W.fnOf "is_share" "is_share" (defArgs s_is_share) (defBody s_is_share) (defScope s_is_share) .none kV_is_share dc_is_share pm_is_share an_is_share cd_is_share ct_is_share), sl_is_share⟩)
    (c_is_share : PySem.W.codeIn K cd_is_share "is_share" = true) (k_is_share : PySem.W.keepIn K (.ref f_is_share) = true)
    (a_need_share : PySem.W.nsIn K mainGlobals "need_share" = some (some (.ref f_need_share)))
    (l_need_share : K.lookup f_need_share = some ⟨oc_need_share, od_need_share, .func (PySem.W.fnOf "need_share" "need_share" (defArgs s_need_share) (defBody s_need_share) (defScope s_need_share) .none kV_need_share dc_need_share pm_need_share an_need_share cd_need_share ct_need_share), sl_need_share⟩)
    (c_need_share : PySem.W.codeIn K cd_need_share "need_share" = true) (k_need_share : PySem.W.keepIn K (.ref f_need_share) = true)
    (a_paid_next : PySem.W.nsIn K mainGlobals "paid_next" = some (some (.ref f_paid_next)))
    (l_paid_next : K.lookup f_paid_next = some ⟨oc_paid_next, od_paid_next, .func (PySem.W.fnOf "paid_next" "paid_next" (defArgs s_paid_next) (defBody s_paid_next) (defScope s_paid_next) .none kV_paid_next dc_paid_next pm_paid_next an_paid_next cd_paid_next ct_paid_next), sl_paid_next⟩)
    (c_paid_next : PySem.W.codeIn K cd_paid_next "paid_next" = true) (k_paid_next : PySem.W.keepIn K (.ref f_paid_next) = true)
    (a_in_whole_pence : PySem.W.nsIn K mainGlobals "in_whole_pence" = some (some (.ref f_in_whole_pence)))
    (l_in_whole_pence : K.lookup f_in_whole_pence = some ⟨oc_in_whole_pence, od_in_whole_pence, .func (PySem.W.fnOf "in_whole_pence" "in_whole_pence" (defArgs s_in_whole_pence) (defBody s_in_whole_pence) (defScope s_in_whole_pence) .none kV_in_whole_pence dc_in_whole_pence pm_in_whole_pence an_in_whole_pence cd_in_whole_pence ct_in_whole_pence), sl_in_whole_pence⟩)
    (c_in_whole_pence : PySem.W.codeIn K cd_in_whole_pence "in_whole_pence" = true) (k_in_whole_pence : PySem.W.keepIn K (.ref f_in_whole_pence) = true)
    (a_payments : PySem.W.nsIn K mainGlobals "payments" = some (some (.ref f_payments)))
    (l_payments : K.lookup f_payments = some ⟨oc_payments, od_payments, .func (PySem.W.fnOf "payments" "payments" (defArgs s_payments) (defBody s_payments) (defScope s_payments) .none (.ref D_payments) dc_payments pm_payments an_payments cd_payments ct_payments), sl_payments⟩)
    (c_payments : PySem.W.codeIn K cd_payments "payments" = true) (k_payments : PySem.W.keepIn K (.ref f_payments) = true)
    (kw_payments_0 : PySem.W.nsIn K D_payments "share" = some (some (.ref c_ONE)))
    (kw_payments_1 : PySem.W.nsIn K D_payments "whole" = some (some (.bool false)))
    (a_law_small : PySem.W.nsIn K mainGlobals "_law_small" = some (some (.ref f_law_small)))
    (l_law_small : K.lookup f_law_small = some ⟨oc_law_small, od_law_small, .func (PySem.W.fnOf "_law_small" "_law_small" (defArgs s_law_small) (defBody s_law_small) (defScope s_law_small) .none kV_law_small dc_law_small pm_law_small an_law_small cd_law_small ct_law_small), sl_law_small⟩)
    (c_law_small : PySem.W.codeIn K cd_law_small "_law_small" = true) (k_law_small : PySem.W.keepIn K (.ref f_law_small) = true)
    (a_law_share : PySem.W.nsIn K mainGlobals "_law_share" = some (some (.ref f_law_share)))
    (l_law_share : K.lookup f_law_share = some ⟨oc_law_share, od_law_share, .func (PySem.W.fnOf "_law_share" "_law_share" (defArgs s_law_share) (defBody s_law_share) (defScope s_law_share) .none kV_law_share dc_law_share pm_law_share an_law_share cd_law_share ct_law_share), sl_law_share⟩)
    (c_law_share : PySem.W.codeIn K cd_law_share "_law_share" = true) (k_law_share : PySem.W.keepIn K (.ref f_law_share) = true)
    (a_law_rows : PySem.W.nsIn K mainGlobals "_law_rows" = some (some (.ref f_law_rows)))
    (l_law_rows : K.lookup f_law_rows = some ⟨oc_law_rows, od_law_rows, .func (PySem.W.fnOf "_law_rows" "_law_rows" (defArgs s_law_rows) (defBody s_law_rows) (defScope s_law_rows) .none kV_law_rows dc_law_rows pm_law_rows an_law_rows cd_law_rows ct_law_rows), sl_law_rows⟩)
    (c_law_rows : PySem.W.codeIn K cd_law_rows "_law_rows" = true) (k_law_rows : PySem.W.keepIn K (.ref f_law_rows) = true)
    (a_law_totals : PySem.W.nsIn K mainGlobals "_law_totals" = some (some (.ref f_law_totals)))
    (l_law_totals : K.lookup f_law_totals = some ⟨oc_law_totals, od_law_totals, .func (PySem.W.fnOf "_law_totals" "_law_totals" (defArgs s_law_totals) (defBody s_law_totals) (defScope s_law_totals) .none kV_law_totals dc_law_totals pm_law_totals an_law_totals cd_law_totals ct_law_totals), sl_law_totals⟩)
    (c_law_totals : PySem.W.codeIn K cd_law_totals "_law_totals" = true) (k_law_totals : PySem.W.keepIn K (.ref f_law_totals) = true)
    (a_is_triple : PySem.W.nsIn K mainGlobals "is_triple" = some (some (.ref f_is_triple)))
    (l_is_triple : K.lookup f_is_triple = some ⟨oc_is_triple, od_is_triple, .func (PySem.W.fnOf "is_triple" "is_triple" (defArgs s_is_triple) (defBody s_is_triple) (defScope s_is_triple) .none kV_is_triple dc_is_triple pm_is_triple an_is_triple cd_is_triple ct_is_triple), sl_is_triple⟩)
    (c_is_triple : PySem.W.codeIn K cd_is_triple "is_triple" = true) (k_is_triple : PySem.W.keepIn K (.ref f_is_triple) = true)
    (a_payments_right : PySem.W.nsIn K mainGlobals "payments_right" = some (some (.ref f_payments_right)))
    (l_payments_right : K.lookup f_payments_right = some ⟨oc_payments_right, od_payments_right, .func (PySem.W.fnOf "payments_right" "payments_right" (defArgs s_payments_right) (defBody s_payments_right) (defScope s_payments_right) .none (.ref D_payments_right) dc_payments_right pm_payments_right an_payments_right cd_payments_right ct_payments_right), sl_payments_right⟩)
    (c_payments_right : PySem.W.codeIn K cd_payments_right "payments_right" = true) (k_payments_right : PySem.W.keepIn K (.ref f_payments_right) = true)
    (kw_payments_right_0 : PySem.W.nsIn K D_payments_right "share" = some (some (.ref c_ONE)))
    (a_law_otherwise : PySem.W.nsIn K mainGlobals "_law_otherwise" = some (some (.ref f_law_otherwise)))
    (l_law_otherwise : K.lookup f_law_otherwise = some ⟨oc_law_otherwise, od_law_otherwise, .func (PySem.W.fnOf "_law_otherwise" "_law_otherwise" (defArgs s_law_otherwise) (defBody s_law_otherwise) (defScope s_law_otherwise) .none kV_law_otherwise dc_law_otherwise pm_law_otherwise an_law_otherwise cd_law_otherwise ct_law_otherwise), sl_law_otherwise⟩)
    (c_law_otherwise : PySem.W.codeIn K cd_law_otherwise "_law_otherwise" = true) (k_law_otherwise : PySem.W.keepIn K (.ref f_law_otherwise) = true)
    (a_law_row_otherwise : PySem.W.nsIn K mainGlobals "_law_row_otherwise" = some (some (.ref f_law_row_otherwise)))
    (l_law_row_otherwise : K.lookup f_law_row_otherwise = some ⟨oc_law_row_otherwise, od_law_row_otherwise, .func (PySem.W.fnOf "_law_row_otherwise" "_law_row_otherwise" (defArgs s_law_row_otherwise) (defBody s_law_row_otherwise) (defScope s_law_row_otherwise) .none kV_law_row_otherwise dc_law_row_otherwise pm_law_row_otherwise an_law_row_otherwise cd_law_row_otherwise ct_law_row_otherwise), sl_law_row_otherwise⟩)
    (c_law_row_otherwise : PySem.W.codeIn K cd_law_row_otherwise "_law_row_otherwise" = true) (k_law_row_otherwise : PySem.W.keepIn K (.ref f_law_row_otherwise) = true)
    (a_law_spoilt : PySem.W.nsIn K mainGlobals "_law_spoilt" = some (some (.ref f_law_spoilt)))
    (l_law_spoilt : K.lookup f_law_spoilt = some ⟨oc_law_spoilt, od_law_spoilt, .func (PySem.W.fnOf "_law_spoilt" "_law_spoilt" (defArgs s_law_spoilt) (defBody s_law_spoilt) (defScope s_law_spoilt) .none kV_law_spoilt dc_law_spoilt pm_law_spoilt an_law_spoilt cd_law_spoilt ct_law_spoilt), sl_law_spoilt⟩)
    (c_law_spoilt : PySem.W.codeIn K cd_law_spoilt "_law_spoilt" = true) (k_law_spoilt : PySem.W.keepIn K (.ref f_law_spoilt) = true)
    (a_law_thing : PySem.W.nsIn K mainGlobals "_law_thing" = some (some (.ref f_law_thing)))
    (l_law_thing : K.lookup f_law_thing = some ⟨oc_law_thing, od_law_thing, .func (PySem.W.fnOf "_law_thing" "_law_thing" (defArgs s_law_thing) (defBody s_law_thing) (defScope s_law_thing) .none kV_law_thing dc_law_thing pm_law_thing an_law_thing cd_law_thing ct_law_thing), sl_law_thing⟩)
    (c_law_thing : PySem.W.codeIn K cd_law_thing "_law_thing" = true) (k_law_thing : PySem.W.keepIn K (.ref f_law_thing) = true)
    (a_law : PySem.W.nsIn K mainGlobals "law" = some (some (.ref f_law)))
    (l_law : K.lookup f_law = some ⟨oc_law, od_law, .func (PySem.W.fnOf "law" "law" (defArgs s_law) (defBody s_law) (defScope s_law) .none kV_law dc_law pm_law an_law cd_law ct_law), sl_law⟩)
    (c_law : PySem.W.codeIn K cd_law "law" = true) (k_law : PySem.W.keepIn K (.ref f_law) = true)
    (z_abs : PySem.W.nsIn K mainGlobals "abs" = some none)
    (z_all : PySem.W.nsIn K mainGlobals "all" = some none)
    (z_bool : PySem.W.nsIn K mainGlobals "bool" = some none)
    (z_enumerate : PySem.W.nsIn K mainGlobals "enumerate" = some none)
    (z_int : PySem.W.nsIn K mainGlobals "int" = some none)
    (z_isinstance : PySem.W.nsIn K mainGlobals "isinstance" = some none)
    (z_len : PySem.W.nsIn K mainGlobals "len" = some none)
    (z_list : PySem.W.nsIn K mainGlobals "list" = some none)
    (z_max : PySem.W.nsIn K mainGlobals "max" = some none)
    (z_min : PySem.W.nsIn K mainGlobals "min" = some none)
    (z_range : PySem.W.nsIn K mainGlobals "range" = some none)
    (z_repr : PySem.W.nsIn K mainGlobals "repr" = some none)
    (z_str : PySem.W.nsIn K mainGlobals "str" = some none)
    (z_tuple : PySem.W.nsIn K mainGlobals "tuple" = some none)
    (z_zip : PySem.W.nsIn K mainGlobals "zip" = some none) :
    ∃ fd : FuncData, (∀ (s : Shared) (u : Value), BindsTo s fd ⟨[u], []⟩ [("script", u)]) ∧ ∀ base : Heap, K.In base → base.Ns mainGlobals mg → FnG P w K mg base CX0 8 fa fd ["script"] (spLaw K) := by
  have e := hfa.symm.trans (PySem.W.mg_of X G a_law)
  cases e
  have mg_NOUGHT := PySem.W.mg_of X G a_NOUGHT
  have t_NOUGHT : TpK K c_NOUGHT [.int 0, .int 1] := TpK.of l_NOUGHT r_NOUGHT (by simp)
  have mg_ONE := PySem.W.mg_of X G a_ONE
  have t_ONE : TpK K c_ONE [.int 1, .int 1] := TpK.of l_ONE r_ONE (by simp)
  have F_law_store := funD_n l_law_store c_law_store k_law_store
  have g_law_store := PySem.W.mg_of X G a_law_store
  have F_law_draw := funD_n l_law_draw c_law_draw k_law_draw
  have g_law_draw := PySem.W.mg_of X G a_law_draw
  have F_divisor := funD_n l_divisor c_divisor k_divisor
  have g_divisor := PySem.W.mg_of X G a_divisor
  have F_part := funD_d (dvs := [.int 1]) l_part c_part k_part lT_part r_part (by simp)
  have g_part := PySem.W.mg_of X G a_part
  have F_law_part := funD_n l_law_part c_law_part k_law_part
  have g_law_part := PySem.W.mg_of X G a_law_part
  have F_plus := funD_n l_plus c_plus k_plus
  have g_plus := PySem.W.mg_of X G a_plus
  have F_less := funD_n l_less c_less k_less
  have g_less := PySem.W.mg_of X G a_less
  have F_times := funD_n l_times c_times k_times
  have g_times := PySem.W.mg_of X G a_times
  have F_is_less := funD_n l_is_less c_is_less k_is_less
  have g_is_less := PySem.W.mg_of X G a_is_less
  have F_law_sum := funD_n l_law_sum c_law_sum k_law_sum
  have g_law_sum := PySem.W.mg_of X G a_law_sum
  have F_law_rest := funD_n l_law_rest c_law_rest k_law_rest
  have g_law_rest := PySem.W.mg_of X G a_law_rest
  have F_law_fold := funD_n l_law_fold c_law_fold k_law_fold
  have g_law_fold := PySem.W.mg_of X G a_law_fold
  have F_law_under := funD_n l_law_under c_law_under k_law_under
  have g_law_under := PySem.W.mg_of X G a_law_under
  have F_floor := funD_n l_floor c_floor k_floor
  have g_floor := PySem.W.mg_of X G a_floor
  have F_is_whole := funD_n l_is_whole c_is_whole k_is_whole
  have g_is_whole := PySem.W.mg_of X G a_is_whole
  have F_is_part := funD_n l_is_part c_is_part k_is_part
  have g_is_part := PySem.W.mg_of X G a_is_part
  have F_is_above := funD_n l_is_above c_is_above k_is_above
  have g_is_above := PySem.W.mg_of X G a_is_above
  have F_is_share := funD_n l_is_share c_is_share k_is_share
  have g_is_share := PySem.W.mg_of X G a_is_share
  have F_need_share := funD_n l_need_share c_need_share k_need_share
  have g_need_share := PySem.W.mg_of X G a_need_share
  have F_paid_next := funD_n l_paid_next c_paid_next k_paid_next
  have g_paid_next := PySem.W.mg_of X G a_paid_next
  have F_in_whole_pence := funD_n l_in_whole_pence c_in_whole_pence k_in_whole_pence
  have g_in_whole_pence := PySem.W.mg_of X G a_in_whole_pence
  have F_payments := funD_k (kws := [("share", .ref c_ONE), ("whole", .bl false)]) l_payments c_payments k_payments (fun q hq => by
    simp only [List.mem_cons, List.not_mem_nil, or_false] at hq
    rcases hq with rfl | rfl
    · exact ⟨_, kw_payments_0, rfl⟩
    · exact ⟨_, kw_payments_1, rfl⟩)
  have g_payments := PySem.W.mg_of X G a_payments
  have F_law_small := funD_n l_law_small c_law_small k_law_small
  have g_law_small := PySem.W.mg_of X G a_law_small
  have F_law_share := funD_n l_law_share c_law_share k_law_share
  have g_law_share := PySem.W.mg_of X G a_law_share
  have F_law_rows := funD_n l_law_rows c_law_rows k_law_rows
  have g_law_rows := PySem.W.mg_of X G a_law_rows
  have F_law_totals := funD_n l_law_totals c_law_totals k_law_totals
  have g_law_totals := PySem.W.mg_of X G a_law_totals
  have F_is_triple := funD_n l_is_triple c_is_triple k_is_triple
  have g_is_triple := PySem.W.mg_of X G a_is_triple
  have F_payments_right := funD_k (kws := [("share", .ref c_ONE)]) l_payments_right c_payments_right k_payments_right (fun q hq => by
    simp only [List.mem_cons, List.not_mem_nil, or_false] at hq
    rcases hq with rfl
    · exact ⟨_, kw_payments_right_0, rfl⟩)
  have g_payments_right := PySem.W.mg_of X G a_payments_right
  have F_law_otherwise := funD_n l_law_otherwise c_law_otherwise k_law_otherwise
  have g_law_otherwise := PySem.W.mg_of X G a_law_otherwise
  have F_law_row_otherwise := funD_n l_law_row_otherwise c_law_row_otherwise k_law_row_otherwise
  have g_law_row_otherwise := PySem.W.mg_of X G a_law_row_otherwise
  have F_law_spoilt := funD_n l_law_spoilt c_law_spoilt k_law_spoilt
  have g_law_spoilt := PySem.W.mg_of X G a_law_spoilt
  have F_law_thing := funD_n l_law_thing c_law_thing k_law_thing
  have g_law_thing := PySem.W.mg_of X G a_law_thing
  have F_law := funD_n l_law c_law k_law
  have n_abs := PySem.W.mg_none_of X G z_abs
  have n_all := PySem.W.mg_none_of X G z_all
  have n_bool := PySem.W.mg_none_of X G z_bool
  have n_enumerate := PySem.W.mg_none_of X G z_enumerate
  have n_int := PySem.W.mg_none_of X G z_int
  have n_isinstance := PySem.W.mg_none_of X G z_isinstance
  have n_len := PySem.W.mg_none_of X G z_len
  have n_list := PySem.W.mg_none_of X G z_list
  have n_max := PySem.W.mg_none_of X G z_max
  have n_min := PySem.W.mg_none_of X G z_min
  have n_range := PySem.W.mg_none_of X G z_range
  have n_repr := PySem.W.mg_none_of X G z_repr
  have n_str := PySem.W.mg_none_of X G z_str
  have n_tuple := PySem.W.mg_none_of X G z_tuple
  have n_zip := PySem.W.mg_none_of X G z_zip
  refine ⟨_, fun s u => F_law.bindsA (ps := ["script"]) (fun _ _ _ _ _ _ us hl => match us, hl with | [_], _ => rfl) s [u] rfl, fun base _ _ => ?_⟩
  have q_NOUGHT : PartK K c_NOUGHT 0 := PartK.of t_NOUGHT
  have q_ONE : PartK K c_ONE 1 := PartK.of t_ONE
  have A_law_store := ok_law_store (P := P) (w := w) (mg := mg) (base := base) F_law_store n_abs n_enumerate
  have A_law_draw := ok_law_draw (P := P) (w := w) (mg := mg) (base := base) F_law_draw g_law_draw k_law_draw (F_law_draw.bindsN fun _ _ _ _ _ _ us hl => match us, hl with | [_, _], _ => rfl) n_len n_str n_range
  have A_divisor := ok_divisor (P := P) (w := w) (mg := mg) (base := base) F_divisor n_abs
  have A_part := ok_part (P := P) (w := w) (mg := mg) (base := base) F_part (own_n F_divisor g_divisor A_divisor fun _ _ _ _ _ _ us hl => match us, hl with | [_, _], _ => rfl)
  have A_law_part := ok_law_part (P := P) (w := w) (mg := mg) (base := base) F_law_part n_abs
  have A_plus := ok_plus (P := P) (w := w) (mg := mg) (base := base) F_plus (own_d F_part g_part A_part 2 1 (by simp) rfl fun _ _ _ _ _ _ _ us its l1 l2 => match us, its, l1, l2 with | [_, _], [_], _, _ => ⟨_, rfl, rfl⟩)
  have A_less := ok_less (P := P) (w := w) (mg := mg) (base := base) F_less (own_d F_part g_part A_part 2 1 (by simp) rfl fun _ _ _ _ _ _ _ us its l1 l2 => match us, its, l1, l2 with | [_, _], [_], _, _ => ⟨_, rfl, rfl⟩)
  have A_times := ok_times (P := P) (w := w) (mg := mg) (base := base) F_times (own_d F_part g_part A_part 2 1 (by simp) rfl fun _ _ _ _ _ _ _ us its l1 l2 => match us, its, l1, l2 with | [_, _], [_], _, _ => ⟨_, rfl, rfl⟩)
  have A_is_less := ok_is_less (P := P) (w := w) (mg := mg) (base := base) F_is_less
  have A_law_sum := ok_law_sum (P := P) (w := w) (mg := mg) (base := base) F_law_sum (own_n F_law_part g_law_part A_law_part fun _ _ _ _ _ _ us hl => match us, hl with | [_, _], _ => rfl)
  have A_law_rest := ok_law_rest (P := P) (w := w) (mg := mg) (base := base) F_law_rest (own_n F_law_part g_law_part A_law_part fun _ _ _ _ _ _ us hl => match us, hl with | [_, _], _ => rfl)
  have A_law_fold := ok_law_fold (P := P) (w := w) (mg := mg) (base := base) F_law_fold (own_n F_law_part g_law_part A_law_part fun _ _ _ _ _ _ us hl => match us, hl with | [_, _], _ => rfl)
  have A_law_under := ok_law_under (P := P) (w := w) (mg := mg) (base := base) F_law_under
  have A_floor := ok_floor (P := P) (w := w) (mg := mg) (base := base) F_floor
  have A_is_whole := ok_is_whole (P := P) (w := w) (mg := mg) (base := base) F_is_whole n_isinstance n_int n_bool
  have A_is_part := ok_is_part (P := P) (w := w) (mg := mg) (base := base) F_is_part (own_n F_is_whole g_is_whole A_is_whole fun _ _ _ _ _ _ us hl => match us, hl with | [_], _ => rfl) (own_n F_divisor g_divisor A_divisor fun _ _ _ _ _ _ us hl => match us, hl with | [_, _], _ => rfl) n_isinstance n_len n_all n_tuple
  have A_is_above := ok_is_above (P := P) (w := w) (mg := mg) (base := base) F_is_above (own_n F_is_part g_is_part A_is_part fun _ _ _ _ _ _ us hl => match us, hl with | [_], _ => rfl)
  have A_is_share := ok_is_share (P := P) (w := w) (mg := mg) (base := base) F_is_share (own_n F_is_above g_is_above A_is_above fun _ _ _ _ _ _ us hl => match us, hl with | [_], _ => rfl)
  have A_need_share := ok_need_share (P := P) (w := w) (mg := mg) (base := base) F_need_share (own_n F_is_share g_is_share A_is_share fun _ _ _ _ _ _ us hl => match us, hl with | [_], _ => rfl)
  have A_paid_next := ok_paid_next (P := P) (w := w) (mg := mg) (base := base) F_paid_next mg_NOUGHT q_NOUGHT (own_n F_plus g_plus A_plus fun _ _ _ _ _ _ us hl => match us, hl with | [_, _], _ => rfl) (own_n F_less g_less A_less fun _ _ _ _ _ _ us hl => match us, hl with | [_, _], _ => rfl) (own_n F_times g_times A_times fun _ _ _ _ _ _ us hl => match us, hl with | [_, _], _ => rfl) (own_n F_is_less g_is_less A_is_less fun _ _ _ _ _ _ us hl => match us, hl with | [_, _], _ => rfl)
  have A_in_whole_pence := ok_in_whole_pence (P := P) (w := w) (mg := mg) (base := base) F_in_whole_pence (own_n F_floor g_floor A_floor fun _ _ _ _ _ _ us hl => match us, hl with | [_], _ => rfl)
  have A_payments := ok_payments (P := P) (w := w) (mg := mg) (base := base) F_payments mg_NOUGHT q_NOUGHT (own_n F_need_share g_need_share A_need_share fun _ _ _ _ _ _ us hl => match us, hl with | [_], _ => rfl) (own_n F_paid_next g_paid_next A_paid_next fun _ _ _ _ _ _ us hl => match us, hl with | [_, _, _, _], _ => rfl) (own_n F_in_whole_pence g_in_whole_pence A_in_whole_pence fun _ _ _ _ _ _ us hl => match us, hl with | [_], _ => rfl) n_tuple
  have A_law_small := ok_law_small (P := P) (w := w) (mg := mg) (base := base) F_law_small (own_n F_law_draw g_law_draw A_law_draw fun _ _ _ _ _ _ us hl => match us, hl with | [_, _], _ => rfl) (own_n F_law_part g_law_part A_law_part fun _ _ _ _ _ _ us hl => match us, hl with | [_, _], _ => rfl)
  have A_law_share := ok_law_share (P := P) (w := w) (mg := mg) (base := base) F_law_share (own_n F_law_draw g_law_draw A_law_draw fun _ _ _ _ _ _ us hl => match us, hl with | [_, _], _ => rfl) (own_n F_law_part g_law_part A_law_part fun _ _ _ _ _ _ us hl => match us, hl with | [_, _], _ => rfl)
  have A_law_rows := ok_law_rows (P := P) (w := w) (mg := mg) (base := base) F_law_rows n_tuple (own_n F_law_sum g_law_sum A_law_sum fun _ _ _ _ _ _ us hl => match us, hl with | [_, _], _ => rfl) (own_n F_law_rest g_law_rest A_law_rest fun _ _ _ _ _ _ us hl => match us, hl with | [_, _], _ => rfl) (own_n F_law_fold g_law_fold A_law_fold fun _ _ _ _ _ _ us hl => match us, hl with | [_, _], _ => rfl) (own_n F_law_under g_law_under A_law_under fun _ _ _ _ _ _ us hl => match us, hl with | [_, _], _ => rfl)
  have A_law_totals := ok_law_totals (P := P) (w := w) (mg := mg) (base := base) F_law_totals (own_n F_law_draw g_law_draw A_law_draw fun _ _ _ _ _ _ us hl => match us, hl with | [_, _], _ => rfl) (own_n F_law_part g_law_part A_law_part fun _ _ _ _ _ _ us hl => match us, hl with | [_, _], _ => rfl) (own_n F_law_small g_law_small A_law_small fun _ _ _ _ _ _ us hl => match us, hl with | [_], _ => rfl) (own_n F_plus g_plus A_plus fun _ _ _ _ _ _ us hl => match us, hl with | [_, _], _ => rfl) (own_n F_times g_times A_times fun _ _ _ _ _ _ us hl => match us, hl with | [_, _], _ => rfl) n_range n_max n_min n_abs
  have A_is_triple := ok_is_triple (P := P) (w := w) (mg := mg) (base := base) F_is_triple (own_n F_is_part g_is_part A_is_part fun _ _ _ _ _ _ us hl => match us, hl with | [_], _ => rfl) n_isinstance n_len n_tuple n_all
  have A_payments_right := ok_payments_right (P := P) (w := w) (mg := mg) (base := base) F_payments_right mg_NOUGHT q_NOUGHT (own_n F_need_share g_need_share A_need_share fun _ _ _ _ _ _ us hl => match us, hl with | [_], _ => rfl) (own_n F_is_triple g_is_triple A_is_triple fun _ _ _ _ _ _ us hl => match us, hl with | [_], _ => rfl) (own_n F_paid_next g_paid_next A_paid_next fun _ _ _ _ _ _ us hl => match us, hl with | [_, _, _, _], _ => rfl) n_isinstance n_len n_tuple n_all n_zip
  have A_law_otherwise := ok_law_otherwise (P := P) (w := w) (mg := mg) (base := base) F_law_otherwise (own_n F_law_draw g_law_draw A_law_draw fun _ _ _ _ _ _ us hl => match us, hl with | [_, _], _ => rfl) (own_n F_law_part g_law_part A_law_part fun _ _ _ _ _ _ us hl => match us, hl with | [_, _], _ => rfl) (own_n F_law_sum g_law_sum A_law_sum fun _ _ _ _ _ _ us hl => match us, hl with | [_, _], _ => rfl) (own_n F_law_rest g_law_rest A_law_rest fun _ _ _ _ _ _ us hl => match us, hl with | [_, _], _ => rfl) n_isinstance n_tuple n_list
  have A_law_row_otherwise := ok_law_row_otherwise (P := P) (w := w) (mg := mg) (base := base) F_law_row_otherwise (own_n F_law_draw g_law_draw A_law_draw fun _ _ _ _ _ _ us hl => match us, hl with | [_, _], _ => rfl) (own_n F_law_otherwise g_law_otherwise A_law_otherwise fun _ _ _ _ _ _ us hl => match us, hl with | [_, _], _ => rfl) n_list
  have A_law_spoilt := ok_law_spoilt (P := P) (w := w) (mg := mg) (base := base) F_law_spoilt (own_n F_law_draw g_law_draw A_law_draw fun _ _ _ _ _ _ us hl => match us, hl with | [_, _], _ => rfl) (own_n F_law_row_otherwise g_law_row_otherwise A_law_row_otherwise fun _ _ _ _ _ _ us hl => match us, hl with | [_, _], _ => rfl) n_list n_len
  have A_law_thing := ok_law_thing (P := P) (w := w) (mg := mg) (base := base) F_law_thing q_ONE (own_n F_law_draw g_law_draw A_law_draw fun _ _ _ _ _ _ us hl => match us, hl with | [_, _], _ => rfl) (own_k F_payments g_payments A_payments 1 (by simp) rfl fun _ _ _ _ _ _ us zs l1 l2 => match us, zs, l1, l2 with | [_], [_, _], _, _ => ⟨_, _, _, _, _, _, rfl, rfl, ⟨_, _, _, _, _, _, rfl, rfl, rfl⟩⟩) (ownK_k F_payments g_payments A_payments 1 ["share"] [("whole", .bl false)] (by simp) (by simp) (fun us its ws => [us.getD 0 .none, ws.getD 0 .none, its.getD 0 .none]) (fun vs ds zs => [vs.getD 0 .non, zs.getD 0 .non, ds.getD 0 .non]) (fun r1 r2 r3 => .cons (vals_getD r1 0) (.cons (vals_getD r3 0) (.cons (vals_getD r2 0) (.nil)))) fun _ _ _ _ _ _ us its ws l1 l2 l3 => match us, its, ws, l1, l2, l3 with | [_], [_], [_], _, _, _ => ⟨_, _, _, _, _, _, rfl, rfl, rfl⟩) (ownK_k F_payments g_payments A_payments 1 ["share", "whole"] [] (by simp) (by simp) (fun us its ws => [us.getD 0 .none, ws.getD 0 .none, ws.getD 1 .none]) (fun vs ds zs => [vs.getD 0 .non, zs.getD 0 .non, zs.getD 1 .non]) (fun r1 r2 r3 => .cons (vals_getD r1 0) (.cons (vals_getD r3 0) (.cons (vals_getD r3 1) (.nil)))) fun _ _ _ _ _ _ us its ws l1 l2 l3 => match us, its, ws, l1, l2, l3 with | [_], [], [_, _], _, _, _ => rfl) (own_n F_law_spoilt g_law_spoilt A_law_spoilt fun _ _ _ _ _ _ us hl => match us, hl with | [_, _], _ => rfl)
  exact ok_law (P := P) (w := w) (mg := mg) (base := base) F_law q_ONE (own_n F_law_store g_law_store A_law_store fun _ _ _ _ _ _ us hl => match us, hl with | [_], _ => rfl) (own_n F_law_draw g_law_draw A_law_draw fun _ _ _ _ _ _ us hl => match us, hl with | [_, _], _ => rfl) (own_n F_law_totals g_law_totals A_law_totals fun _ _ _ _ _ _ us hl => match us, hl with | [_, _], _ => rfl) (own_n F_law_share g_law_share A_law_share fun _ _ _ _ _ _ us hl => match us, hl with | [_], _ => rfl) (own_n F_law_rows g_law_rows A_law_rows fun _ _ _ _ _ _ us hl => match us, hl with | [_, _], _ => rfl) (own_n F_law_thing g_law_thing A_law_thing fun _ _ _ _ _ _ us hl => match us, hl with | [_, _, _, _], _ => rfl) (own_k F_payments_right g_payments_right A_payments_right 2 (by simp) rfl fun _ _ _ _ _ _ us zs l1 l2 => match us, zs, l1, l2 with | [_, _], [_], _, _ => ⟨_, _, _, _, _, _, rfl, rfl, rfl⟩) (ownK_k F_payments_right g_payments_right A_payments_right 2 ["share"] [] (by simp) (by simp) (fun us its ws => [us.getD 0 .none, us.getD 1 .none, ws.getD 0 .none]) (fun vs ds zs => [vs.getD 0 .non, vs.getD 1 .non, zs.getD 0 .non]) (fun r1 r2 r3 => .cons (vals_getD r1 0) (.cons (vals_getD r1 1) (.cons (vals_getD r3 0) (.nil)))) fun _ _ _ _ _ _ us its ws l1 l2 l3 => match us, its, ws, l1, l2, l3 with | [_, _], [], [_], _, _, _ => rfl) (ownK_k F_payments_right g_payments_right A_payments_right 1 ["share", "thing"] [] (by simp) (by simp) (fun us its ws => [us.getD 0 .none, ws.getD 1 .none, ws.getD 0 .none]) (fun vs ds zs => [vs.getD 0 .non, zs.getD 1 .non, zs.getD 0 .non]) (fun r1 r2 r3 => .cons (vals_getD r1 0) (.cons (vals_getD r3 1) (.cons (vals_getD r3 0) (.nil)))) fun _ _ _ _ _ _ us its ws l1 l2 l3 => match us, its, ws, l1, l2, l3 with | [_], [], [_, _], _, _, _ => rfl) (ownK_k F_payments_right g_payments_right A_payments_right 0 ["thing", "share", "totals"] [] (by simp) (by simp) (fun us its ws => [ws.getD 2 .none, ws.getD 0 .none, ws.getD 1 .none]) (fun vs ds zs => [zs.getD 2 .non, zs.getD 0 .non, zs.getD 1 .non]) (fun r1 r2 r3 => .cons (vals_getD r3 2) (.cons (vals_getD r3 0) (.cons (vals_getD r3 1) (.nil)))) fun _ _ _ _ _ _ us its ws l1 l2 l3 => match us, its, ws, l1, l2, l3 with | [], [], [_, _, _], _, _, _ => rfl) n_len n_min n_range n_repr n_tuple
end Pm
open PySem PySem.W PyProof.Rows
set_option maxRecDepth 100000 in
set_option maxHeartbeats 0 in
theorem PySem.Challenge.cw_paymill_k47_payments_judged_holds : PySem.Challenge.rw_paymill_k47_payments_judged.Holds := by
  w_on; o_law; k_head; (case hw => w_witness2)
  k_fill
  refine Pm.walkG (l := PySem.Challenge.rw_paymill_k47_payments_judged) (n := 63) (k := 8) (x := "script") (sp := fun w => Pm.spLaw _) rfl (by decide) rfl ⟨rfl, by decide, by decide⟩ (fun w h Y => PySem.W.kIn_of Y) ?F (fun w H a ns hl _ hS => ⟨a, ns, rfl, hS, hl, fun _ => rfl⟩)
  case F =>
    intro w mg fa h KX G hmg
    refine' Pm.all_mk KX G hmg ?a_NOUGHT ?l_NOUGHT ?r_NOUGHT ?a_ONE ?l_ONE ?r_ONE ?a_law_store ?l_law_store ?c_law_store ?k_law_store ?a_law_draw ?l_law_draw ?c_law_draw ?k_law_draw ?a_divisor ?l_divisor ?c_divisor ?k_divisor ?a_part ?l_part ?c_part ?k_part ?lT_part ?r_part ?a_law_part ?l_law_part ?c_law_part ?k_law_part ?a_plus ?l_plus ?c_plus ?k_plus ?a_less ?l_less ?c_less ?k_less ?a_times ?l_times ?c_times ?k_times ?a_is_less ?l_is_less ?c_is_less ?k_is_less ?a_law_sum ?l_law_sum ?c_law_sum ?k_law_sum ?a_law_rest ?l_law_rest ?c_law_rest ?k_law_rest ?a_law_fold ?l_law_fold ?c_law_fold ?k_law_fold ?a_law_under ?l_law_under ?c_law_under ?k_law_under ?a_floor ?l_floor ?c_floor ?k_floor ?a_is_whole ?l_is_whole ?c_is_whole ?k_is_whole ?a_is_part ?l_is_part ?c_is_part ?k_is_part ?a_is_above ?l_is_above ?c_is_above ?k_is_above ?a_is_share ?l_is_share ?c_is_share ?k_is_share ?a_need_share ?l_need_share ?c_need_share ?k_need_share ?a_paid_next ?l_paid_next ?c_paid_next ?k_paid_next ?a_in_whole_pence ?l_in_whole_pence ?c_in_whole_pence ?k_in_whole_pence ?a_payments ?l_payments ?c_payments ?k_payments ?kw_payments_0 ?kw_payments_1 ?a_law_small ?l_law_small ?c_law_small ?k_law_small ?a_law_share ?l_law_share ?c_law_share ?k_law_share ?a_law_rows ?l_law_rows ?c_law_rows ?k_law_rows ?a_law_totals ?l_law_totals ?c_law_totals ?k_law_totals ?a_is_triple ?l_is_triple ?c_is_triple ?k_is_triple ?a_payments_right ?l_payments_right ?c_payments_right ?k_payments_right ?kw_payments_right_0 ?a_law_otherwise ?l_law_otherwise ?c_law_otherwise ?k_law_otherwise ?a_law_row_otherwise ?l_law_row_otherwise ?c_law_row_otherwise ?k_law_row_otherwise ?a_law_spoilt ?l_law_spoilt ?c_law_spoilt ?k_law_spoilt ?a_law_thing ?l_law_thing ?c_law_thing ?k_law_thing ?a_law ?l_law ?c_law ?k_law ?z_abs ?z_all ?z_bool ?z_enumerate ?z_int ?z_isinstance ?z_len ?z_list ?z_max ?z_min ?z_range ?z_repr ?z_str ?z_tuple ?z_zip
    (case a_NOUGHT => k_is)
    (case l_NOUGHT => k_is)
    (case r_NOUGHT => (repeat (refine .cons (by first | exact rfl | exact ⟨_, rfl⟩) ?_)); exact .nil)
    (case a_ONE => k_is)
    (case l_ONE => k_is)
    (case r_ONE => (repeat (refine .cons (by first | exact rfl | exact ⟨_, rfl⟩) ?_)); exact .nil)
    (case a_law_store => k_is)
    (case l_law_store => k_is)
    (case c_law_store => k_is)
    (case k_law_store => k_is)
    (case a_law_draw => k_is)
    (case l_law_draw => k_is)
    (case c_law_draw => k_is)
    (case k_law_draw => k_is)
    (case a_divisor => k_is)
    (case l_divisor => k_is)
    (case c_divisor => k_is)
    (case k_divisor => k_is)
    (case a_part => k_is)
    (case l_part => k_is)
    (case c_part => k_is)
    (case k_part => k_is)
    (case lT_part => k_is)
    (case r_part => (repeat (refine .cons (by first | exact rfl | exact ⟨_, rfl⟩) ?_)); exact .nil)
    (case a_law_part => k_is)
    (case l_law_part => k_is)
    (case c_law_part => k_is)
    (case k_law_part => k_is)
    (case a_plus => k_is)
    (case l_plus => k_is)
    (case c_plus => k_is)
    (case k_plus => k_is)
    (case a_less => k_is)
    (case l_less => k_is)
    (case c_less => k_is)
    (case k_less => k_is)
    (case a_times => k_is)
    (case l_times => k_is)
    (case c_times => k_is)
    (case k_times => k_is)
    (case a_is_less => k_is)
    (case l_is_less => k_is)
    (case c_is_less => k_is)
    (case k_is_less => k_is)
    (case a_law_sum => k_is)
    (case l_law_sum => k_is)
    (case c_law_sum => k_is)
    (case k_law_sum => k_is)
    (case a_law_rest => k_is)
    (case l_law_rest => k_is)
    (case c_law_rest => k_is)
    (case k_law_rest => k_is)
    (case a_law_fold => k_is)
    (case l_law_fold => k_is)
    (case c_law_fold => k_is)
    (case k_law_fold => k_is)
    (case a_law_under => k_is)
    (case l_law_under => k_is)
    (case c_law_under => k_is)
    (case k_law_under => k_is)
    (case a_floor => k_is)
    (case l_floor => k_is)
    (case c_floor => k_is)
    (case k_floor => k_is)
    (case a_is_whole => k_is)
    (case l_is_whole => k_is)
    (case c_is_whole => k_is)
    (case k_is_whole => k_is)
    (case a_is_part => k_is)
    (case l_is_part => k_is)
    (case c_is_part => k_is)
    (case k_is_part => k_is)
    (case a_is_above => k_is)
    (case l_is_above => k_is)
    (case c_is_above => k_is)
    (case k_is_above => k_is)
    (case a_is_share => k_is)
    (case l_is_share => k_is)
    (case c_is_share => k_is)
    (case k_is_share => k_is)
    (case a_need_share => k_is)
    (case l_need_share => k_is)
    (case c_need_share => k_is)
    (case k_need_share => k_is)
    (case a_paid_next => k_is)
    (case l_paid_next => k_is)
    (case c_paid_next => k_is)
    (case k_paid_next => k_is)
    (case a_in_whole_pence => k_is)
    (case l_in_whole_pence => k_is)
    (case c_in_whole_pence => k_is)
    (case k_in_whole_pence => k_is)
    (case a_payments => k_is)
    (case l_payments => k_is)
    (case c_payments => k_is)
    (case k_payments => k_is)
    (case kw_payments_0 => k_is)
    (case kw_payments_1 => k_is)
    (case a_law_small => k_is)
    (case l_law_small => k_is)
    (case c_law_small => k_is)
    (case k_law_small => k_is)
    (case a_law_share => k_is)
    (case l_law_share => k_is)
    (case c_law_share => k_is)
    (case k_law_share => k_is)
    (case a_law_rows => k_is)
    (case l_law_rows => k_is)
    (case c_law_rows => k_is)
    (case k_law_rows => k_is)
    (case a_law_totals => k_is)
    (case l_law_totals => k_is)
    (case c_law_totals => k_is)
    (case k_law_totals => k_is)
    (case a_is_triple => k_is)
    (case l_is_triple => k_is)
    (case c_is_triple => k_is)
    (case k_is_triple => k_is)
    (case a_payments_right => k_is)
    (case l_payments_right => k_is)
    (case c_payments_right => k_is)
    (case k_payments_right => k_is)
    (case kw_payments_right_0 => k_is)
    (case a_law_otherwise => k_is)
    (case l_law_otherwise => k_is)
    (case c_law_otherwise => k_is)
    (case k_law_otherwise => k_is)
    (case a_law_row_otherwise => k_is)
    (case l_law_row_otherwise => k_is)
    (case c_law_row_otherwise => k_is)
    (case k_law_row_otherwise => k_is)
    (case a_law_spoilt => k_is)
    (case l_law_spoilt => k_is)
    (case c_law_spoilt => k_is)
    (case k_law_spoilt => k_is)
    (case a_law_thing => k_is)
    (case l_law_thing => k_is)
    (case c_law_thing => k_is)
    (case k_law_thing => k_is)
    (case a_law => k_is)
    (case l_law => k_is)
    (case c_law => k_is)
    (case k_law => k_is)
    (case z_abs => k_is)
    (case z_all => k_is)
    (case z_bool => k_is)
    (case z_enumerate => k_is)
    (case z_int => k_is)
    (case z_isinstance => k_is)
    (case z_len => k_is)
    (case z_list => k_is)
    (case z_max => k_is)
    (case z_min => k_is)
    (case z_range => k_is)
    (case z_repr => k_is)
    (case z_str => k_is)
    (case z_tuple => k_is)
    (case z_zip => k_is)

