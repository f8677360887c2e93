import PyProof.Rows.All
import Wide.All
import OpenK.AllK
import Wide.FinOn
import HandS.ForMost
import KE.KUnpackStar
import PyProof.ReprRoads
import HandS.ForExc
import HandS.Wide
import HandS.Flow
import HandS.IsInst
import HandS.Defaults
import HandS.Conv
import HandS.EndBits
import HandS.RaiseMore
import HandS.Style
import HandS.Comp
import HandS.ExcIs
import HandS.Steps
import HandS.MakeKwOnly
import KE.GoesEnum
import HandS.Zip
import PySem.Challenge.RW_paymill_k05_whole_rows_of_parts
set_option Elab.async false
set_option linter.all false
set_option maxRecDepth 100000
set_option maxHeartbeats 4000000
set_option autoImplicit false
namespace Pm
open PySem PySem.Spec PyProof.Rows L2
/-! ### promises that hold where no repr is under way -/
structure FnG (P : Program) (w : World) (K : PySem.W.Frag) (mg : Str → Option Value) (base : Heap) (CX : CXT) (k : Nat) (f : Addr) (fd : FuncData) (ps : List Str) (sp : Sp) : Prop where
  len : ∀ vs H Q E, sp vs H Q E → vs.length = ps.length
  run : ∀ (A : Around), A.guards = some [] → ∀ (outer : List Env) (s : Shared) (H : Hp) (args : Args) (us : List Value) (vs : List V) (Q : VK) (E : XK),
    Room k A → Env0 P w K mg base A outer s H → BindsTo s fd args (ps.zip us) → Vals vs us → sp vs H Q E →
    codeAny (model P w) A (.call (.ref f) args) (CR CX outer P w H s Q E) s
section
variable {P : Program} {w : World} {K : PySem.W.Frag} {mg : Str → Option Value} {base : Heap} {CX : CXT} {k : Nat} {f : Addr} {fd : FuncData} {ps : List Str} {sp : Sp}
theorem FnG.of (F : FnOk P w K mg base CX k f fd ps sp) : FnG P w K mg base CX k f fd ps sp :=
  ⟨F.len, fun A _ outer s H args us vs Q E => F.run A outer s H args us vs Q E⟩
/-- a def's body walked, knowing that no repr is under way -/
theorem fnG_of {name qual : Str} {params : Arguments} {body : List Stmt} {scope : Scope} {dV kV doc pm cdv ct oc : Value} {an od : Option Addr} {osl : Array (Option Value)} {N : List Str}
    (lk : K.lookup f = some ⟨oc, od, .func (PySem.W.fnOf name qual params body scope dV kV doc pm an cdv ct), osl⟩) (hcd : PySem.W.codeIn K cdv qual = true) (S : FnScope N ps scope)
    (len : ∀ vs H Q E, sp vs H Q E → vs.length = ps.length)
    (hbody : ∀ (A : Around), A.guards = some [] → ∀ (outer : List Env) (s : Shared) (H : Hp) (vs : List V) (Q : VK) (E : XK), Room k (A.deeper (envOfC qual scope s.heap.objs.size f cdv)) → sp vs H Q E →
      ∃ t, PSs (cxOf CX P w K mg base N qual scope f cdv A outer s H E) body t ∧ t { nx := fun _ H' => Q .non H', rt := Q } (start N vs) H) :
    FnG P w K mg base CX (k + 1) f (PySem.W.fnOf name qual params body scope dV kV doc pm an cdv ct) ps sp where
  len := len
  run := by
    intro A hA outer s H args us vs Q E room env bnd rel pre
    have inK : K.In s.heap := env.mod.kin.keeps fun b o q => (env.bs b o q).1
    have lim : s.heap.NoLimit := env.mod.nolimit.keeps fun b o q => (env.bs b o q).1
    obtain ⟨t, der, want⟩ := hbody A hA outer s H vs Q E (room.deeper _) pre
    apply codeAny_call_function room.depth (inK _ _ lk) rfl S.co S.gen rfl (PySem.W.codeRec_of inK hcd)
    apply bnd
    apply wpAny_newFunctionEnv_cells S.kind
    · rintro ⟨y, u⟩ hy
      cases S.par y (List.of_mem_zip hy).1 with
      | inl q => exact Or.inl q
      | inr q => exact Or.inr ⟨q, PySem.W.cellsFrom_some _ _ _ (Or.inl q)⟩
    · intro env2 he s2 x
      subst he
      refine ⟨lim.keeps x.toInCall.keep, codeAny_func ?_⟩
      have I := inv_start (CX := CX) (P := P) (w := w) (E := E) S room.hd env (len _ _ _ _ pre) rel x
      refine wpAny_mono (der.run [] s2 _ H _ I want) ?_ fun _ _ z => z
      intro fl s3 hs
      match fl, hs with
      | .ret u, ⟨v, σ3, H3, J, rv, q⟩ => exact ⟨v, H3, J.os, J.bare, J.base, J.hok, rv, q⟩
      | .next, ⟨σ3, H3, J, q⟩ => exact ⟨V.non, H3, J.os, J.bare, J.base, J.hok, rfl, q⟩
      | .brk, ⟨_, _, _, q⟩ => exact False.elim q
      | .cont, ⟨_, _, _, q⟩ => exact False.elim q
/-- a def of the text, its body without exceptions -/
theorem okG {x qual : Str} {st : Stmt} {dvs : List V} {kws : List (Str × V)} {N : List Str} (F : FunD K x qual (defArgs st) (defBody st) (defScope st) dvs kws f fd) (S : FnScope N ps (defScope st)) (len : ∀ vs H Q E, sp vs H Q E → vs.length = ps.length)
    (hbody : ∀ (cdv : Value) (A : Around), A.guards = some [] → ∀ (outer : List Env) (s : Shared) (H : Hp) (vs : List V) (Q : VK) (E : XK), Room k (A.deeper (envOfC qual (defScope st) s.heap.objs.size f cdv)) → sp vs H Q E →
      ∃ t, PSs (cxOf CX0 P w K mg base N qual (defScope st) f cdv A outer s H E).nox (defBody st) t ∧ t { nx := fun _ H' => Q .non H', rt := Q } (start N vs) H) : FnG P w K mg base CX0 (k + 1) f fd ps sp := by
  obtain ⟨oc, od, dV, kV, doc, pm, an, cdv, ct, osl, rfl, lk, hcd, _, _⟩ := F.ex
  refine fnG_of lk hcd S len fun A hA outer s H vs Q E hr hsp => ?_
  obtain ⟨t, h, q⟩ := hbody cdv A hA outer s H vs Q E hr hsp
  exact ⟨t, h.nox, q⟩
/-- .. that may raise -/
theorem okGX {x qual : Str} {st : Stmt} {dvs : List V} {kws : List (Str × V)} {N : List Str} (F : FunD K x qual (defArgs st) (defBody st) (defScope st) dvs kws f fd) (S : FnScope N ps (defScope st)) (len : ∀ vs H Q E, sp vs H Q E → vs.length = ps.length)
    (hbody : ∀ (cdv : Value) (A : Around), A.guards = some [] → ∀ (outer : List Env) (s : Shared) (H : Hp) (vs : List V) (Q : VK) (E : XK), Room k (A.deeper (envOfC qual (defScope st) s.heap.objs.size f cdv)) → sp vs H Q E →
      ∃ t, PSs (cxOf (L2.CX P w) P w K mg base N qual (defScope st) f cdv A outer s H E) (defBody st) t ∧ t { nx := fun _ H' => Q .non H', rt := Q } (start N vs) H) : FnG P w K mg base (L2.CX P w) (k + 1) f fd ps sp := by
  obtain ⟨oc, od, dV, kV, doc, pm, an, cdv, ct, osl, rfl, lk, hcd, _, _⟩ := F.ex
  exact fnG_of lk hcd S len fun A hA outer s H vs Q E hr hsp => hbody cdv A hA outer s H vs Q E hr hsp
end
/-! ### calls of such -/
section
variable {X : Cx} {CX : CXT} {k n : Nat} {f : Addr} {fd : FuncData} {ps ks : List Str} {sp : Sp} {E : XK} {x : Str} {p pos : Pos} {e : Expr} {es : List Expr} {kws : List Keyword} {t tk : TA} {ds : List Value} {dvs : List V} {g : List Value → List Value → List Value} {gV : List V → List V → List V}
theorem runG {pins : List (Addr × Obj)} {σ : L2.St} {H : Hp} {s : Shared} {Q : VK} {us us2 : List Value} {kv : List (Str × Value)} {vs : List V} (F : FnG X.prog X.w X.K X.mg X.base CX k f fd ps sp) (hG : X.A.guards = some []) (hr : Room k X.A)
    (hb : BindsTo s fd ⟨us, kv⟩ (ps.zip us2)) (hx : Passes CX X E) (I : Inv X pins σ H s) (r : Vals vs us2) (h : sp vs H Q E) : wpAny (model X.prog X.w) X.A (call (.ref f) us kv) (EP X pins σ Q) X.xe s := by
  apply wpAny_call
  refine codeAny_mono (F.run X.A hG X.stack s H ⟨us, kv⟩ us2 vs Q E hr I.env0 hb r h) ?_
  rintro (e | fl) s' hq
  · exact hx pins σ H s e s' I hq
  · cases fl <;> first | exact I.after hq | exact False.elim hq
/-- what a caller holds of a def: all its parameters by place -/
structure Own (P : Program) (w : World) (K : PySem.W.Frag) (mg : Str → Option Value) (base : Heap) (CX : CXT) (k : Nat) (x : Str) (ps : List Str) (dvs : List V) (sp : Sp) : Prop where
  ex : ∃ f fd ds, FnG P w K mg base CX k f fd ps sp ∧ mg x = some (.ref f) ∧ PySem.W.keepIn K (.ref f) = true ∧ Binds K fd ps ds ∧ Vals dvs ds
/-- .. n by place, the names ks by keyword -/
structure OwnK (P : Program) (w : World) (K : PySem.W.Frag) (mg : Str → Option Value) (base : Heap) (CX : CXT) (k : Nat) (x : Str) (ps : List Str) (n : Nat) (ks : List Str) (gV : List V → List V → List V) (sp : Sp) : Prop where
  ex : ∃ f fd g, FnG P w K mg base CX k f fd ps sp ∧ mg x = some (.ref f) ∧ PySem.W.keepIn K (.ref f) = true ∧ KBn K fd ps n ks g gV
theorem Own.mono {P : Program} {w : World} {K : PySem.W.Frag} {mg : Str → Option Value} {base : Heap} {dvs : List V} (O : Own P w K mg base CX k x ps dvs sp) {sp' : Sp} (h : ∀ vs H Q E, sp' vs H Q E → sp vs H Q E) : Own P w K mg base CX k x ps dvs sp' := by
  obtain ⟨f, fd, ds, F, a, b, c, d⟩ := O.ex
  exact ⟨f, fd, ds, ⟨fun vs H Q E z => F.len vs H Q E (h _ _ _ _ z), fun A g o s H args us vs Q E r e bb v z => F.run A g o s H args us vs Q E r e bb v (h _ _ _ _ z)⟩, a, b, c, d⟩
theorem pe_own (O : Own X.prog X.w X.K X.mg X.base CX k x ps dvs sp) (hG : X.A.guards = some []) (hr : Room k X.A) (hx : Passes CX X E) (ha : PA X (e :: es) t) (hg : Gl X x := by rfl)
    (hdb : (x == ("__debug__" : Str)) = false := by decide) (he : starEach (e :: es) X.env = (false, eval e X.env) :: starEach es X.env := by rfl) (hpl : (backTo pos (starEach es X.env)).any (·.1) = false := by rfl) :
    PE X (.Call (.Name x p) (e :: es) [] pos) (tCall sp dvs E t) := by
  obtain ⟨f, fd, ds, F, hm, hk, hb, hd⟩ := O.ex
  refine ⟨fun pins s σ H Q I h => wpAny_Call_Name_kw (ld_glob I hg hm ?_ hdb)⟩
  apply PySem.W.callWith_K (h₀ := X.base) I.ok.mod.kin hk _ he hpl
  refine thn (ha.run pos pins s σ H _ I h) ?_
  rintro us s1 ⟨vs, H1, I1, r, q⟩
  have r2 := r.append hd
  exact ⟨I1.kIn, runG F hG hr (hb s1 us I1.kIn (by rw [← r2.length]; exact F.len _ _ _ _ q)) hx I1 r2 q⟩
theorem pe_own0 (O : Own X.prog X.w X.K X.mg X.base CX k x ps dvs sp) (hG : X.A.guards = some []) (hr : Room k X.A) (hx : Passes CX X E) (hg : Gl X x := by rfl)
    (hdb : (x == ("__debug__" : Str)) = false := by decide) : PE X (.Call (.Name x p) [] [] pos) (tCall sp dvs E tNil) := by
  obtain ⟨f, fd, ds, F, hm, hk, hb, hd⟩ := O.ex
  refine ⟨fun pins s σ H Q I h => wpAny_Call_Name_kw (ld_glob I hg hm ?_ hdb)⟩
  refine PySem.W.callWith_K0 I.kIn hk ?_
  exact runG F hG hr (us := []) (hb s [] I.kIn (by rw [← (Vals.append (.nil : Vals [] []) hd).length]; exact F.len _ _ _ _ h)) hx I (Vals.append (.nil : Vals [] []) hd) h
theorem pe_ownK (O : OwnK X.prog X.w X.K X.mg X.base CX k x ps n ks gV sp) (hG : X.A.guards = some []) (hr : Room k X.A) (hx : Passes CX X E) (ha : PA X (e :: es) t) (hkw : PK X kws tk) (hg : Gl X x := by rfl)
    (hall : (backToKw pos (keywordEach kws X.env)).all (·.1.isSome) = true := by rfl) (hks : (backToKw pos (keywordEach kws X.env)).filterMap (·.1) = ks := by rfl)
    (hdb : (x == ("__debug__" : Str)) = false := by decide) (he : starEach (e :: es) X.env = (false, eval e X.env) :: starEach es X.env := by rfl)
    (hpl : ((backTo pos (starEach (e :: es) X.env)).any (·.1) || (backToKw pos (keywordEach kws X.env)).any (·.1.isNone)) = false := by rfl) :
    PE X (.Call (.Name x p) (e :: es) kws pos) (tCallN n ks.length sp gV E t tk) := by
  obtain ⟨f, fd, g, F, hm, hk, hb⟩ := O.ex
  refine ⟨fun pins s σ H Q I h => wpAny_Call_Name_kw (ld_glob I hg hm ?_ hdb)⟩
  apply PySem.W.callWith_KW (h₀ := X.base) I.ok.mod.kin hk hall _ hpl he
  refine thn (ha.run pos pins s σ H _ I h) ?_
  rintro us s1 ⟨vs, H1, I1, r, q⟩
  refine thn (hkw.run pos pins s1 σ H1 _ I1 q) ?_
  rintro ws s2 ⟨zs, H2, I2, rz, l1, l2, q2⟩
  rw [hks]
  exact ⟨I2.kIn, runG F hG hr (hb.to s2 us ws I2.kIn (r.length.symm.trans l1) (rz.length.symm.trans l2)) hx I2 (hb.rel r rz) q2⟩
theorem pe_ownK0 (O : OwnK X.prog X.w X.K X.mg X.base CX k x ps 0 ks gV sp) (hG : X.A.guards = some []) (hr : Room k X.A) (hx : Passes CX X E) (hkw : PK X kws tk) (hg : Gl X x := by rfl)
    (hall : (backToKw pos (keywordEach kws X.env)).all (·.1.isSome) = true := by rfl) (hks : (backToKw pos (keywordEach kws X.env)).filterMap (·.1) = ks := by rfl)
    (hdb : (x == ("__debug__" : Str)) = false := by decide)
    (hpl : ((backTo pos (starEach [] X.env)).any (·.1) || (backToKw pos (keywordEach kws X.env)).any (·.1.isNone)) = false := by rfl) :
    PE X (.Call (.Name x p) [] kws pos) (tCallN 0 ks.length sp gV E tNil tk) := by
  obtain ⟨f, fd, g, F, hm, hk, hb⟩ := O.ex
  refine ⟨fun pins s σ H Q I h => wpAny_Call_Name_kw (ld_glob I hg hm ?_ hdb)⟩
  refine PySem.W.callWith_KW0 (h₀ := X.base) I.ok.mod.kin hk hall ?_ hpl
  refine thn (hkw.run pos pins s σ H _ I h) ?_
  rintro ws s2 ⟨zs, H2, I2, rz, l1, l2, q2⟩
  rw [hks]
  exact ⟨I2.kIn, runG F hG hr (us := []) (hb.to s2 [] ws I2.kIn rfl (rz.length.symm.trans l2)) hx I2 (hb.rel (.nil : Vals [] []) rz) q2⟩
end
end Pm

namespace Pm
open PySem PySem.Spec PyProof.Rows L2
/-! ### the law's call, knowing that no repr is under way -/
section
variable {P : Program} {w : World} {K : PySem.W.Frag} {mg mb : Str → Option Value} {k : Nat} {fa a : Addr} {fd : FuncData} {x : Str} {sp : Sp} {s0 : Shared} {vs : List Value} {ns : List Int} {H : Hp}
/-- an abstract heap that tracks nothing but the script leaves a ground to stand on -/
theorem ground_of (inK : K.In s0.heap) (gl : s0.heap.Ns mainGlobals mg) (bl : s0.heap.Ns builtinsNs mb) (bb : ∀ y : Str, y ≠ "__name__" → mb y = bootBuiltins y) (lim : s0.heap.NoLimit)
    (obj : s0.heap.get? a = some { cls := .type "list", data := .seq vs.toArray }) (one : ∀ b u, H b = some u → b = a ∧ K.lookup a = none) : Mod K mg (hidT s0.heap H) := by
  have dictFree : ∀ (b : Addr) (o : Obj) (es : Array DictEntry) (ep : Nat), s0.heap.get? b = some o → o.data = .dict es ep → H b = none := by
    intro b o es ep e d
    rcases hb : H b with _ | u
    · rfl
    · obtain ⟨rfl, _⟩ := one b u hb
      rw [obj] at e
      injection e with e
      subst e
      cases d
  have ns : ∀ {b : Addr} {m : Str → Option Value}, s0.heap.Ns b m → (hidT s0.heap H).Ns b m := by
    rintro b m ⟨o, es, ep, e, d, r⟩
    exact ⟨o, es, ep, hidT_get e (dictFree b o es ep e d), d, r⟩
  refine ⟨fun b o e => hidT_get (inK b o e) ?_, ns gl, ⟨mb, ns bl, bb⟩, ?_⟩
  · rcases hb : H b with _ | u
    · rfl
    · obtain ⟨rfl, z⟩ := one b u hb
      rw [z] at e
      cases e
  · obtain ⟨mc, h1, h2⟩ := lim
    exact ⟨mc, ns h1, h2⟩
theorem lawG_core (inK : K.In s0.heap) (gl : s0.heap.Ns mainGlobals mg) (bl : s0.heap.Ns builtinsNs mb) (bb : ∀ y : Str, y ≠ "__name__" → mb y = bootBuiltins y) (lim : s0.heap.NoLimit) (gens : s0.gens = #[])
    (obj : s0.heap.get? a = some { cls := .type "list", data := .seq vs.toArray }) (room : Room k callerA)
    (F : ∀ base : Heap, K.In base → base.Ns mainGlobals mg → FnG P w K mg base CX0 k fa fd [x] sp) (bind : ∀ (s : Shared) (u : Value), BindsTo s fd ⟨[u], []⟩ [(x, u)])
    (only : Only H) (hok : HOk P w H s0.heap) (one : ∀ b u, H b = some u → b = a ∧ K.lookup a = none) (pre : sp [.ref a] H (fun v _ => v = .bl true) fun _ _ _ => False) :
    codeAny (model P w) callerA (.call (.ref fa) ⟨[.ref a], []⟩) (fun r s' => r = .ok (.ret (.bool true)) ∧ OldK s0.heap s'.heap ∧ s'.os = s0.os ∧ AllBare s'.gens) s0 := by
  have M := ground_of inK gl bl bb lim obj one
  have e0 : Env0 P w K mg (hidT s0.heap H) callerA [] s0 H := { frames := rfl, mod := M, bs := fun b o e => of_hidT e, bsz := Nat.le_of_eq (hidT_size _ _), funs := trivial, frf := (fun b hb => by cases hb), hok := hok, bare := .of_eq gens }
  refine codeAny_mono ((F _ M.kin M.glob).run callerA rfl [] s0 H _ [.ref a] [.ref a] _ _ room e0 (bind s0 _) (.cons rfl .nil) pre) ?_
  rintro (e | fl) s' hq
  · exact False.elim hq
  · cases fl with
    | ret u =>
      obtain ⟨v, H', os, bare, un, hok', rv, hv⟩ := hq
      have hv' : v = .bl true := hv
      subst hv'
      have hu : u = Value.bool true := rv
      subst hu
      refine ⟨rfl, OldK.of_keep fun b o e => ?_, os, bare⟩
      rcases only b with z | ⟨ob, xs, z⟩
      · exact un.keep b o e z (fun q => by cases q) (fun q => by cases q)
      · have e1 := (hok b _ z).1
        have e2 := (hok' b _ (un.frzs b ob _ z)).1
        rw [e] at e1
        injection e1 with e1
        rw [e1]
        exact e2
    | _ => exact False.elim hq
theorem lawG_call (inK : K.In s0.heap) (gl : s0.heap.Ns mainGlobals mg) (bl : s0.heap.Ns builtinsNs mb) (bb : ∀ y : Str, y ≠ "__name__" → mb y = bootBuiltins y) (lim : s0.heap.NoLimit) (gens : s0.gens = #[])
    (obj : s0.heap.get? a = some { cls := .type "list", data := .seq vs.toArray }) (hints : IntsAre vs ns) (short : ns.length ≤ sizeLine) (room : Room k callerA)
    (F : ∀ base : Heap, K.In base → base.Ns mainGlobals mg → FnG P w K mg base CX0 k fa fd [x] sp) (bind : ∀ (s : Shared) (u : Value), BindsTo s fd ⟨[u], []⟩ [(x, u)])
    (pre : ∀ H : Hp, SqL K H a (ns.map V.int) → sp [.ref a] H (fun v _ => v = .bl true) fun _ _ _ => False) :
    codeAny (model P w) callerA (.call (.ref fa) ⟨[.ref a], []⟩) (fun r s' => r = .ok (.ret (.bool true)) ∧ OldK s0.heap s'.heap ∧ s'.os = s0.os ∧ AllBare s'.gens) s0 := by
  have rv : Vals (ns.map V.int) vs := vals_ints hints
  rcases hk : K.lookup a with _ | o
  · let u : HO := .frz { cls := .type "list", data := .seq vs.toArray } (.lst (ns.map V.int))
    have at_ : (fun b => if b = a then some u else none : Hp) a = some u := if_pos rfl
    refine lawG_core (H := fun b => if b = a then some u else none) inK gl bl bb lim gens obj room F bind ?_ ?_ ?_ (pre _ (.inl (.inr ⟨_, at_⟩)))
    · intro b
      by_cases hb : b = a
      · exact .inr ⟨_, _, if_pos hb⟩
      · exact .inl (if_neg hb)
    · intro b u' z
      by_cases hb : b = a
      · subst hb
        rw [at_] at z
        injection z with z
        subst z
        exact ⟨obj, (by rw [List.length_map]; exact short), vs, _, rv, obj⟩
      · have z2 := (if_neg hb).symm.trans z
        cases z2
    · intro b u' z
      by_cases hb : b = a
      · exact ⟨hb, hk⟩
      · have z2 := (if_neg hb).symm.trans z
        cases z2
  · have e := inK a o hk
    rw [obj] at e
    injection e with e
    subst e
    refine lawG_core (H := fun _ => none) inK gl bl bb lim gens obj room F bind (fun _ => .inl rfl) (fun b u z => by cases z) (fun b u z => by cases z) (pre _ (.inr ⟨_, vs.toArray, _, hk, rfl, rfl, rfl, ?_, by simpa using rv⟩))
    rw [List.size_toArray, hints.length]
    exact short
end
/-- the end of a law's row -/
theorem walkG {l : PySem.W.OpenLaw} {n k : Nat} {q : Program} {loose : List Str} {XP : (Str → Option Value) → Heap → Prop} {YP : World → Heap → Prop} {d : DefRec} {K : Params → PySem.W.Frag} {sp : World → Sp} {x : Str}
    (hn : l.most = some n) (hn2 : n ≤ sizeLine) (hdf : d.params.defaults = []) (hr : Room k callerA) (hY : ∀ (w : World) (h : Heap), YP w h → (K w.params).In h)
    (F : ∀ (w : World) (mg : Str → Option Value) (fa : Addr) (h : Heap), (K w.params).In h → h.Ns mainGlobals mg → mg d.name = some (.ref fa) →
      ∃ fd : FuncData, (∀ (s : Shared) (u : Value), BindsTo s fd ⟨[u], []⟩ [(x, u)]) ∧ ∀ base : Heap, (K w.params).In base → base.Ns mainGlobals mg → FnG l.prog w (K w.params) mg base CX0 k fa fd [x] (sp w))
    (hsp : ∀ (w : World) (H : Hp) (a : Addr) (ns : List Int), ns.length ≤ n → (∀ z ∈ ns, Builtin.Int.intBits z ≤ 1048576) → SqL (K w.params) H a (ns.map V.int) → sp w [.ref a] H (fun v _ => v = .bl true) fun _ _ _ => False) :
    PySem.W.WalkO q loose XP YP l.row.toRowW d [] (fun f vs => PySem.call f vs) := by
  apply Att.attach_callB hn hdf
  intro w s₀ s₁ mg mb fa o pm cd doc a vs ns G Y ho hd hcd hmg hobj hints hlen hbits hg
  obtain ⟨fd, hb, hF⟩ := F w mg fa _ (hY w _ Y) G.T.g hmg
  exact lawG_call (hY w _ Y) G.T.g G.T.b G.T.builtins G.T.nolimit hg hobj hints (Nat.le_trans hlen hn2) hr hF hb fun H hS => hsp w H a ns hlen hbits hS
/-! ### repr of data -/
section
variable {X : Cx} {k : Nat}
def rReprD (K : PySem.W.Frag) : List V → Hp → VK → Prop := fun xs H Q => ∃ (a : Addr) (d : PyData), xs = [.ref a] ∧ Dp K H (.ref a) d ∧ d.showable = true ∧ d.hasDict = false ∧ d.depth ≤ 60 ∧ d.shown.length ≤ sizeLine ∧ Q (.str d.shown) H
theorem call_reprD (hG : X.A.guards = some []) (hr : Room k X.A) : CallR X (.builtin "repr") (rReprD X.K) := by
  intro pins s σ H xs us Q I r h
  obtain ⟨a, d, rfl, hd, hs, hn, hdp, hz, q⟩ := h
  obtain ⟨u, rfl, rfl⟩ := vals1 r
  obtain ⟨as, hR⟩ := Dp.reads I d (.ref a) (.ref a) hd rfl
  have hu := hr.un
  exact repr_of_reads' hR hs (fun z => by rw [hn] at z; cases z) hG (by omega) (fun _ _ e => e) (fun h' u tk hk => ⟨.str d.shown, H, I.kept hk, ⟨_, rfl⟩, q⟩) hz
end
end Pm

namespace Pm
open PySem PySem.Spec PyProof.Rows L2
/-! ### operators, whatever stands there -/
section
variable {X : Cx} {k : Nat}
def rAddU (K : PySem.W.Frag) : R2 := fun x y H Q => (∃ i j, x = .int i ∧ y = .int j ∧ Q (.int (i + j)) H) ∨ (∃ i j, x = .str i ∧ y = .str j ∧ i.length + j.length ≤ sizeLine ∧ Q (.str (i ++ j)) H) ∨ rCat x y H Q ∨ rCatT K x y H Q
theorem op_addU : OpR X (binaryOp .Add) (rAddU X.K) := op_add.or (op_add_str.or (op_cat.or op_catT))
theorem op_fdivV : OpR X (binaryOp .FloorDiv) (rI (fun _ j => j ≠ 0 ∧ j.natAbs.log2 < 9000) fun i j => .int (i.fdiv j)) := opI fun _ _ _ _ _ _ _ hc q => floordiv_int hc.1 q (.inl (PyProof.noPylong_of_log2 hc.2))
def rMulU : R2 := fun x y H Q => (∃ i j, x = .int i ∧ y = .int j ∧ CMulW i j ∧ Q (.int (i * j)) H) ∨ rRep x y H Q
theorem op_mulU : OpR X (binaryOp .Mult) rMulU := op_mulW.or op_rep
def rEqU (K : PySem.W.Frag) : R2 := fun x y H Q => rEq x y H Q ∨ rEqD K x y H Q
def rNeU (K : PySem.W.Frag) : R2 := fun x y H Q => rNe x y H Q ∨ rNeD K x y H Q
theorem op_eqU (hr : Room k X.A) : OpR X (compareOp .Eq) (rEqU X.K) := op_eq.or (op_eqD (by have := hr.un; omega))
theorem op_neU (hr : Room k X.A) : OpR X (compareOp .NotEq) (rNeU X.K) := op_ne.or (op_neD (by have := hr.un; omega))
end
/-! ### frames: what a step leaves as it was -/
/-- all but the lists at m and n -/
structure Fx (m n : Addr) (H H' : Hp) : Prop where
  oth : ∀ b o, H b = some o → b ≠ m → b ≠ n → H' b = some o
  tup : ∀ b xs, H b = some (.tup xs) → H' b = some (.tup xs)
def New (H : Hp) (p : Addr) : Prop := H p = none
section
variable {K : PySem.W.Frag} {H H' H1 H2 : Hp} {m n p q : Addr} {xs : List V} {o : HO}
theorem Fx.same (e : Same H H') : Fx m n H H' := ⟨fun b o h _ _ => e b o h, fun b xs h => e b _ h⟩
theorem Fx.trans (a : Fx m n H H1) (b : Fx m n H1 H2) : Fx m n H H2 := ⟨fun c o h h1 h2 => b.oth c o (a.oth c o h h1 h2) h1 h2, fun c xs h => b.tup c xs (a.tup c xs h)⟩
theorem same_new (h : H p = none) : Same H (upd H p o) := fun b u e => by rw [upd_ne (ne_of_none e h)]; exact e
theorem fx_upd (h : H m = some (.lst xs)) : Fx m n H (upd H m o) := ⟨fun b u e hm _ => by rw [upd_ne hm]; exact e, fun b ys e => by rw [upd_ne (ne_of e h (fun z => nomatch z))]; exact e⟩
theorem fx_upd2 (h : H n = some (.lst xs)) : Fx m n H (upd H n o) := ⟨fun b u e _ hn => by rw [upd_ne hn]; exact e, fun b ys e => by rw [upd_ne (ne_of e h (fun z => nomatch z))]; exact e⟩
/-- back by a frame -/
theorem b_get (e : Same H H') (h : H p = some o) : H' p = some o := e p o h
theorem b_tup (e : Fx m n H H') (h : H p = some (.tup xs)) : H' p = some (.tup xs) := e.tup p xs h
theorem b_lst (e : Fx m n H H') (h1 : p ≠ m) (h2 : p ≠ n) (h : H p = some o) : H' p = some o := e.oth p o h h1 h2
theorem b_T (e : Same H H') (h : SqT K H p xs) : SqT K H' p xs := by
  rcases h with (h | ⟨o, h⟩) | h
  · exact .inl (.inl (e _ _ h))
  · exact .inl (.inr ⟨o, e _ _ h⟩)
  · exact .inr h
theorem b_L (e : Same H H') (h : SqL K H p xs) : SqL K H' p xs := e.seq h
theorem new_ne (h : New H p) (h2 : H q = some o) : p ≠ q := fun e => by subst e; exact absurd (h.symm.trans h2) (fun z => nomatch z)
theorem new_ne' (h : New H p) (h2 : H q = some o) : q ≠ p := fun e => new_ne h h2 e.symm
end
/-- a tuple for ever: tracked as such, or of the module -/
def Tp (K : PySem.W.Frag) (H : Hp) (a : Addr) (xs : List V) : Prop := H a = some (.tup xs) ∨ ∃ (o : Obj) (its : Array Value) (n : Nat), K.lookup a = some o ∧ o.cls = .type "tuple" ∧ o.data = .seq its n ∧ its.size ≤ sizeLine ∧ Vals xs its.toList
section
variable {K : PySem.W.Frag} {H H' H1 H2 : Hp} {m n p q : Addr} {xs ys : List V} {o : HO}
theorem Tp.sq (h : Tp K H p xs) : SqT K H p xs := h.elim (fun h => .inl (.inl h)) .inr
theorem Tp.mono (e : Same H H') (h : Tp K H p xs) : Tp K H' p xs := h.elim (fun h => .inl (e _ _ h)) .inr
theorem Tp.fx (e : Fx m n H H') (h : Tp K H p xs) : Tp K H' p xs := h.elim (fun h => .inl (e.tup _ _ h)) .inr
theorem Tp.of (h : H p = some (.tup xs)) : Tp K H p xs := .inl h
end
/-! ### one step of a reading -/
section
variable {K : PySem.W.Frag} {σ : L2.St} {H : Hp} {Q : VK} {QB : Bool → Hp → Prop} {QA : List V → Hp → Prop} {ta tb te : TE} {t u : TT} {ts us : TS} {D : Ends} {i : Nat} {v x y : V} {r : R2} {g : TG} {tA tR : TA}
theorem i_seq (h : ts { D with nx := us D } σ H) : tSeq ts us D σ H := h
theorem i_next (h : D.nx σ H) : tNext D σ H := h
theorem i_asg (h : te σ H fun x H1 => g x σ H1 D.nx) : tAsg te g D σ H := h
theorem i_name {N : L2.St → Hp → Prop} (h : N (σ.set i (some v)) H) : gName i v σ H N := h
theorem i_drop (h : te σ H fun _ H1 => D.nx σ H1) : tDrop te D σ H := h
theorem i_ret (h : te σ H D.rt) : tRet te D σ H := h
theorem i_retN (h : D.rt .non H) : tRetN D σ H := h
theorem i_brk (h : D.bk σ H) : tBreak D σ H := h
theorem i_ctn (h : D.ct σ H) : tCont D σ H := h
theorem i_ifS (h : t σ H fun b H1 => if b = true then ts D σ H1 else us D σ H1) : tIfS t ts us D σ H := h
theorem i_par {i j : Nat} (h : tA σ H fun vs H1 => ∃ v w, vs = [v, w] ∧ D.nx ((σ.set i (some v)).set j (some w)) H1) : tPar i j tA D σ H := h
theorem i_par2 {i j : Nat} {a b : V} {N : L2.St → Hp → Prop} (h : N ((σ.set i (some a)).set j (some b)) H) : ∃ v w, [a, b] = [v, w] ∧ N ((σ.set i (some v)).set j (some w)) H := ⟨a, b, rfl, h⟩
theorem i_var (e : σ[i]? = some (some v)) (h : Q v H) : tVar i σ H Q := ⟨v, e, h⟩
theorem i_c (h : Q v H) : tC v σ H Q := h
theorem i_op (h : ta σ H fun x H1 => tb σ H1 fun y H2 => r x y H2 Q) : tOp r ta tb σ H Q := h
theorem i_un {r : V → Hp → VK → Prop} (h : ta σ H fun x H1 => r x H1 Q) : tUn r ta σ H Q := h
theorem i_test (h : te σ H fun x H1 => ∃ k, x = .bl k ∧ QB k H1) : tTest te σ H QB := h
theorem i_tB (h : te σ H fun x H1 => ∃ k, x = .bl k ∧ QB k H1) : tB te σ H QB := h
theorem i_bl {b : Bool} (h : QB b H) : ∃ k, V.bl b = .bl k ∧ QB k H := ⟨b, rfl, h⟩
theorem i_and (h : t σ H fun c H1 => if c = true then u σ H1 QB else QB false H1) : tAnd t u σ H QB := h
theorem i_or (h : t σ H fun c H1 => if c = true then QB true H1 else u σ H1 QB) : tOr t u σ H QB := h
theorem i_not (h : t σ H fun c H1 => QB (!c) H1) : tNot t σ H QB := h
theorem i_andV (h : ta σ H fun x H1 => ∃ c, x = .bl c ∧ if c = true then tb σ H1 Q else Q (.bl false) H1) : tAndV ta tb σ H Q := h
theorem i_orV (h : ta σ H fun x H1 => ∃ c, x = .bl c ∧ if c = true then Q (.bl true) H1 else tb σ H1 Q) : tOrV ta tb σ H Q := h
theorem i_notV (h : ta σ H fun x H1 => ∃ c, x = .bl c ∧ Q (.bl (!c)) H1) : tNotV ta σ H Q := h
theorem i_notV2 {b : Bool} (h : Q (.bl (!b)) H) : ∃ c, V.bl b = .bl c ∧ Q (.bl (!c)) H := ⟨b, rfl, h⟩
theorem i_bif {b : Bool} {A B : Bool → Prop} (h : if b = true then A b else B b) : ∃ c, V.bl b = .bl c ∧ if c = true then A c else B c := ⟨b, rfl, h⟩
theorem i_ifE (h : t σ H fun c H1 => if c = true then ta σ H1 Q else tb σ H1 Q) : tIf t ta tb σ H Q := h
theorem i_nil (h : QA [] H) : tNil σ H QA := h
theorem i_cons (h : ta σ H fun x H1 => tR σ H1 fun xs H2 => QA (x :: xs) H2) : tCons ta tR σ H QA := h
theorem i_call {sp : Sp} {dvs : List V} {E : XK} (h : tA σ H fun vs H1 => sp (vs ++ dvs) H1 Q E) : tCall sp dvs E tA σ H Q := h
theorem i_callN {sp : Sp} {n m : Nat} {gV : List V → List V → List V} {E : XK} {tk : TA} (h : tA σ H fun vs H1 => tk σ H1 fun zs H2 => vs.length = n ∧ zs.length = m ∧ sp (gV vs zs) H2 Q E) : tCallN n m sp gV E tA tk σ H Q := h
theorem i_cb {r : List V → Hp → VK → Prop} (h : tA σ H fun vs H1 => r vs H1 Q) : tCB r tA σ H Q := h
/-- a new tuple, a new list -/
def NewT (xs : List V) (H : Hp) (Q : VK) : Prop := xs.length ≤ sizeLine ∧ ∀ p, H p = none → Q (.ref p) (upd H p (.tup xs))
def NewL (xs : List V) (H : Hp) (Q : VK) : Prop := xs.length ≤ sizeLine ∧ ∀ p, H p = none → Q (.ref p) (upd H p (.lst xs))
theorem i_tup (h : tA σ H fun xs H1 => NewT xs H1 Q) : tTup tA σ H Q := h
theorem i_lst (h : tA σ H fun xs H1 => NewL xs H1 Q) : tLst tA σ H Q := h
theorem i_newT {xs : List V} (hl : xs.length ≤ 100000) (h : ∀ p H', New H p → Same H H' → H' p = some (.tup xs) → Q (.ref p) H') : NewT xs H Q :=
  ⟨Nat.le_trans hl (by decide), fun p hp => h p _ hp (same_new hp) upd_same⟩
theorem i_newL {xs : List V} (hl : xs.length ≤ 100000) (h : ∀ p H', New H p → Same H H' → H' p = some (.lst xs) → Q (.ref p) H') : NewL xs H Q :=
  ⟨Nat.le_trans hl (by decide), fun p hp => h p _ hp (same_new hp) upd_same⟩
theorem i_new {o : HO} (h : ∀ p H', New H p → Same H H' → H' p = some o → Q (.ref p) H') : ∀ p, H p = none → Q (.ref p) (upd H p o) := fun p hp => h p _ hp (same_new hp) upd_same
/-! values -/
theorem i_addI {a b : Int} (h : Q (.int (a + b)) H) : rAddU K (.int a) (.int b) H Q := .inl ⟨a, b, rfl, rfl, h⟩
theorem i_addL {p q : Addr} {xs ys : List V} (h1 : H p = some (.lst xs)) (h2 : H q = some (.lst ys)) (hl : xs.length + ys.length ≤ 100000) (h : ∀ a H', New H a → Same H H' → H' a = some (.lst (xs ++ ys)) → Q (.ref a) H') : rAddU K (.ref p) (.ref q) H Q :=
  .inr (.inr (.inl ⟨p, q, xs, ys, rfl, rfl, h1, h2, Nat.le_trans hl (by decide), i_new h⟩))
theorem i_I {C : Int → Int → Prop} {f : Int → Int → V} {a b : Int} (hc : C a b) (h : Q (f a b) H) : rI C f (.int a) (.int b) H Q := ⟨a, b, rfl, rfl, hc, h⟩
theorem i_I0 {f : Int → Int → V} {a b : Int} (h : Q (f a b) H) : rI0 f (.int a) (.int b) H Q := ⟨a, b, rfl, rfl, h⟩
theorem i_U {f : Int → V} {a : Int} (h : Q (f a) H) : rU f (.int a) H Q := ⟨a, rfl, h⟩
theorem i_mulI {a b : Int} (hc : CMulW a b) (h : Q (.int (a * b)) H) : rMulU (.int a) (.int b) H Q := .inl ⟨a, b, rfl, rfl, hc, h⟩
theorem i_eqI {a b : Int} (h : Q (.bl (decide (a = b))) H) : rEqU K (.int a) (.int b) H Q := .inl ⟨rfl, by rw [dec_int, ← Bool.beq_eq_decide_eq] at *; exact h⟩
theorem i_neI {a b : Int} (h : Q (.bl (!decide (a = b))) H) : rNeU K (.int a) (.int b) H Q := .inl ⟨rfl, by rw [dec_int, ← Bool.beq_eq_decide_eq] at *; exact h⟩
theorem i_eqD {x y : V} {d e : PyData} (h1 : Dp K H x d) (h2 : Dp K H y e) (s1 : SeqAt.shaped d = true) (s2 : SeqAt.shaped e = true) (h : Q (.bl (PyData.eqv d e)) H) : rEqU K x y H Q := .inr ⟨d, e, h1, h2, s1, s2, h⟩
theorem i_neD {x y : V} {d e : PyData} (h1 : Dp K H x d) (h2 : Dp K H y e) (s1 : SeqAt.shaped d = true) (s2 : SeqAt.shaped e = true) (h : Q (.bl (!PyData.eqv d e)) H) : rNeU K x y H Q := .inr ⟨d, e, h1, h2, s1, s2, h⟩
theorem i_ixT {p : Addr} {xs : List V} {j : Int} (h1 : Tp K H p xs) (e : atI xs j = some v) (h : Q v H) : rIx K (.ref p) (.int j) H Q := .inr (.inl ⟨p, xs, j, v, rfl, rfl, h1.sq, e, h⟩)
theorem i_ixL {p : Addr} {xs : List V} {j : Int} (h1 : SqL K H p xs) (e : atI xs j = some v) (h : Q v H) : rIx K (.ref p) (.int j) H Q := .inl ⟨p, xs, j, v, rfl, rfl, h1, e, h⟩
theorem ite_d {c : Prop} {inst : Decidable c} {A B : Prop} (h1 : c → A) (h2 : ¬ c → B) : if decide c = true then A else B := by
  by_cases h : c
  · rw [if_pos (decide_eq_true h)]; exact h1 h
  · rw [if_neg (by rw [decide_eq_false h]; decide)]; exact h2 h
theorem ite_n {c : Prop} {inst : Decidable c} {A B : Prop} (h1 : ¬ c → A) (h2 : c → B) : if (!decide c) = true then A else B := by
  by_cases h : c
  · rw [if_neg (by rw [decide_eq_true h]; decide)]; exact h2 h
  · rw [if_pos (by rw [decide_eq_false h]; rfl)]; exact h1 h
theorem ite_b {c : Bool} {A B : Prop} (h1 : c = true → A) (h2 : c = false → B) : if c = true then A else B := by
  cases c with
  | true => exact (if_pos rfl).mpr (h1 rfl)
  | false => exact (if_neg Bool.false_ne_true).mpr (h2 rfl)
end
end Pm

namespace Pm
open PySem PySem.Spec PyProof.Rows L2
theorem bt_abs : bootBuiltins "abs" = some (.builtin "abs") := by decide +kernel
theorem bt_len : bootBuiltins "len" = some (.builtin "len") := by decide +kernel
theorem bt_min : bootBuiltins "min" = some (.builtin "min") := by decide +kernel
theorem bt_max : bootBuiltins "max" = some (.builtin "max") := by decide +kernel
theorem bt_repr : bootBuiltins "repr" = some (.builtin "repr") := by decide +kernel
theorem bt_isinstance : bootBuiltins "isinstance" = some (.builtin "isinstance") := by decide +kernel
theorem bt_all : bootBuiltins "all" = some (.builtin "all") := by decide +kernel
theorem bt_any : bootBuiltins "any" = some (.builtin "any") := by decide +kernel
theorem bt_sum : bootBuiltins "sum" = some (.builtin "sum") := by decide +kernel
theorem bt_str : bootBuiltins "str" = some (.type "str") := by decide +kernel
theorem bt_tuple : bootBuiltins "tuple" = some (.type "tuple") := by decide +kernel
theorem bt_list : bootBuiltins "list" = some (.type "list") := by decide +kernel
theorem bt_int : bootBuiltins "int" = some (.type "int") := by decide +kernel
theorem bt_bool : bootBuiltins "bool" = some (.type "bool") := by decide +kernel
theorem bt_sorted : bootBuiltins "sorted" = some (.builtin "sorted") := by decide +kernel
/-! ### built-ins by named readings -/
section
variable {X : Cx}
theorem CallR.imp {f : Value} {r r' : List V → Hp → VK → Prop} (h : CallR X f r) (i : ∀ xs H Q, r' xs H Q → r xs H Q) : CallR X f r' := fun pins s σ H xs us Q I rr hh => h pins s σ H xs us Q I rr (i _ _ _ hh)
def rAbs : List V → Hp → VK → Prop := fun xs H Q => ∃ i : Int, xs = [.int i] ∧ Q (.int i.natAbs) H
theorem call_absU : CallR X (.builtin "abs") rAbs := CallR.imp call_abs fun xs H Q ⟨i, e, q⟩ => ⟨i, e, by
  have z : (if i < 0 then -i else i) = (i.natAbs : Int) := by split <;> omega
  rw [z]; exact q⟩
def rMin2 : List V → Hp → VK → Prop := fun xs H Q => ∃ i j : Int, xs = [.int i, .int j] ∧ Q (.int (min i j)) H
theorem call_minU (hc : X.calm = true) : CallR X (.builtin "min") rMin2 := CallR.imp (call_min2 hc) fun xs H Q ⟨i, j, e, q⟩ => ⟨i, j, e, by
  have z : (if j < i then j else i) = min i j := by split <;> omega
  rw [z]; exact q⟩
def rMax2 : List V → Hp → VK → Prop := fun xs H Q => ∃ i j : Int, xs = [.int i, .int j] ∧ Q (.int (max i j)) H
theorem call_maxU (hc : X.calm = true) : CallR X (.builtin "max") rMax2 := CallR.imp (call_max2 hc) fun xs H Q ⟨i, j, e, q⟩ => ⟨i, j, e, by
  have z : (if j > i then j else i) = max i j := by split <;> omega
  rw [z]; exact q⟩
def rLenU (K : PySem.W.Frag) : List V → Hp → VK → Prop := fun xs H Q => ∃ p ys, xs = [.ref p] ∧ (SqL K H p ys ∨ SqT K H p ys) ∧ Q (.int ys.length) H
theorem call_lenU : CallR X (.builtin "len") (rLenU X.K) := call_len_seq
def rLenStr : List V → Hp → VK → Prop := fun xs H Q => ∃ z : Str, xs = [.str z] ∧ z.length ≤ sizeLine ∧ Q (.int z.length) H
theorem call_lenStr : CallR X (.builtin "len") rLenStr := call_len_str
def rStrI : List V → Hp → VK → Prop := fun xs H Q => ∃ i : Int, xs = [.int i] ∧ i.natAbs.log2 < 1920 ∧ Q (.str (toString i)) H
theorem call_strI : CallR X (.type "str") rStrI := call_str_int
def rTupL (K : PySem.W.Frag) : List V → Hp → VK → Prop := fun xs H Q => ∃ p ys, xs = [.ref p] ∧ SqL K H p ys ∧ ∀ l, H l = none → Q (.ref l) (upd H l (.tup ys))
theorem call_tupL : CallR X (.type "tuple") (rTupL X.K) := CallR.imp call_tuple_of fun xs H Q ⟨p, ys, e, h, q⟩ => ⟨p, ys, e, .inl ⟨h, q⟩⟩
end
section
variable {K : PySem.W.Frag} {σ : L2.St} {H : Hp} {Q : VK} {te : TE} {t : TT} {ts : TS} {D : Ends} {v x y : V} {g : TG} {tA : TA}
theorem i_abs {a : Int} (h : Q (.int a.natAbs) H) : rAbs [.int a] H Q := ⟨a, rfl, h⟩
theorem i_min {a b : Int} (h : Q (.int (min a b)) H) : rMin2 [.int a, .int b] H Q := ⟨a, b, rfl, h⟩
theorem i_max {a b : Int} (h : Q (.int (max a b)) H) : rMax2 [.int a, .int b] H Q := ⟨a, b, rfl, h⟩
theorem i_lenT {p : Addr} {xs : List V} (h1 : Tp K H p xs) (h : Q (.int xs.length) H) : rLenU K [.ref p] H Q := ⟨p, xs, rfl, .inr h1.sq, h⟩
theorem i_lenL {p : Addr} {xs : List V} (h1 : SqL K H p xs) (h : Q (.int xs.length) H) : rLenU K [.ref p] H Q := ⟨p, xs, rfl, .inl h1, h⟩
theorem i_lenS {z : Str} (h1 : z.length ≤ 100000) (h : Q (.int z.length) H) : rLenStr [.str z] H Q := ⟨z, rfl, Nat.le_trans h1 (by decide), h⟩
theorem i_strI {a : Int} (h1 : a.natAbs.log2 < 1920) (h : Q (.str (toString a)) H) : rStrI [.int a] H Q := ⟨a, rfl, h1, h⟩
theorem i_tupL {p : Addr} {xs : List V} (h1 : SqL K H p xs) (h : ∀ a H', New H a → Same H H' → H' a = some (.tup xs) → Q (.ref a) H') : rTupL K [.ref p] H Q := ⟨p, xs, rfl, h1, i_new h⟩
theorem i_reprD {p : Addr} {d : PyData} (h1 : Dp K H (.ref p) d) (h2 : d.showable = true) (h3 : d.hasDict = false) (h4 : d.depth ≤ 60) (h5 : d.shown.length ≤ sizeLine) (h : Q (.str d.shown) H) : rReprD K [.ref p] H Q := ⟨p, d, rfl, h1, h2, h3, h4, h5, h⟩
/-! loops -/
/-- one more turn of a while -/
def WB (m : Nat) (I : Nat → L2.St → Hp → Prop) (ts : TS) (D : Ends) (σ : L2.St) (H1 : Hp) : Prop := ∃ N : L2.St → Hp → Prop, (∀ σ' H', N σ' H' → ∃ m', m' < m ∧ I m' σ' H') ∧ ts { D with nx := N, ct := N, bk := D.nx } σ H1
theorem i_wb {m : Nat} {I : Nat → L2.St → Hp → Prop} (h : ts { D with nx := fun σ' H' => ∃ m', m' < m ∧ I m' σ' H', ct := fun σ' H' => ∃ m', m' < m ∧ I m' σ' H', bk := D.nx } σ H) : WB m I ts D σ H := ⟨_, fun _ _ z => z, h⟩
theorem i_while (I : Nat → L2.St → Hp → Prop) (m : Nat) (h0 : I m σ H) (hs : ∀ m σ H, I m σ H → t σ H fun b H1 => if b = true then WB m I ts D σ H1 else D.nx σ H1) : tWhile t ts D σ H := ⟨I, ⟨m, h0⟩, hs⟩
/-- what a for asks once what it walks is known -/
def ForI (J : It) (g : TG) (ts : TS) (D : Ends) (σ : L2.St) (H : Hp) : Prop := ∃ W : Nat → Nat → L2.St → Hp → Prop, (∃ m, W 0 m σ H) ∧ ∀ i m σ H, W i m σ H →
  (J.stop i H ∧ D.nx σ H) ∨ (J.go i H ∧ ∃ N : L2.St → Hp → Prop, (∀ σ' H', N σ' H' → ∃ m', m' < m ∧ W (i + 1) m' σ' H') ∧ ∀ x H', J.yld i H x H' → g x σ H' fun σ2 H2 => ts { D with nx := N, ct := N, bk := D.nx } σ2 H2)
theorem i_for {wi : TI} (h : wi σ H fun J H1 => ForI J g ts D σ H1) : tFor wi g ts D σ H := h
theorem i_iR1 {R : It → Hp → Prop} (h : tA σ H fun vs H1 => ∃ j : Int, vs = [.int j] ∧ -(2 ^ 62) ≤ j ∧ j < 2 ^ 62 ∧ R (Itr 0 j.toNat) H1) : iRng1 tA σ H R := h
theorem i_rng1 {R : Int → Prop} {n : Int} (h1 : -1000000000 ≤ n) (h2 : n ≤ 1000000000) (h : R n) : ∃ j : Int, [V.int n] = [.int j] ∧ -(2 ^ 62) ≤ j ∧ j < 2 ^ 62 ∧ R j := ⟨n, rfl, by omega, by omega, h⟩
theorem i_iR2 {R : It → Hp → Prop} (h : tA σ H fun vs H1 => ∃ i j : Int, vs = [.int i, .int j] ∧ (-(2 ^ 62) ≤ i ∧ i < 2 ^ 62 ∧ -(2 ^ 62) ≤ j ∧ j < 2 ^ 62) ∧ R (Itr i (j - i).toNat) H1) : iRng2 tA σ H R := h
theorem i_rng2 {R : Int → Int → Prop} {m n : Int} (h0 : -1000000000 ≤ m) (h0' : m ≤ 1000000000) (h1 : -1000000000 ≤ n) (h2 : n ≤ 1000000000) (h : R m n) : ∃ i j : Int, [V.int m, V.int n] = [.int i, .int j] ∧ (-(2 ^ 62) ≤ i ∧ i < 2 ^ 62 ∧ -(2 ^ 62) ≤ j ∧ j < 2 ^ 62) ∧ R i j := ⟨m, n, rfl, by omega, h⟩
theorem i_forR {lo : Int} {n : Nat} (I : Nat → L2.St → Hp → Prop) (h0 : I 0 σ H)
    (hs : ∀ (i : Nat) σ' H', i < n → I i σ' H' → g (.int (lo + i)) σ' H' fun σ2 H2 => ts { D with nx := I (i + 1), ct := I (i + 1), bk := D.nx } σ2 H2) (hd : ∀ σ' H', I n σ' H' → D.nx σ' H') : ForI (Itr lo n) g ts D σ H := for_range I h0 hs hd
theorem i_iL {R : It → Hp → Prop} {tl : TE} (h : tl σ H fun x H1 => ∃ a, x = .ref a ∧ (∃ xs, SqL K H1 a xs) ∧ R (Itl K a) H1) : iList K tl σ H R := h
theorem i_itL {R : Addr → Prop} {a : Addr} {xs : List V} (h1 : SqL K H a xs) (h : R a) : ∃ b, V.ref a = .ref b ∧ (∃ xs, SqL K H b xs) ∧ R b := ⟨a, rfl, ⟨xs, h1⟩, h⟩
theorem i_forL {a : Addr} {xs : List V} (I : Nat → L2.St → Hp → Prop) (h0 : I 0 σ H) (hl : ∀ i σ H, i ≤ xs.length → I i σ H → SqL K H a xs)
    (hs : ∀ i x σ' H', xs[i]? = some x → I i σ' H' → g x σ' H' fun σ2 H2 => ts { D with nx := I (i + 1), ct := I (i + 1), bk := D.nx } σ2 H2) (hd : ∀ σ' H', I xs.length σ' H' → D.nx σ' H') : ForI (Itl K a) g ts D σ H := for_list I h0 hl hs hd
theorem i_iT {R : It → Hp → Prop} {tl : TE} (h : tl σ H fun x H1 => ∃ a, x = .ref a ∧ (∃ xs, SqT K H1 a xs) ∧ R (Itt K a) H1) : iTup K tl σ H R := h
theorem i_itT {R : Addr → Prop} {a : Addr} {xs : List V} (h1 : Tp K H a xs) (h : R a) : ∃ b, V.ref a = .ref b ∧ (∃ xs, SqT K H b xs) ∧ R b := ⟨a, rfl, ⟨xs, h1.sq⟩, h⟩
theorem i_forT {a : Addr} {xs : List V} (I : Nat → L2.St → Hp → Prop) (h0 : I 0 σ H) (hl : ∀ i σ H, i ≤ xs.length → I i σ H → Tp K H a xs)
    (hs : ∀ i x σ' H', xs[i]? = some x → I i σ' H' → g x σ' H' fun σ2 H2 => ts { D with nx := I (i + 1), ct := I (i + 1), bk := D.nx } σ2 H2) (hd : ∀ σ' H', I xs.length σ' H' → D.nx σ' H') : ForI (Itt K a) g ts D σ H := for_tup I h0 (fun i σ H a b => (hl i σ H a b).sq) hs hd
end
end Pm

/-! Plain mathematics of parts: Rat of core. -/
namespace Pm
theorem gcd_turn (x y : Int) (hy : 0 < y) : Int.gcd y (x.fmod y) = Int.gcd x y := by
  rw [Int.fmod_eq_emod_of_nonneg x (by omega), Int.gcd_comm y (x % y)]
  conv => rhs; rw [← Int.emod_add_mul_ediv x y]
  rw [Int.gcd_add_mul_left_left]
theorem gcd_turn' (x y : Int) (hy : 0 < y) : Int.gcd y (x % y) = Int.gcd x y := by
  rw [← gcd_turn x y hy, Int.fmod_eq_emod_of_nonneg x (by omega)]
theorem gcd_abs (a b : Int) : Int.gcd (a.natAbs : Int) (b.natAbs : Int) = Int.gcd a b := by
  simp [Int.gcd]
theorem gcd_pos {a b : Int} (h : b ≠ 0) : 0 < Int.gcd a b := Int.gcd_pos_of_ne_zero_right a h
theorem fdiv_gcd_pos (a g : Int) (hg : 0 < g) : a.fdiv g = a / g := Int.fdiv_eq_ediv_of_nonneg a (by omega)
theorem fdiv_neg_dvd (a g : Int) (hg : 0 < g) (h : g ∣ a) : a.fdiv (0 - g) = (-a) / g := by
  obtain ⟨c, rfl⟩ := h
  have e : g * c = (0 - g) * (-c) := by rw [Int.zero_sub, Int.neg_mul_neg]
  have e2 : -(g * c) = g * (-c) := by rw [Int.mul_neg]
  rw [e2, Int.mul_ediv_cancel_left _ (by omega), e, Int.mul_fdiv_cancel_left _ (by omega)]
theorem num_pos {a b : Int} (h : 0 < b) : (Rat.divInt a b).num = a.fdiv (Int.gcd a b) := by
  rw [Rat.num_divInt, Int.sign_eq_one_of_pos h, Int.one_mul, Int.gcd_comm, fdiv_gcd_pos]
  exact_mod_cast gcd_pos (by omega)
theorem den_pos {a b : Int} (h : 0 < b) : ((Rat.divInt a b).den : Int) = b.fdiv (Int.gcd a b) := by
  have hg := gcd_pos (a := a) (b := b) (by omega)
  rw [Rat.den_divInt, if_neg (by omega), Int.gcd_comm b a, fdiv_gcd_pos _ _ (by exact_mod_cast hg), Int.natCast_ediv]
  congr 1
  omega
theorem num_neg {a b : Int} (h : b < 0) : (Rat.divInt a b).num = a.fdiv (0 - (Int.gcd a b : Int)) := by
  have hg := gcd_pos (a := a) (b := b) (by omega)
  rw [Rat.num_divInt, Int.sign_eq_neg_one_of_neg h, fdiv_neg_dvd _ _ (by exact_mod_cast hg) (Int.gcd_dvd_left a b), Int.gcd_comm]
  congr 1
  omega
theorem den_neg {a b : Int} (h : b < 0) : ((Rat.divInt a b).den : Int) = b.fdiv (0 - (Int.gcd a b : Int)) := by
  have hg := gcd_pos (a := a) (b := b) (by omega)
  rw [Rat.den_divInt, if_neg (by omega), fdiv_neg_dvd _ _ (by exact_mod_cast hg) (Int.gcd_dvd_right a b), Int.gcd_comm b a, Int.natCast_ediv]
  congr 1
  omega
theorem num_law {a b : Int} (h : b ≠ 0) : (Rat.divInt a b).num = ((if 0 < b then 1 else -1) * a).fdiv (Int.gcd a b) := by
  have hg := gcd_pos (a := a) (b := b) h
  rw [Rat.num_divInt, Int.gcd_comm b a, fdiv_gcd_pos _ _ (by exact_mod_cast hg)]
  by_cases hb : 0 < b
  · rw [if_pos hb, Int.sign_eq_one_of_pos hb]
  · rw [if_neg hb, Int.sign_eq_neg_one_of_neg (by omega)]
theorem den_law {a b : Int} (h : b ≠ 0) : ((Rat.divInt a b).den : Int) = (b.natAbs : Int).fdiv (Int.gcd a b) := by
  have hg := gcd_pos (a := a) (b := b) h
  rw [Rat.den_divInt, if_neg h, Int.gcd_comm b a, fdiv_gcd_pos _ _ (by exact_mod_cast hg), Int.natCast_ediv]
/-! sizes -/
/-- top and bottom of at most n bits -/
def Bd (n : Nat) (q : Rat) : Prop := q.num.natAbs < 2 ^ n ∧ q.den < 2 ^ n
theorem Bd.mono {n m : Nat} {q : Rat} (h : Bd n q) (e : n ≤ m) : Bd m q := ⟨Nat.lt_of_lt_of_le h.1 (Nat.pow_le_pow_right (by decide) e), Nat.lt_of_lt_of_le h.2 (Nat.pow_le_pow_right (by decide) e)⟩
theorem num_le {a b : Int} (h : b ≠ 0) : (Rat.divInt a b).num.natAbs ≤ a.natAbs := by
  rw [num_law h]
  have hg := gcd_pos (a := a) (b := b) h
  rw [fdiv_gcd_pos _ _ (by exact_mod_cast hg)]
  have z : ((if 0 < b then 1 else -1) * a).natAbs = a.natAbs := by split <;> omega
  rw [← z]
  have hd : ((Int.gcd a b : Nat) : Int) ∣ (if 0 < b then 1 else -1) * a := Int.dvd_trans (Int.gcd_dvd_left a b) (Int.dvd_mul_left _ _)
  rw [Int.natAbs_ediv_of_dvd hd]
  exact Nat.div_le_self _ _
theorem den_le {a b : Int} (h : b ≠ 0) : (Rat.divInt a b).den ≤ b.natAbs := by
  have e := den_law (a := a) h
  have hg := gcd_pos (a := a) (b := b) h
  rw [fdiv_gcd_pos _ _ (by exact_mod_cast hg)] at e
  have e2 : (Rat.divInt a b).den = b.natAbs / Int.gcd a b := by exact_mod_cast e
  rw [e2]
  exact Nat.div_le_self _ _
theorem bd_divInt {a b : Int} {n : Nat} (h : b ≠ 0) (ha : a.natAbs < 2 ^ n) (hb : b.natAbs < 2 ^ n) : Bd n (Rat.divInt a b) := ⟨Nat.lt_of_le_of_lt (num_le h) ha, Nat.lt_of_le_of_lt (den_le h) hb⟩
theorem mul_lt2 {a b : Int} {n m : Nat} (ha : a.natAbs < 2 ^ n) (hb : b.natAbs < 2 ^ m) : (a * b).natAbs < 2 ^ (n + m) := by
  rw [Int.natAbs_mul, Nat.pow_add]
  exact Nat.mul_lt_mul'' ha hb
theorem den_ne (q : Rat) : ((q.den : Nat) : Int) ≠ 0 := by have := q.den_nz; omega
theorem den_gt (q : Rat) : 0 < ((q.den : Nat) : Int) := by have := q.den_pos; omega
theorem add_eq (p q : Rat) : p + q = Rat.divInt (p.num * q.den + q.num * p.den) (p.den * q.den) := by
  conv => lhs; rw [← Rat.num_divInt_den p, ← Rat.num_divInt_den q]
  rw [Rat.divInt_add_divInt _ _ (den_ne p) (den_ne q)]
theorem sub_eq (p q : Rat) : p - q = Rat.divInt (p.num * q.den - q.num * p.den) (p.den * q.den) := by
  conv => lhs; rw [← Rat.num_divInt_den p, ← Rat.num_divInt_den q]
  rw [Rat.divInt_sub_divInt _ _ (den_ne p) (den_ne q)]
theorem mul_eq (p q : Rat) : p * q = Rat.divInt (p.num * q.num) (p.den * q.den) := by
  conv => lhs; rw [← Rat.num_divInt_den p, ← Rat.num_divInt_den q]
  rw [Rat.divInt_mul_divInt]
theorem num_ne {q : Rat} (h : q ≠ 0) : q.num ≠ 0 := fun e => h (by rwa [Rat.num_eq_zero] at e)
theorem div_eq (p q : Rat) : p / q = Rat.divInt (p.num * q.den) (p.den * q.num) := by
  conv => lhs; rw [← Rat.num_divInt_den p, ← Rat.num_divInt_den q]
  rw [Rat.div_def, Rat.inv_divInt, Rat.divInt_mul_divInt]
theorem lt_eq (p q : Rat) : p < q ↔ p.num * q.den < q.num * p.den := Rat.lt_iff p q
theorem bd_mul {p q : Rat} {n m : Nat} (hp : Bd n p) (hq : Bd m q) : Bd (n + m) (p * q) := by
  rw [mul_eq]
  refine bd_divInt (Int.mul_ne_zero (den_ne p) (den_ne q)) (mul_lt2 hp.1 hq.1) (mul_lt2 ?_ ?_)
  · simpa using hp.2
  · simpa using hq.2
theorem bd_top {p q : Rat} {n m : Nat} (hp : Bd n p) (hq : Bd m q) : (p.num * q.den).natAbs < 2 ^ (n + m) := mul_lt2 hp.1 (by simpa using hq.2)
theorem bd_bot {p q : Rat} {n m : Nat} (hp : Bd n p) (hq : Bd m q) : ((p.den : Int) * q.den).natAbs < 2 ^ (n + m) := mul_lt2 (by simpa using hp.2) (by simpa using hq.2)
theorem bd_add {p q : Rat} {n m : Nat} (hp : Bd n p) (hq : Bd m q) : Bd (n + m + 1) (p + q) := by
  rw [add_eq]
  have h1 := bd_top hp hq
  have h2 := bd_top hq hp
  have h3 := bd_bot hp hq
  have e : m + n = n + m := Nat.add_comm _ _
  rw [e] at h2
  refine bd_divInt (Int.mul_ne_zero (den_ne p) (den_ne q)) ?_ ?_ <;> rw [Nat.pow_succ] <;> omega
theorem bd_sub {p q : Rat} {n m : Nat} (hp : Bd n p) (hq : Bd m q) : Bd (n + m + 1) (p - q) := by
  rw [sub_eq]
  have h1 := bd_top hp hq
  have h2 := bd_top hq hp
  have h3 := bd_bot hp hq
  have e : m + n = n + m := Nat.add_comm _ _
  rw [e] at h2
  refine bd_divInt (Int.mul_ne_zero (den_ne p) (den_ne q)) ?_ ?_ <;> rw [Nat.pow_succ] <;> omega
theorem bd_div {p q : Rat} {n m : Nat} (hp : Bd n p) (hq : Bd m q) (h : q ≠ 0) : Bd (n + m) (p / q) := by
  rw [div_eq]
  exact bd_divInt (Int.mul_ne_zero (den_ne p) (num_ne h)) (bd_top hp hq) (mul_lt2 (by simpa using hp.2) hq.1)
theorem bd_neg {p : Rat} {n : Nat} (h : Bd n p) : Bd n (-p) := by
  refine ⟨?_, ?_⟩
  · rw [Rat.neg_num, Int.natAbs_neg]; exact h.1
  · rw [Rat.neg_den]; exact h.2
/-- a pair in lowest terms is the part of its worth -/
theorem part_of (a : Int) (b : Int) (hb : 0 < b) (hc : Int.gcd a b = 1) : (Rat.divInt a b).num = a ∧ ((Rat.divInt a b).den : Int) = b := by
  rw [num_pos hb, den_pos hb, hc]
  exact ⟨by simp, by simp⟩
theorem gcd_num_den (q : Rat) : Int.gcd q.num q.den = 1 := by
  have := q.reduced
  simpa [Int.gcd, Nat.Coprime] using this
end Pm

namespace Pm
open PySem PySem.Spec PyProof.Rows L2
/-! ### data that may be shown and compared: how deep, how long -/
theorem list_len (ts : List Str) : (listText ts).length ≤ piled ts + 2 := by
  cases ts with
  | nil => decide
  | cons t r =>
    have h := textFrom_length_pos r 1 (("[" : Str) ++ (if (0 : Nat) > 0 then ", " else "" : String) ++ t) (Nat.succ_pos 0)
    have e : (("[" : Str) ++ (if (0 : Nat) > 0 then ", " else "" : String) ++ t).length = 1 + t.length := by
      rw [strLen_append, strLen_append]
      rfl
    have q : (listText (t :: r)).length = (textFrom 1 (("[" : Str) ++ (if (0 : Nat) > 0 then ", " else "" : String) ++ t) r).length + 1 := by
      show (textFrom 1 _ r ++ _).length = _
      rw [strLen_append]
      rfl
    rw [q, h, e, piled_cons]
    omega
theorem tup_len (ts : List Str) : (tupleText ts).length ≤ piled ts + 3 := by
  have e3 : (((if ts.length == 1 then ",)" else ")" : String) : Str)).length ≤ 2 := by split <;> decide
  unfold tupleText
  rw [strLen_append, strLen_append]
  have e1 : ((("(" : String) : Str)).length = 1 := rfl
  rw [e1]
  by_cases h : ts = []
  · subst h
    have : (Str.join ", " ([] : List Str)).length = 0 := rfl
    omega
  · have := join_length_add ts h
    omega
structure Ok (n m : Nat) (d : PyData) : Prop where
  sh : d.showable = true
  cl : d.canLay0 = true
  dp : d.depth ≤ n
  ln : d.shown.length ≤ m
structure OkAll (n m : Nat) (ds : List PyData) : Prop where
  sh : PyData.showableAll ds = true
  cl : PyData.canLayAll0 ds = true
  dp : PyData.depthAll ds ≤ n
  ln : ∀ t ∈ PyData.shownAll ds, t.length ≤ m
theorem Ok.mono {n m n' m' : Nat} {d : PyData} (h : Ok n m d) (a : n ≤ n') (b : m ≤ m') : Ok n' m' d := ⟨h.sh, h.cl, Nat.le_trans h.dp a, Nat.le_trans h.ln b⟩
theorem OkAll.nil {n m : Nat} : OkAll n m [] := ⟨by simp only [PyData.showableAll], by simp only [PyData.canLayAll0], by simp only [PyData.depthAll]; omega, by simp [PyData.shownAll]⟩
theorem OkAll.cons {n m : Nat} {d : PyData} {ds : List PyData} (h : Ok n m d) (r : OkAll n m ds) : OkAll n m (d :: ds) := by
  refine ⟨?_, ?_, ?_, ?_⟩
  · simp only [PyData.showableAll, h.sh, r.sh, Bool.and_self]
  · simp only [PyData.canLayAll0, h.cl, r.cl, Bool.and_self]
  · have a := h.dp
    have b := r.dp
    simp only [PyData.depthAll]
    omega
  · simp only [PyData.shownAll]
    intro t ht
    rcases List.mem_cons.mp ht with e | ht
    · rw [e]; exact h.ln
    · exact r.ln t ht
theorem shownAll_len : ∀ ds : List PyData, (PyData.shownAll ds).length = ds.length
  | [] => by simp only [PyData.shownAll, List.length_nil]
  | d :: ds => by simp only [PyData.shownAll, List.length_cons, shownAll_len ds]
theorem piled_le {m : Nat} : ∀ ts : List Str, (∀ t ∈ ts, t.length ≤ m) → piled ts ≤ ts.length * (m + 2)
  | [], _ => by simp [piled_nil]
  | t :: r, h => by
    have a := h t (List.mem_cons_self ..)
    have b := piled_le r fun u hu => h u (List.mem_cons_of_mem _ hu)
    rw [piled_cons, List.length_cons, Nat.add_mul]
    omega
theorem Ok.int {i : Int} (h : i.natAbs < 2 ^ 1919) : Ok 0 1921 (.int i) := by
  have hl : i.natAbs.log2 < 1920 := Nat.lt_of_lt_of_le (PySem.Flt.log2_lt_of (by decide) h) (by decide)
  refine ⟨by simp only [PyData.showable, hl, decide_true], by simp only [PyData.canLay0], by simp only [PyData.depth]; omega, ?_⟩
  have e := int_text_length_le (a := i) (k := 1920) (by decide) hl
  simp only [PyData.shown]
  rw [PySem.ofString_length]
  omega
theorem Ok.bool (b : Bool) : Ok 0 5 (.bool b) := ⟨by simp only [PyData.showable], by simp only [PyData.canLay0], by simp only [PyData.depth]; omega, by cases b <;> simp only [PyData.shown] <;> decide⟩
theorem Ok.none : Ok 0 4 .none := ⟨by simp only [PyData.showable], by simp only [PyData.canLay0], by simp only [PyData.depth]; omega, by simp only [PyData.shown]; decide⟩
theorem Ok.tup {n m k : Nat} {ds : List PyData} (h : OkAll n m ds) (hk : ds.length ≤ k) : Ok (n + 1) (k * (m + 2) + 3) (.tuple ds) := by
  refine ⟨by simpa only [PyData.showable] using h.sh, by simpa only [PyData.canLay0] using h.cl, by simp only [PyData.depth]; have := h.dp; omega, ?_⟩
  simp only [PyData.shown]
  have a := tup_len (PyData.shownAll ds)
  have b := piled_le _ h.ln
  rw [shownAll_len] at b
  have c : ds.length * (m + 2) ≤ k * (m + 2) := Nat.mul_le_mul_right _ hk
  omega
theorem Ok.lst {n m k : Nat} {ds : List PyData} (h : OkAll n m ds) (hk : ds.length ≤ k) : Ok (n + 1) (k * (m + 2) + 3) (.list ds) := by
  refine ⟨by simpa only [PyData.showable] using h.sh, by simpa only [PyData.canLay0] using h.cl, by simp only [PyData.depth]; have := h.dp; omega, ?_⟩
  simp only [PyData.shown]
  have a := list_len (PyData.shownAll ds)
  have b := piled_le _ h.ln
  rw [shownAll_len] at b
  have c : ds.length * (m + 2) ≤ k * (m + 2) := Nat.mul_le_mul_right _ hk
  omega
theorem Ok.shaped {n m : Nat} {d : PyData} (h : Ok n m d) (hn : n ≤ 60) : SeqAt.shaped d = true := by
  unfold SeqAt.shaped
  rw [h.cl, decide_eq_true (show d.depth ≤ 64 by have := h.dp; omega)] <;> rfl
theorem Ok.noDict {n m : Nat} {d : PyData} (h : Ok n m d) : d.hasDict = false := PyData.hasDict_of_canLay d h.cl
/-! shape alone -/
structure Sh (n : Nat) (d : PyData) : Prop where
  cl : d.canLay0 = true
  dp : d.depth ≤ n
structure ShAll (n : Nat) (ds : List PyData) : Prop where
  cl : PyData.canLayAll0 ds = true
  dp : PyData.depthAll ds ≤ n
theorem Sh.int {n : Nat} (i : Int) : Sh n (.int i) := ⟨by simp only [PyData.canLay0], by simp only [PyData.depth]; omega⟩
theorem Sh.bool {n : Nat} (b : Bool) : Sh n (.bool b) := ⟨by simp only [PyData.canLay0], by simp only [PyData.depth]; omega⟩
theorem Sh.none {n : Nat} : Sh n .none := ⟨by simp only [PyData.canLay0], by simp only [PyData.depth]; omega⟩
theorem ShAll.nil {n : Nat} : ShAll n [] := ⟨by simp only [PyData.canLayAll0], by simp only [PyData.depthAll]; omega⟩
theorem ShAll.cons {n : Nat} {d : PyData} {ds : List PyData} (h : Sh n d) (r : ShAll n ds) : ShAll n (d :: ds) :=
  ⟨by simp only [PyData.canLayAll0, h.cl, r.cl, Bool.and_self], by have a := h.dp; have b := r.dp; simp only [PyData.depthAll]; omega⟩
theorem Sh.tup {n : Nat} {ds : List PyData} (h : ShAll n ds) : Sh (n + 1) (.tuple ds) := ⟨by simpa only [PyData.canLay0] using h.cl, by simp only [PyData.depth]; have := h.dp; omega⟩
theorem Sh.lst {n : Nat} {ds : List PyData} (h : ShAll n ds) : Sh (n + 1) (.list ds) := ⟨by simpa only [PyData.canLay0] using h.cl, by simp only [PyData.depth]; have := h.dp; omega⟩
theorem Sh.shaped {n : Nat} {d : PyData} (h : Sh n d) (hn : n ≤ 60) : SeqAt.shaped d = true := by
  unfold SeqAt.shaped
  rw [h.cl, decide_eq_true (show d.depth ≤ 64 by have := h.dp; omega)] <;> rfl
theorem ShAll.ints {n : Nat} : ∀ ns : List Int, ShAll n (ns.map PyData.int)
  | [] => .nil
  | i :: r => .cons (.int i) (ShAll.ints r)
theorem Bd.n {n : Nat} {q : Rat} (h : Bd n q) : q.num.natAbs < 2 ^ n := h.1
theorem Bd.d {n : Nat} {q : Rat} (h : Bd n q) : ((q.den : Nat) : Int).natAbs < 2 ^ n := by simpa using h.2
/-! data that the heap bears -/
section
variable {K : PySem.W.Frag} {H H' : Hp}
theorem dp_ints : ∀ ns : List Int, DpAll K H (ns.map V.int) (ns.map PyData.int)
  | [] => .nil
  | i :: r => .cons (.int i) (dp_ints r)
theorem eqv_ints_nil (ns : List Int) : PyData.eqv (.list (ns.map PyData.int)) (.list []) = ns.isEmpty := by
  cases ns <;> simp [PyData.eqv, PyData.eqvAll]
/-- the datum of a part -/
def dP (q : Rat) : PyData := .tuple [.int q.num, .int (q.den : Int)]
theorem dp_P {p : Addr} {q : Rat} (h : Tp K H p [.int q.num, .int (q.den : Int)]) : Dp K H (.ref p) (dP q) := .tup h.sq (.cons (.int _) (.cons (.int _) .nil))
theorem sh_P {n : Nat} (q : Rat) : Sh (n + 1) (dP q) := .tup (.cons (.int _) (.cons (.int _) .nil))
theorem ok_P {q : Rat} (h : Bd 1919 q) : Ok 1 4000 (dP q) := (Ok.tup (k := 2) (.cons (.int h.1) (.cons (.int (Bd.d h)) .nil)) (Nat.le_refl 2)).mono (by decide) (by decide)
theorem eqv_P (p q : Rat) : PyData.eqv (dP p) (dP q) = decide (p = q) := by
  have e : (p.num = q.num ∧ ((p.den : Nat) : Int) = (q.den : Int)) ↔ p = q := ⟨fun ⟨a, b⟩ => Rat.ext a (by exact_mod_cast b), fun e => by rw [e]; exact ⟨rfl, rfl⟩⟩
  simp only [dP, PyData.eqv, PyData.eqvAll, Bool.and_true]
  rw [Bool.eq_iff_iff, decide_eq_true_iff, ← e]
  simp
end
end Pm

namespace Pm
open PySem PySem.Spec PyProof.Rows L2
section
variable {K : PySem.W.Frag} {σ : L2.St} {H : Hp} {Q : VK} {te to ti : TE} {tt : TT} {ts : TS} {D : Ends} {v x y : V} {g : TG} {tA : TA} {tl th : TO} {vs : List Nat}
/-! slices -/
theorem i_sl {r : V → Option Int → Option Int → Hp → VK → Prop} (h : te σ H fun x H1 => tl σ H1 fun l H2 => th σ H2 fun u H3 => r x l u H3 Q) : tSl r te tl th σ H Q := h
theorem i_no {QO : Option Int → Hp → Prop} (h : QO none H) : tNoPart σ H QO := h
theorem i_so {QO : Option Int → Hp → Prop} (h : te σ H fun x H1 => ∃ i, x = .int i ∧ QO (some i) H1) : tPart te σ H QO := h
theorem i_exI {R : Int → Prop} {i : Int} (h : R i) : ∃ j, V.int i = .int j ∧ R j := ⟨i, rfl, h⟩
theorem i_exB {R : Bool → Prop} {i : Bool} (h : R i) : ∃ j, V.bl i = .bl j ∧ R j := ⟨i, rfl, h⟩
theorem i_slL {p : Addr} {xs : List V} {lo hi : Option Int} (h1 : SqL K H p xs) (h : ∀ a H', New H a → Same H H' → H' a = some (.lst (cutV xs lo hi)) → Q (.ref a) H') : rSlL K (.ref p) lo hi H Q := ⟨p, xs, rfl, h1, i_new h⟩
theorem cut_all {xs : List V} {n : Nat} (h : xs.length ≤ n) : cutV xs none (some (n : Int)) = xs := by
  unfold cutV
  rw [show HT.sIx xs.length xs.length (some (n : Int)) = min n xs.length from HT.sIx_nat _ _ _, HT.sIx_none]
  rw [Nat.min_eq_right h]
  simp
theorem cut63 {xs : List V} (h : xs.length ≤ 63) : cutV xs none (some 63) = xs := cut_all (n := 63) h
/-! for a, b in enumerate(list) -/
theorem i_iE {R : It → Hp → Prop} (h : tA σ H fun vs H1 => ∃ a xs, vs = [.ref a] ∧ SqL K H1 a xs ∧ R (Ite K a) H1) : iEnum K tA σ H R := h
theorem i_itE {R : Addr → Prop} {a : Addr} {xs : List V} (h1 : SqL K H a xs) (h : R a) : ∃ b ys, [V.ref a] = [.ref b] ∧ SqL K H b ys ∧ R b := ⟨a, xs, rfl, h1, h⟩
theorem i_forE {a : Addr} {xs : List V} (I : Nat → L2.St → Hp → Prop) (h0 : I 0 σ H) (hl : ∀ i σ H, i ≤ xs.length → I i σ H → SqL K H a xs)
    (hs : ∀ i x σ' H0 T H', xs[i]? = some x → I i σ' H0 → New H0 T → Same H0 H' → H' T = some (.tup [.int (i : Nat), x]) → g (.ref T) σ' H' fun σ2 H2 => ts { D with nx := I (i + 1), ct := I (i + 1), bk := D.nx } σ2 H2)
    (hd : ∀ σ' H', I xs.length σ' H' → D.nx σ' H') : ForI (Ite K a) g ts D σ H := by
  refine ⟨fun i m σ H => m = xs.length - i ∧ i ≤ xs.length ∧ I i σ H, ⟨_, rfl, Nat.zero_le _, h0⟩, ?_⟩
  rintro i m σ' H' ⟨rfl, hi, hI⟩
  have hL := hl i σ' H' hi hI
  by_cases c : i < xs.length
  · refine .inr ⟨⟨xs, xs[i], hL, List.getElem?_eq_getElem c⟩, fun σ2 H2 => I (i + 1) σ2 H2, fun σ2 H2 h2 => ⟨xs.length - (i + 1), by omega, rfl, by omega, h2⟩, ?_⟩
    rintro x H2 ⟨T, x', rfl, nT, rfl, hx⟩
    exact hs i x' σ' H' T _ (hx xs hL) hI nT (same_new nT) upd_same
  · have e : i = xs.length := by omega
    subst e
    exact .inl ⟨⟨xs, hL, Nat.le_refl _⟩, hd σ' H' hI⟩
/-! unpacking a tuple -/
theorem i_gtup {n : Nat} {t : TGs} {N : L2.St → Hp → Prop} {p : Addr} {xs : List V} (h1 : Tp K H p xs) (hl : xs.length = n) (h : t xs σ H N) : gTup K n t (.ref p) σ H N := ⟨p, xs, rfl, h1.sq, hl, h⟩
theorem i_gcons {t : TG} {u : TGs} {N : L2.St → Hp → Prop} {r : List V} (h : t v σ H fun σ' H' => u r σ' H' N) : gCons t u (v :: r) σ H N := ⟨v, r, rfl, h⟩
theorem i_gnil {N : L2.St → Hp → Prop} (h : N σ H) : gNil [] σ H N := ⟨rfl, h⟩
/-! comprehensions -/
/-- what a comprehension asks once what it walks is known -/
def LcI (J : It) (g : TG) (tt : TT) (te : TE) (vs : List Nat) (Q : VK) (σ : L2.St) (H : Hp) : Prop := ∀ A, H A = none → ∃ W : Nat → Nat → Hp → Prop, (∃ m, W 0 m (upd H A (.lst []))) ∧ ∀ i m H, W i m H →
  (J.stop i H ∧ Q (.ref A) H) ∨ (J.go i H ∧ ∃ Nx : Hp → Prop, (∀ H', Nx H' → ∃ m', m' < m ∧ W (i + 1) m' H') ∧ ∀ x H', J.yld i H x H' → g x (wipe σ vs) H' fun σ2 H2 => wipe σ2 vs = wipe σ vs ∧ tt σ2 H2 fun b H3 =>
    if b = true then te σ2 H3 fun y H4 => ∃ acc, H4 A = some (.lst acc) ∧ acc.length < sizeLine ∧ Nx (upd H4 A (.lst (acc ++ [y]))) else Nx H3)
theorem i_lc {wi : TI} (h : wi σ H fun J H1 => LcI J g tt te vs Q σ H1) : tLc wi g tt te vs σ H Q := h
/-- behind a turn: what stood stands, the new list holds ys -/
structure LcP (A : Addr) (H0 : Hp) (ys : List V) (H' : Hp) : Prop where
  same : Same H0 H'
  list : H' A = some (.lst ys)
/-- the element is put to the list -/
def LcY (A : Addr) (H0 : Hp) (ys : List V) (y : V) (H4 : Hp) : Prop := ∃ acc, H4 A = some (.lst acc) ∧ acc.length < sizeLine ∧ LcP A H0 ys (upd H4 A (.lst (acc ++ [y])))
theorem lc_yes {A : Addr} {H0 H4 : Hp} {acc ys : List V} {y : V} (hn : New H0 A) (h : H4 A = some (.lst acc)) (e : ys = acc ++ [y]) (hl : acc.length ≤ 100000) (s : Same H0 H4) : LcY A H0 ys y H4 := by
  subst e
  exact ⟨acc, h, Nat.lt_of_le_of_lt hl (by decide), fun b o z => by rw [upd_ne (ne_of_none z hn)]; exact s b o z, upd_same⟩
theorem lc_no {A : Addr} {H0 H4 : Hp} {acc ys : List V} (h : H4 A = some (.lst acc)) (e : ys = acc) (s : Same H0 H4) : LcP A H0 ys H4 := by
  subst e
  exact ⟨s, h⟩
theorem i_lcL {a : Addr} {xs : List V} (h1 : SqL K H a xs) (out : Nat → List V) (h0 : out 0 = [])
    (hs : ∀ A i x H', New H A → xs[i]? = some x → i < xs.length → Same H H' → H' A = some (.lst (out i)) → g x (wipe σ vs) H' fun σ2 H2 => wipe σ2 vs = wipe σ vs ∧ tt σ2 H2 fun b H3 =>
      if b = true then te σ2 H3 fun y H4 => LcY A H (out (i + 1)) y H4 else LcP A H (out (i + 1)) H3)
    (h : ∀ A H', New H A → Same H H' → H' A = some (.lst (out xs.length)) → Q (.ref A) H') : LcI (Itl K a) g tt te vs Q σ H := by
  intro A hA
  refine lc_list (a := a) (xs := xs) (fun i H' => LcP A H (out i) H') ⟨same_new hA, by rw [h0]; exact upd_same⟩ (fun i H' _ p => b_L p.same h1) (fun i x H' hx p => ?_) fun H' p => h A H' hA p.same p.list
  exact hs A i x H' hA hx (List.getElem?_eq_some_iff.mp hx).1 p.same p.list
theorem i_lcT {a : Addr} {xs : List V} (h1 : Tp K H a xs) (out : Nat → List V) (h0 : out 0 = [])
    (hs : ∀ A i x H', New H A → xs[i]? = some x → i < xs.length → Same H H' → H' A = some (.lst (out i)) → g x (wipe σ vs) H' fun σ2 H2 => wipe σ2 vs = wipe σ vs ∧ tt σ2 H2 fun b H3 =>
      if b = true then te σ2 H3 fun y H4 => LcY A H (out (i + 1)) y H4 else LcP A H (out (i + 1)) H3)
    (h : ∀ A H', New H A → Same H H' → H' A = some (.lst (out xs.length)) → Q (.ref A) H') : LcI (Itt K a) g tt te vs Q σ H := by
  intro A hA
  refine lc_tup (a := a) (xs := xs) (fun i H' => LcP A H (out i) H') ⟨same_new hA, by rw [h0]; exact upd_same⟩ (fun i H' _ p => (Tp.mono p.same h1).sq) (fun i x H' hx p => ?_) fun H' p => h A H' hA p.same p.list
  exact hs A i x H' hA hx (List.getElem?_eq_some_iff.mp hx).1 p.same p.list
theorem i_lcR {lo : Int} {n : Nat} (out : Nat → List V) (h0 : out 0 = [])
    (hs : ∀ A i H', New H A → i < n → Same H H' → H' A = some (.lst (out i)) → g (.int (lo + i)) (wipe σ vs) H' fun σ2 H2 => wipe σ2 vs = wipe σ vs ∧ tt σ2 H2 fun b H3 =>
      if b = true then te σ2 H3 fun y H4 => LcY A H (out (i + 1)) y H4 else LcP A H (out (i + 1)) H3)
    (h : ∀ A H', New H A → Same H H' → H' A = some (.lst (out n)) → Q (.ref A) H') : LcI (Itr lo n) g tt te vs Q σ H := by
  intro A hA
  refine lc_range (fun i H' => LcP A H (out i) H') ⟨same_new hA, by rw [h0]; exact upd_same⟩ (fun i H' hi p => ?_) fun H' p => h A H' hA p.same p.list
  exact hs A i H' hA hi p.same p.list
theorem i_yes {QB : Bool → Hp → Prop} (h : QB true H) : tYes σ H QB := h
/-! powers that are written -/
theorem i_pow {a b c : Int} (hc : CPow a b) (e : a ^ b.toNat = c) (h : Q (.int c) H) : rI CPow (fun i j => V.int (i ^ j.toNat)) (.int a) (.int b) H Q := ⟨a, b, rfl, rfl, hc, by show Q (.int (a ^ b.toNat)) H; rw [e]; exact h⟩
theorem i_pow6 (h : Q (.int 1000000) H) : rI CPow (fun i j => V.int (i ^ j.toNat)) (.int 10) (.int 6) H Q := i_pow ⟨by decide, by decide, by decide⟩ (by decide) h
theorem i_pow18 (h : Q (.int 1000000000000000000) H) : rI CPow (fun i j => V.int (i ^ j.toNat)) (.int 10) (.int 18) H Q := i_pow ⟨by decide, by decide, by decide⟩ (by decide) h
theorem i_pow30 (h : Q (.int 1000000000000000000000000000000) H) : rI CPow (fun i j => V.int (i ^ j.toNat)) (.int 10) (.int 30) H Q := i_pow ⟨by decide, by decide, by decide⟩ (by decide) h
/-- the numbers that a comprehension with a test keeps -/
def kept (f : Int → Int) (p : Int → Bool) (ns : List Int) (i : Nat) : List V := (((ns.take i).map f).filter p).map V.int
theorem kept_yes {f : Int → Int} {p : Int → Bool} {ns : List Int} {i : Nat} {c : Int} (h : ns[i]? = some c) (hp : p (f c) = true) : kept f p ns (i + 1) = kept f p ns i ++ [V.int (f c)] := by
  unfold kept
  rw [List.take_add_one, h]
  simp [hp]
theorem kept_no {f : Int → Int} {p : Int → Bool} {ns : List Int} {i : Nat} {c : Int} (h : ns[i]? = some c) (hp : p (f c) = false) : kept f p ns (i + 1) = kept f p ns i := by
  unfold kept
  rw [List.take_add_one, h]
  simp [hp]
theorem kept_len (f : Int → Int) (p : Int → Bool) (ns : List Int) (i : Nat) : (kept f p ns i).length ≤ ns.length := by
  unfold kept
  rw [List.length_map]
  refine Nat.le_trans (List.length_filter_le _ _) ?_
  rw [List.length_map, List.length_take]
  exact Nat.min_le_right _ _
theorem i_powV {a b : Int} (hc : CPow a b) (h : ∀ c : Int, c = a ^ b.toNat → Q (.int c) H) : rI CPow (fun i j => V.int (i ^ j.toNat)) (.int a) (.int b) H Q := ⟨a, b, rfl, rfl, hc, h _ rfl⟩
/-- x % m, m above 0 -/
theorem i_mod {a m : Int} (hm : 0 < m) (h : ∀ d : Int, 0 ≤ d → d < m → d = a % m → Q (.int d) H) : rI (fun _ j => j ≠ 0) (fun i j => V.int (i.fmod j)) (.int a) (.int m) H Q :=
  i_I (show m ≠ 0 by omega) (by
    have e : a.fmod m = a % m := Int.fmod_eq_emod_of_nonneg a (by omega)
    rw [e]
    exact h _ (Int.emod_nonneg _ (by omega)) (Int.emod_lt_of_pos _ hm) rfl)
theorem at_ints {ns : List Int} {j : Int} (h0 : 0 ≤ j) (h1 : j < ns.length) : ∃ c, c ∈ ns ∧ atI (ns.map V.int) j = some (.int c) := by
  obtain ⟨k, rfl⟩ : ∃ k : Nat, j = k := ⟨j.toNat, by omega⟩
  have hk : k < ns.length := by omega
  exact ⟨ns[k], List.getElem_mem hk, atI_nat (by rw [List.getElem?_map, List.getElem?_eq_getElem hk]; rfl)⟩
/-- an item of a list of numbers at a place that isn't written -/
theorem i_ixN {p : Addr} {xs : List V} {ns : List Int} {j : Int} (h1 : SqL K H p xs) (e : xs = ns.map V.int) (h0 : 0 ≤ j) (h2 : j < ns.length) (h : ∀ c : Int, c ∈ ns → Q (.int c) H) : rIx K (.ref p) (.int j) H Q := by
  obtain ⟨c, hc, ha⟩ := at_ints h0 h2
  subst e
  exact i_ixL h1 ha (h c hc)
/-- the ways of a statement meet again -/
theorem i_cut (Ex : L2.St → Hp → Prop) (h : ∀ N : L2.St → Hp → Prop, (∀ σ H, Ex σ H → N σ H) → ts { D with nx := N } σ H) (k : ∀ σ H, Ex σ H → D.nx σ H) : ts D σ H := h D.nx k
theorem i_cutE (Ex : V → Hp → Prop) (h : ∀ Q' : VK, (∀ v H, Ex v H → Q' v H) → te σ H Q') (k : ∀ v H, Ex v H → Q v H) : te σ H Q := h Q k
theorem ixN_at {n j : Nat} (hj : j < n) : ixN n (j : Int) = some j := by
  unfold ixN
  rw [if_pos (by omega), if_pos (by omega)]
  simp
/-- a list of numbers, item by item -/
inductive IntL : List V → List Int → Prop
  | nil : IntL [] []
  | cons {a : Int} {xs : List V} {ns : List Int} : IntL xs ns → IntL (.int a :: xs) (a :: ns)
theorem IntL.eq {xs : List V} {ns : List Int} (h : IntL xs ns) : xs = ns.map V.int := by
  induction h with
  | nil => rfl
  | cons _ ih => rw [ih]; rfl
theorem i_ixM {p : Addr} {xs : List V} {ns : List Int} {j : Int} (h1 : SqL K H p xs) (e : IntL xs ns) (h0 : 0 ≤ j) (h2 : j < ns.length) (h : ∀ c : Int, c ∈ ns → Q (.int c) H) : rIx K (.ref p) (.int j) H Q := i_ixN h1 e.eq h0 h2 h
/-! methods of lists, items stored -/
theorem i_bm {T : String} {r : V → List V → Hp → VK → Prop} (h : to σ H fun x H1 => tyV K T x H1 ∧ tA σ H1 fun xs H2 => r x xs H2 Q) : tBM K T r to tA σ H Q := h
theorem i_bmL {r : V → List V → Hp → VK → Prop} {p : Addr} {xs : List V} (h1 : H p = some (.lst xs)) (h : tA σ H fun ys H2 => r (.ref p) ys H2 Q) : tyV K "list" (.ref p) H ∧ tA σ H fun ys H2 => r (.ref p) ys H2 Q := ⟨.inl ⟨rfl, xs, SqL.of h1⟩, h⟩
theorem i_append {p : Addr} {xs : List V} (h1 : H p = some (.lst xs)) (hl : xs.length ≤ 100000) (h : ∀ H', Fx p p H H' → H' p = some (.lst (xs ++ [v])) → Q .non H') : rAppend (.ref p) [v] H Q :=
  ⟨p, xs, v, rfl, rfl, h1, Nat.lt_of_le_of_lt hl (by decide), h _ (fx_upd h1) upd_same⟩
theorem i_pop0 {p : Addr} {z : V} {xs : List V} (h1 : H p = some (.lst (z :: xs))) (h : Q z (upd H p (.lst xs))) : rPopAt (.ref p) [.int 0] H Q :=
  ⟨p, z :: xs, 0, 0, z, rfl, rfl, h1, by decide, by decide, seqIndex_of (by decide) (by rw [List.length_cons]; omega), rfl, h⟩
theorem i_gsub {to ti : TE} {s : TSet} {N : L2.St → Hp → Prop} (h : to σ H fun o H1 => ti σ H1 fun i H2 => s o i v H2 fun H3 => N σ H3) : gSub to ti s v σ H N := h
theorem i_setL {p : Addr} {xs : List V} {k : Int} {j : Nat} {NH : Hp → Prop} (h1 : H p = some (.lst xs)) (e : ixN xs.length k = some j) (h : NH (upd H p (.lst (xs.set j v)))) : rSetL (.ref p) (.int k) v H NH := ⟨p, xs, k, j, rfl, rfl, h1, e, h⟩
end
end Pm

namespace Pm
open PySem PySem.Spec PyProof.Rows L2
/-! ### an exception that was caught, kept by a name -/
/-- the exception of class cls (its own dict at d) stands at a -/
def exHO (cls : Value) (d : Option Addr) (a : Addr) : HO := .ext fun h => ∃ (oe : Obj) (vs : Array Value), h.get? a = some oe ∧ Zc cls d oe ∧ oe.data = .fields vs
section
variable {X : Cx} {pins : List (Addr × Obj)} {σ : L2.St} {H : Hp} {s : Shared}
/-- an object that is nobody's is tracked from here on -/
theorem track {a : Addr} {o : HO} {oe : Obj} {vs : Array Value} (I : Inv X ((a, oe) :: pins) σ H s) (new : X.s_0.heap.get? a = none) (other : ∀ p ∈ X.pn ++ pins, p.1 ≠ a) (hd : oe.data = .fields vs)
    (ob : ObjOk X.prog X.w (upd H a o) s.heap a o) : Inv X pins σ (upd H a o) s := by
  obtain ⟨ha, na, nL, nF, _⟩ := I.pin (a, oe) (List.mem_append_right _ (List.mem_cons_self ..))
  have ne : ∀ b u, H b = some u → b ≠ a := fun b u q z => by
    subst z
    rw [na] at q
    cases q
  have old : ∀ b u, X.s_0.heap.get? b = some u → b ≠ a := fun b u q z => by
    subst z
    rw [new] at q
    cases q
  have B := I.base
  exact {
    ok := I.ok, os := I.os, bare := I.bare, loc := I.loc, cell := I.cell, len := I.len
    base := { keep := B.keep, slot := B.slot, there := B.there
              free := fun b u q n x => by rw [upd_ne (old b u q)]; exact B.free b u q n x
              tups := fun b xs q => by rw [upd_ne (ne _ _ (B.tups b xs q))]; exact B.tups b xs q
              frzs := fun b u xs q => by rw [upd_ne (ne _ _ (B.frzs b u xs q))]; exact B.frzs b u xs q
              tbls := fun b ps q => by
                obtain ⟨m, z⟩ := B.tbls b ps q
                exact ⟨m, by rw [upd_ne (ne _ _ z)]; exact z⟩ }
    free := by rw [upd_ne (Ne.symm nL)]; exact I.free
    freeC := fun x c q => by
      have hc : c ≠ a := fun z => by
        subst z
        obtain ⟨v, oc, e1, e2⟩ := I.cell x c q
        rw [ha] at e1
        injection e1 with e1
        rw [← e1, hd] at e2
        cases e2
      rw [upd_ne hc]
      exact I.freeC x c q
    pin := fun p hp => by
      have hp2 : p ∈ X.pn ++ (a, oe) :: pins := by
        rcases List.mem_append.mp hp with z | z
        · exact List.mem_append_left _ z
        · exact List.mem_append_right _ (List.mem_cons_of_mem _ z)
      obtain ⟨k1, k2, k3, k4, k5⟩ := I.pin p hp2
      exact ⟨k1, by rw [upd_ne (other p hp)]; exact k2, k3, k4, k5⟩
    hok := fun b u q => by
      by_cases hb : b = a
      · subst hb
        rw [upd_same] at q
        injection q with q
        subst q
        exact ob
      · rw [upd_ne hb] at q
        exact (I.hok b u q).stay (fun _ _ _ z => z) (fun c z => by rw [upd_ne (ne _ _ z)]; exact z) (fun c xs z => by rw [upd_ne (ne _ _ z)]; exact z) }
end
section
variable {X : Cx} {n : Str} {i : Nat} {body suite : List Stmt} {b1 : Stmt} {t : Expr} {T : Value → Prop} {pos pos' : Pos} {tb : WX → TS} {ts : Addr → Value → Option Addr → TS}
/-- a clause's test: it takes every exception whose class T tells; what stood in the heap stands -/
def TestOk (X : Cx) (t : Expr) (T : Value → Prop) : Prop := ∀ (a : Addr) (oe : Obj) (pn : List (Addr × Obj)) (σ : L2.St) (H : Hp) (s : Shared), Inv (X.suite a ((a, oe) :: pn)) [] σ H s → T oe.cls →
  ∀ (Q : Bool → Shared → Prop) (E : Value → Shared → Prop), (∀ h' tk, (∀ b o, s.heap.get? b = some o → h'.get? b = some o) → Q true { s with heap := h', toks := tk }) →
    wpAny (model X.prog X.w) (X.A.mark (some (.ref a))) (eval t X.env) (fun c s2 => wpAny (model X.prog X.w) (X.A.mark (some (.ref a))) (excMatches (.ref a) c) Q E s2) E s
theorem test_one {x : Str} {np : Pos} {c : Value} (hc : Names X x c) (hT : ∀ cls, T cls → PySem.W.exmOne X.K cls c = some true) : TestOk X (.Name x np) T := by
  intro a oe pn σ H s S hcl Q E hq
  obtain ⟨ha, _⟩ := S.pin (a, oe) (List.mem_append_left _ (List.mem_cons_self ..))
  have look : PySem.W.Looks (model X.prog X.w) s.heap (typeOf (.ref a)) oe.cls := fun A Q E s' k q => wpAny_typeOf_ref (k _ _ ha) q
  have fin : wpAny (model X.prog X.w) (X.A.mark (some (.ref a))) (excMatches (.ref a) c) Q E s := (PySem.W.exm_one S.kIn look (hT _ hcl)).here (hq s.heap s.toks fun _ _ z => z)
  obtain ⟨g, db, m | ⟨m, v, nn⟩⟩ := hc
  · exact ld_glob S g m fin db
  · exact ld_blt S g m v fin nn db
theorem fly_keep {B : Heap} {l : List Env} {a : Addr} {Z : Obj → Prop} {h h' : Heap} (k : ∀ b o, h.get? b = some o → h'.get? b = some o) (f : HandSPX.FlyingZ B l a Z h) : HandSPX.FlyingZ B l a Z h' := by
  obtain ⟨f1, f2, f3, oe, vs, T, oT, fs, e1, z, d, e2, nT, ne, e3, d3, fl⟩ := f
  exact ⟨fun b o q => k b o (f1 b o q), f2, f3.of_keeps fun b o q _ => ⟨o, k b o q, rfl⟩, oe, vs, T, oT, fs, k _ _ e1, z, d, e2, nT, ne, k _ _ e3, d3, fl⟩
/-- what the clause asks of an exception of the body: behind the suite the exception is tracked, its name empty -/
def wKeep (T : Value → Prop) (i : Nat) (ts : Addr → Value → Option Addr → TS) (D : Ends) : WX := fun cls d σ H => T cls ∧ ∀ a, New H a →
  ts a cls d { nx := fun σ' H' => D.nx (σ'.set i none) (upd H' a (exHO cls d a)), rt := fun v H' => D.rt v (upd H' a (exHO cls d a)), bk := fun σ' H' => D.bk (σ'.set i none) (upd H' a (exHO cls d a)), ct := fun σ' H' => D.ct (σ'.set i none) (upd H' a (exHO cls d a)) } (σ.set i (some (.ref a))) H
theorem ps_try_keep (hs : X.stack = X.env :: X.outer) (hf : X.env.frame = some X.env.locals) (hex : X.ex = []) (hN : X.N.Nodup) (hi : X.N[i]? = some n) (hn : X.env.kindOf n = some .local) (ht : TestOk X t T)
    (hb : ∀ (W : WX) (pn : List (Addr × Obj)) (xe : Value → Shared → Prop), Takes (X.tr pn xe) W → PassesOwn (model X.prog X.w) X.A X.env xe → PSs (X.tr pn xe) body (tb W))
    (hsu : ∀ (a : Addr) (oe : Obj) (cls : Value) (d : Option Addr) (pn : List (Addr × Obj)), PSs (X.suite a ((a, oe) :: pn)) (b1 :: suite) (ts a cls d)) :
    PS X (.Try body [.ExceptHandler (some t) (some n) (b1 :: suite) pos'] [] [] pos) (fun D σ H => tb (wKeep T i ts D) D σ H) := by
  constructor
  intro pins s σ H D I h
  have ok := I.ok
  have frames : X.A.frames = some (X.env :: X.outer) := ok.frames.trans (congrArg some hs)
  apply wpAny_Try_except
  have run := hb (wKeep T i ts D) (X.pn ++ pins) (fun e s1 => wpAny (model X.prog X.w) X.A (noteFrame e X.env) (fun _ s2 => wpAny (model X.prog X.w) X.A (setFlight e none)
    (fun _ s3 => wpAny (model X.prog X.w) X.A (handleBy e X.env [.ExceptHandler (some t) (some n) (b1 :: suite) pos']) (SP X pins D) X.xe s3) X.xe s2) X.xe s1)
  refine wpAny_mono ((run ?_ PassesOwn.looking).run [] s σ H D (I.toTry _) h) ?_ fun _ _ z => z
  · rintro u s1 ⟨a, B, sI, ps, σ1, H1, cls, d, rfl, J0, nb, up, sky, na, os, gens, hT, want⟩
    have J : Inv X pins σ1 H1 sI := J0.ofTry ok
    rw [hs] at sky
    refine Sky.land Zc.steady frames hf sky ?_
    intro h3 fl3 up3
    obtain ⟨oe3, vs3, at3, z3, dat3⟩ := fl3.there
    have J3 : Inv X pins σ1 H1 { s1 with heap := h3 } := J.landed nb fl3.1 (up.trans up3) os gens
    -- a is none of the frames
    have nofr : a ∉ frs (X.env :: X.outer) := by
      intro hm
      obtain ⟨_, o', e', q⟩ := fl3.2.2.1.mem hm
      rw [at3] at e'
      injection e' with e'
      subst e'
      exact q vs3 dat3
    have nL : a ≠ X.env.locals := fun z => nofr (List.mem_filterMap.mpr ⟨X.env, List.mem_cons_self .., by rw [hf, z]⟩)
    have nF : a ∉ X.fs := by
      intro hm
      obtain ⟨e, he, q⟩ := List.mem_filterMap.mp hm
      exact nofr (List.mem_filterMap.mpr ⟨e, List.mem_cons_of_mem _ he, q⟩)
    -- a is new since the exception's state
    have newI : sI.heap.get? a = none := by
      rcases q : sI.heap.get? a with _ | o
      · rfl
      · have z := nb a o q (by rw [hs]; exact nofr)
        rw [fl3.2.1] at z
        cases z
    have new0 : X.s_0.heap.get? a = none := by
      rcases q : X.s_0.heap.get? a with _ | o
      · rfl
      · obtain ⟨o', z⟩ := J.base.there a o q (by rw [hex]; simp)
        rw [newI] at z
        cases z
    have newP : ∀ p ∈ X.pn ++ pins, p.1 ≠ a := by
      intro p hp z
      obtain ⟨q, _⟩ := J.pin p hp
      rw [z, newI] at q
      cases q
    have S3 := J3.suite at3 dat3 na nL nF
    refine wpAny_handleBy_cons (codeAny_handlers_test ?_) (by intro q; cases q)
    refine ht a oe3 _ σ1 H1 _ S3 (by rw [z3.1]; exact hT) _ _ ?_
    intro h4 tk4 k4
    have fl4 := fly_keep k4 fl3
    apply codeAny_handlers_suite_as
    apply HandSPX.lands_againZ fl4
    intro h5 fl5 up5
    obtain ⟨oe5, vs5, at5, z5, dat5⟩ := fl5.there
    have up4 : h3.UpToSlots h4 := fun b o q _ => ⟨o.slots, k4 b o q⟩
    have J5 : Inv X pins σ1 H1 { s1 with heap := h5, toks := tk4 } := by
      have z := Inv.landed (s' := { s1 with heap := h5, toks := tk4 }) J nb fl5.1 (((up.trans up3).trans up4).trans up5) os gens
      exact z
    refine store_ok (X := X.suite a ((a, oe5) :: (X.pn ++ pins))) (v := .ref a) (J5.suite at5 dat5 na nL nF) hN hi (.inl hn) rfl ?_ (.inr hn)
    intro s6 S6
    refine wpAny_mono ((hsu a oe5 cls d (X.pn ++ pins)).run [] s6 _ H1 _ S6 (want a na)) ?_ fun _ _ z => False.elim z
    intro f s7 hsp
    have fin : ∀ {σ7 : L2.St} {H7 : Hp} {G : Shared → Prop}, Inv (X.suite a ((a, oe5) :: (X.pn ++ pins))) [] σ7 H7 s7 → (∀ s8, Inv X pins (σ7.set i none) (upd H7 a (exHO cls d a)) s8 → G s8) →
        wpAny (model X.prog X.w) X.A (do bindName X.env n .none; unbindBehindTheSuite X.env n pos') (fun _ s8 => G s8) X.xe s7 := by
      intro σ7 H7 G S7 hG
      have P7 : Inv X ((a, oe5) :: pins) σ7 H7 s7 := (S7.unsuite ok).pins_of fun p hp => by
        rcases List.mem_cons.mp hp with e | hp
        · rw [e]
          exact S7.pin (a, oe5) (List.mem_append_left _ (List.mem_cons_self ..))
        · exact S7.pin p (List.mem_append_left _ (List.mem_cons_of_mem _ (List.mem_append_right _ hp)))
      refine gone_ok P7 hN hi hn fun s8 J8 => hG s8 ?_
      obtain ⟨at8, _⟩ := J8.pin (a, oe5) (List.mem_append_right _ (List.mem_cons_self ..))
      exact track J8 new0 newP dat5 ⟨⟨oe5, vs5, at8, z5, dat5⟩, ⟨oe5, at8⟩, fun h1 h2 ⟨o, v, q, r⟩ k => ⟨o, v, k o q, r⟩⟩
    cases f with
    | next =>
      obtain ⟨σ7, H7, S7, q⟩ := hsp
      exact fin S7 fun s8 J8 => ⟨_, _, J8, q⟩
    | brk =>
      obtain ⟨σ7, H7, S7, q⟩ := hsp
      exact fin S7 fun s8 J8 => ⟨_, _, J8, q⟩
    | cont =>
      obtain ⟨σ7, H7, S7, q⟩ := hsp
      exact fin S7 fun s8 J8 => ⟨_, _, J8, q⟩
    | ret u =>
      obtain ⟨v, σ7, H7, S7, r, q⟩ := hsp
      exact fin S7 fun s8 J8 => ⟨v, _, _, J8, r, q⟩
  · intro f s1 hsp
    cases f with
    | next =>
      obtain ⟨σ1, H1, J, q⟩ := hsp
      exact wpAny_execs_nil ⟨σ1, H1, J.ofTry ok, q⟩
    | brk =>
      obtain ⟨σ1, H1, J, q⟩ := hsp
      exact ⟨σ1, H1, J.ofTry ok, q⟩
    | cont =>
      obtain ⟨σ1, H1, J, q⟩ := hsp
      exact ⟨σ1, H1, J.ofTry ok, q⟩
    | ret u =>
      obtain ⟨v, σ1, H1, J, r, q⟩ := hsp
      exact ⟨v, σ1, H1, J.ofTry ok, r, q⟩
end
end Pm

namespace Pm
open PySem PySem.Spec PyProof.Rows L2
/-! ### calls in a try's body -/
def tCallX (sp : Sp) (dvs : List V) (E : L2.St → XK) (t : TA) : TE := fun σ H Q => t σ H fun vs H1 => sp (vs ++ dvs) H1 Q (E σ)
def tCallNX (n m : Nat) (sp : Sp) (gV : List V → List V → List V) (E : L2.St → XK) (t tk : TA) : TE := fun σ H Q => t σ H fun vs H1 => tk σ H1 fun zs H2 => vs.length = n ∧ zs.length = m ∧ sp (gV vs zs) H2 Q (E σ)
section
variable {X : Cx} {CX : CXT} {k n : Nat} {f : Addr} {fd : FuncData} {ps ks : List Str} {sp : Sp} {E : L2.St → XK} {x : Str} {p pos : Pos} {e : Expr} {es : List Expr} {kws : List Keyword} {t tk : TA} {dvs : List V} {gV : List V → List V → List V}
theorem runGX {pins : List (Addr × Obj)} {σ : L2.St} {H : Hp} {s : Shared} {Q : VK} {us us2 : List Value} {kv : List (Str × Value)} {vs : List V} (F : FnG X.prog X.w X.K X.mg X.base CX k f fd ps sp) (hG : X.A.guards = some []) (hr : Room k X.A)
    (hb : BindsTo s fd ⟨us, kv⟩ (ps.zip us2)) (hx : PassesAt CX X σ (E σ)) (I : Inv X pins σ H s) (r : Vals vs us2) (h : sp vs H Q (E σ)) : wpAny (model X.prog X.w) X.A (call (.ref f) us kv) (EP X pins σ Q) X.xe s := by
  apply wpAny_call
  refine codeAny_mono (F.run X.A hG X.stack s H ⟨us, kv⟩ us2 vs Q (E σ) hr I.env0 hb r h) ?_
  rintro (e | fl) s' hq
  · exact hx pins H s e s' I hq
  · cases fl <;> first | exact I.after hq | exact False.elim hq
theorem pe_ownX (O : Own X.prog X.w X.K X.mg X.base CX k x ps dvs sp) (hG : X.A.guards = some []) (hr : Room k X.A) (hx : ∀ σ, PassesAt CX X σ (E σ)) (ha : PA X (e :: es) t) (hg : Gl X x := by rfl)
    (hdb : (x == ("__debug__" : Str)) = false := by decide) (he : starEach (e :: es) X.env = (false, eval e X.env) :: starEach es X.env := by rfl) (hpl : (backTo pos (starEach es X.env)).any (·.1) = false := by rfl) :
    PE X (.Call (.Name x p) (e :: es) [] pos) (tCallX sp dvs E t) := by
  obtain ⟨f, fd, ds, F, hm, hk, hb, hd⟩ := O.ex
  refine ⟨fun pins s σ H Q I h => wpAny_Call_Name_kw (ld_glob I hg hm ?_ hdb)⟩
  apply PySem.W.callWith_K (h₀ := X.base) I.ok.mod.kin hk _ he hpl
  refine thn (ha.run pos pins s σ H _ I h) ?_
  rintro us s1 ⟨vs, H1, I1, r, q⟩
  have r2 := r.append hd
  exact ⟨I1.kIn, runGX F hG hr (hb s1 us I1.kIn (by rw [← r2.length]; exact F.len _ _ _ _ q)) (hx σ) I1 r2 q⟩
theorem pe_ownKX (O : OwnK X.prog X.w X.K X.mg X.base CX k x ps n ks gV sp) (hG : X.A.guards = some []) (hr : Room k X.A) (hx : ∀ σ, PassesAt CX X σ (E σ)) (ha : PA X (e :: es) t) (hkw : PK X kws tk) (hg : Gl X x := by rfl)
    (hall : (backToKw pos (keywordEach kws X.env)).all (·.1.isSome) = true := by rfl) (hks : (backToKw pos (keywordEach kws X.env)).filterMap (·.1) = ks := by rfl)
    (hdb : (x == ("__debug__" : Str)) = false := by decide) (he : starEach (e :: es) X.env = (false, eval e X.env) :: starEach es X.env := by rfl)
    (hpl : ((backTo pos (starEach (e :: es) X.env)).any (·.1) || (backToKw pos (keywordEach kws X.env)).any (·.1.isNone)) = false := by rfl) :
    PE X (.Call (.Name x p) (e :: es) kws pos) (tCallNX n ks.length sp gV E t tk) := by
  obtain ⟨f, fd, g, F, hm, hk, hb⟩ := O.ex
  refine ⟨fun pins s σ H Q I h => wpAny_Call_Name_kw (ld_glob I hg hm ?_ hdb)⟩
  apply PySem.W.callWith_KW (h₀ := X.base) I.ok.mod.kin hk hall _ hpl he
  refine thn (ha.run pos pins s σ H _ I h) ?_
  rintro us s1 ⟨vs, H1, I1, r, q⟩
  refine thn (hkw.run pos pins s1 σ H1 _ I1 q) ?_
  rintro ws s2 ⟨zs, H2, I2, rz, l1, l2, q2⟩
  rw [hks]
  exact ⟨I2.kIn, runGX F hG hr (hb.to s2 us ws I2.kIn (r.length.symm.trans l1) (rz.length.symm.trans l2)) (hx σ) I2 (hb.rel r rz) q2⟩
theorem pe_ownKX0 (O : OwnK X.prog X.w X.K X.mg X.base CX k x ps 0 ks gV sp) (hG : X.A.guards = some []) (hr : Room k X.A) (hx : ∀ σ, PassesAt CX X σ (E σ)) (hkw : PK X kws tk) (hg : Gl X x := by rfl)
    (hall : (backToKw pos (keywordEach kws X.env)).all (·.1.isSome) = true := by rfl) (hks : (backToKw pos (keywordEach kws X.env)).filterMap (·.1) = ks := by rfl)
    (hdb : (x == ("__debug__" : Str)) = false := by decide)
    (hpl : ((backTo pos (starEach [] X.env)).any (·.1) || (backToKw pos (keywordEach kws X.env)).any (·.1.isNone)) = false := by rfl) :
    PE X (.Call (.Name x p) [] kws pos) (tCallNX 0 ks.length sp gV E tNil tk) := by
  obtain ⟨f, fd, g, F, hm, hk, hb⟩ := O.ex
  refine ⟨fun pins s σ H Q I h => wpAny_Call_Name_kw (ld_glob I hg hm ?_ hdb)⟩
  refine PySem.W.callWith_KW0 (h₀ := X.base) I.ok.mod.kin hk hall ?_ hpl
  refine thn (hkw.run pos pins s σ H _ I h) ?_
  rintro ws s2 ⟨zs, H2, I2, rz, l1, l2, q2⟩
  rw [hks]
  exact ⟨I2.kIn, runGX F hG hr (us := []) (hb.to s2 [] ws I2.kIn rfl (rz.length.symm.trans l2)) (hx σ) I2 (hb.rel (.nil : Vals [] []) rz) q2⟩
end
/-! ### isinstance of a caught exception -/
def rIsX (K : PySem.W.Frag) (D : Addr) : List V → Hp → VK → Prop := fun xs H Q => ∃ (a : Addr) (c : V) (cv : Value) (b : Bool), xs = [.ref a, c] ∧ H a = some (exHO (.ref D) none a) ∧ ClsV c cv ∧ PySem.W.kitOne K (.ref D) cv = some b ∧ Q (.bl b) H
def rIsXT (K : PySem.W.Frag) (D : Addr) : List V → Hp → VK → Prop := fun xs H Q => ∃ (a tp : Addr) (cs : List V) (us : List Value) (b : Bool), xs = [.ref a, .ref tp] ∧ H a = some (exHO (.ref D) none a) ∧ H tp = some (.tup cs) ∧ Paired ClsV cs us ∧ PySem.W.kitAny K (.ref D) us = some b ∧ Q (.bl b) H
section
variable {X : Cx} {D : Addr}
theorem inst_of {pins : List (Addr × Obj)} {σ : L2.St} {H : Hp} {s : Shared} {a : Addr} (I : Inv X pins σ H s) (h : H a = some (exHO (.ref D) none a)) : ∃ oe, PySem.W.InstAt s.heap a oe D none := by
  obtain ⟨⟨oe, vs, at_, z, d⟩, _⟩ := (show ObjOk X.prog X.w H s.heap a (exHO (.ref D) none a) from I.hok a _ h)
  obtain ⟨oc, od, oda, osl⟩ := oe
  obtain ⟨h1, h2⟩ := z
  dsimp only at h1 h2 d
  subst h1 h2 d
  exact ⟨_, at_, rfl, rfl, trivial⟩
theorem call_isX (C : ExcC X.K D) : CallR X (.builtin "isinstance") (rIsX X.K D) := by
  intro pins s σ H xs us Q I r h
  obtain ⟨a, c, cv, b, rfl, ha, hc, e, q⟩ := h
  obtain ⟨u1, u2, rfl, r1, r2⟩ := vals2 r
  cases (show u1 = Value.ref a from r1)
  obtain ⟨oe, J⟩ := inst_of I ha
  have e2 := hc.eq r2
  subst e2
  exact PySem.W.kia_one (PySem.W.handS_kitx_exc C.hg C.hk C.hs C.hd C.ha C.hn C.ht C.hm) I.kIn J e (fun z => nomatch z) fun tk => ⟨.bl b, H, I.kept (t' := tk) fun _ _ z => z, rfl, q⟩
theorem call_isXT (C : ExcC X.K D) : CallR X (.builtin "isinstance") (rIsXT X.K D) := by
  intro pins s σ H xs us Q I r h
  obtain ⟨a, tp, cs, ws, b, rfl, ha, hT, hc, e, q⟩ := h
  obtain ⟨u1, u2, rfl, r1, r2⟩ := vals2 r
  cases (show u1 = Value.ref a from r1)
  cases (show u2 = Value.ref tp from r2)
  obtain ⟨oe, J⟩ := inst_of I ha
  obtain ⟨_, its, rv, o, h1, h2, n, h3⟩ := (show ObjOk X.prog X.w H s.heap tp (.tup cs) from I.hok tp _ hT)
  have e3 := ClsV.all hc rv
  subst e3
  obtain ⟨oc, od, dt, sl⟩ := o
  dsimp only at h2 h3
  subst h2 h3
  exact PySem.W.kia_tup (PySem.W.handS_kitx_exc C.hg C.hk C.hs C.hd C.ha C.hn C.ht C.hm) I.kIn J h1 e (fun z => nomatch z) fun tk => ⟨.bl b, H, I.kept (t' := tk) fun _ _ z => z, rfl, q⟩
end
section
variable {K : PySem.W.Frag} {σ : L2.St} {H : Hp} {Q : VK} {tA tK : TA}
theorem i_callX {sp : Sp} {dvs : List V} {E : L2.St → XK} (h : tA σ H fun vs H1 => sp (vs ++ dvs) H1 Q (E σ)) : tCallX sp dvs E tA σ H Q := h
theorem i_callNX {sp : Sp} {n m : Nat} {gV : List V → List V → List V} {E : L2.St → XK} (h : tA σ H fun vs H1 => tK σ H1 fun zs H2 => vs.length = n ∧ zs.length = m ∧ sp (gV vs zs) H2 Q (E σ)) : tCallNX n m sp gV E tA tK σ H Q := h
theorem i_isX {D a : Addr} {c : V} {cv : Value} {b : Bool} (h1 : H a = some (exHO (.ref D) none a)) (hc : ClsV c cv) (e : PySem.W.kitOne K (.ref D) cv = some b) (h : Q (.bl b) H) : rIsX K D [.ref a, c] H Q := ⟨a, c, cv, b, rfl, h1, hc, e, h⟩
theorem i_isXT {D a tp : Addr} {cs : List V} {us : List Value} {b : Bool} (h1 : H a = some (exHO (.ref D) none a)) (h2 : H tp = some (.tup cs)) (hc : Paired ClsV cs us) (e : PySem.W.kitAny K (.ref D) us = some b) (h : Q (.bl b) H) : rIsXT K D [.ref a, .ref tp] H Q := ⟨a, tp, cs, us, b, rfl, h1, h2, hc, e, h⟩
end
end Pm

namespace Pm
open PySem PySem.Spec PyProof.Rows L2
/-! ### the rules once more, the written part K named -/
section
variable {X : Cx} {k : Nat}
theorem k_add (K : PySem.W.Frag) (hK : X.K = K := by rfl) : OpR X (binaryOp .Add) (rAddU K) := by subst hK; exact op_addU
theorem k_eq (K : PySem.W.Frag) (hr : Room k X.A) (hK : X.K = K := by rfl) : OpR X (compareOp .Eq) (rEqU K) := by subst hK; exact op_eqU hr
theorem k_ne (K : PySem.W.Frag) (hr : Room k X.A) (hK : X.K = K := by rfl) : OpR X (compareOp .NotEq) (rNeU K) := by subst hK; exact op_neU hr
theorem k_in (K : PySem.W.Frag) (hK : X.K = K := by rfl) : OpR X (compareOp .In) (rIn K false) := by subst hK; exact op_in_seq
theorem k_notIn (K : PySem.W.Frag) (hK : X.K = K := by rfl) : OpR X (compareOp .NotIn) (rIn K true) := by subst hK; exact op_notIn_seq
theorem k_ix (K : PySem.W.Frag) (hK : X.K = K := by rfl) : IxR X (rIx K) := by subst hK; exact ix_seq
theorem k_slL (K : PySem.W.Frag) (hK : X.K = K := by rfl) : SlR X (rSlL K) := by subst hK; exact sl_list
theorem k_slT (K : PySem.W.Frag) (hK : X.K = K := by rfl) : SlR X (rSlT K) := by subst hK; exact sl_tup
theorem k_len (K : PySem.W.Frag) (hK : X.K = K := by rfl) : CallR X (.builtin "len") (rLenU K) := by subst hK; exact call_lenU
theorem k_tupL (K : PySem.W.Frag) (hK : X.K = K := by rfl) : CallR X (.type "tuple") (rTupL K) := by subst hK; exact call_tupL
theorem k_repr (K : PySem.W.Frag) (hG : X.A.guards = some []) (hr : Room k X.A) (hK : X.K = K := by rfl) : CallR X (.builtin "repr") (rReprD K) := by subst hK; exact call_reprD hG hr
theorem k_isi (K : PySem.W.Frag) (hK : X.K = K := by rfl) : CallR X (.builtin "isinstance") (rIsi K) := by subst hK; exact call_isi
theorem k_isiT (K : PySem.W.Frag) (hK : X.K = K := by rfl) : CallR X (.builtin "isinstance") (rIsiT K) := by subst hK; exact call_isiT
theorem k_isX {K : PySem.W.Frag} {D : Addr} (C : ExcC K D) (hK : X.K = K := by rfl) : CallR X (.builtin "isinstance") (rIsX K D) := by subst hK; exact call_isX C
theorem k_isXT {K : PySem.W.Frag} {D : Addr} (C : ExcC K D) (hK : X.K = K := by rfl) : CallR X (.builtin "isinstance") (rIsXT K D) := by subst hK; exact call_isXT C
theorem k_all (K : PySem.W.Frag) (hc : X.calm = true) (hK : X.K = K := by rfl) : CallR X (.builtin "all") (rAll K) := by subst hK; exact cr_all hc
theorem k_any (K : PySem.W.Frag) (hc : X.calm = true) (hK : X.K = K := by rfl) : CallR X (.builtin "any") (rAny K) := by subst hK; exact cr_any hc
theorem k_sum (K : PySem.W.Frag) (hc : X.calm = true) (hK : X.K = K := by rfl) : CallR X (.builtin "sum") (rSum K) := by subst hK; exact cr_sum hc
theorem k_piL (K : PySem.W.Frag) {tg l : Expr} {tl : TE} (hl : PE X l tl) (hK : X.K = K := by rfl) : PI X tg l (iList K tl) := by subst hK; exact pi_list hl
theorem k_piT (K : PySem.W.Frag) {tg l : Expr} {tl : TE} (hl : PE X l tl) (hK : X.K = K := by rfl) : PI X tg l (iTup K tl) := by subst hK; exact pi_tup hl
theorem k_piE (K : PySem.W.Frag) {e : Expr} {ta : TA} {p pos tpos : Pos} {elts : List Expr} {kk : Nat} (hg : Gl X "enumerate") (hm : X.mg "enumerate" = none) (ha : PA X [e] ta) (hs : starEach [e] X.env = [(false, eval e X.env)] := by rfl) (hK : X.K = K := by rfl) :
    PI X (.Tuple elts kk tpos) (.Call (.Name "enumerate" p) [e] [] pos) (iEnum K ta) := by subst hK; exact pi_enum hg hm ha hs
theorem k_gt (K : PySem.W.Frag) (n : Nat) {es : List Expr} {q : Nat} {t : TGs} {pos : Pos} (hc : X.calm = true) (h : PGs X es t) (hn : (assignEach es X.env).length = n := by rfl)
    (hst : (assignEach es X.env).findIdx? (·.1) = none := by rfl) (hK : X.K = K := by rfl) : PG X (.Tuple es q pos) (gTup K n t) := by subst hK; exact pg_tup hc h hn hst
end
theorem ite_1 {P Q : Prop} (h : P) : (if (true = true) then P else Q : Prop) := h
end Pm

namespace Pm
open PySem PySem.Spec PyProof.Rows L2
/-! ### what a caller holds, from the def as the top has written it -/
theorem vals_getD : ∀ {vs : List V} {us : List Value}, Vals vs us → ∀ i, RelV (vs.getD i .non) (us.getD i .none)
  | _, _, .nil, _ => rfl
  | _, _, .cons h _, 0 => h
  | _, _, .cons _ r, i + 1 => by simpa using vals_getD r i
section
variable {P : Program} {w : World} {K : PySem.W.Frag} {mg : Str → Option Value} {base : Heap} {CX : CXT} {k : Nat} {x qual : Str} {params : Arguments} {body : List Stmt} {scope : Scope} {dvs : List V} {f : Addr} {fd : FuncData} {ps : List Str} {sp : Sp}
theorem own_n (F : FunD K x qual params body scope [] [] f fd) (g : mg x = some (.ref f)) (a : FnG P w K mg base CX k f fd ps sp)
    (h : ∀ (kV doc pm : Value) (an : Option Addr) (cdv ct : Value) (us : List Value), us.length = ps.length → bindArgs (PySem.W.fnOf x qual params body scope .none kV doc pm an cdv ct) ⟨us, []⟩ = pure (ps.zip us)) : Own P w K mg base CX k x ps [] sp :=
  ⟨f, fd, [], a, g, F.kp, F.bindsN h, .nil⟩
theorem own_d (F : FunD K x qual params body scope dvs [] f fd) (g : mg x = some (.ref f)) (a : FnG P w K mg base CX k f fd ps sp) (n j : Nat) (hd : dvs ≠ []) (hn : n + (dvs.length - j) = ps.length)
    (h : ∀ (T : Addr) (kV doc pm : Value) (an : Option Addr) (cdv ct : Value) (us its : List Value), us.length = n → its.length = dvs.length →
      ∃ k, bindArgs (PySem.W.fnOf x qual params body scope (.ref T) kV doc pm an cdv ct) ⟨us, []⟩ = seqItems? (.ref T) >>= k ∧ k (some its.toArray) = pure (ps.zip (us ++ its.drop j))) : Own P w K mg base CX k x ps (dvs.drop j) sp := by
  obtain ⟨ds, h1, h2⟩ := F.binds1 n j hd hn h
  exact ⟨f, fd, ds, a, g, F.kp, h2, h1⟩
theorem ownK_d (F : FunD K x qual params body scope dvs [] f fd) (g : mg x = some (.ref f)) (a : FnG P w K mg base CX k f fd ps sp) (n : Nat) (ks : List Str) (hd : dvs ≠ [])
    (G : List Value → List Value → List Value → List Value) (GV : List V → List V → List V → List V)
    (hrel : ∀ {vs ds zs : List V} {us its ws : List Value}, Vals vs us → Vals ds its → Vals zs ws → Vals (GV vs ds zs) (G us its ws))
    (h : ∀ (T : Addr) (kV doc pm : Value) (an : Option Addr) (cdv ct : Value) (us its ws : List Value), us.length = n → its.length = dvs.length → ws.length = ks.length →
      ∃ k, bindArgs (PySem.W.fnOf x qual params body scope (.ref T) kV doc pm an cdv ct) ⟨us, ks.zip ws⟩ = seqItems? (.ref T) >>= k ∧ k (some its.toArray) = pure (ps.zip (G us its ws))) : OwnK P w K mg base CX k x ps n ks (fun vs zs => GV vs dvs zs) sp := by
  have kp := F.kp
  obtain ⟨oc, od, dV, kV, doc, pm, an, cdv, ct, osl, rfl, lk, hcd, hD, hK⟩ := F.ex
  rcases hD with ⟨e, _⟩ | ⟨_, T, o, its, m, rfl, lT, oT, rT⟩
  · exact absurd e hd
  · refine ⟨f, _, fun us ws => G us its ws, a, g, kp, ⟨fun s us ws X l1 l2 => ?_, fun r1 r2 => hrel r1 rT r2⟩⟩
    obtain ⟨k, e1, e2⟩ := h T kV doc pm an cdv ct us its ws l1 rT.length.symm l2
    refine BindsTo.of_looks fun M => ?_
    rw [e1]
    exact looks_items X lT oT (.of_pure e2)
theorem ownK_n (F : FunD K x qual params body scope [] [] f fd) (g : mg x = some (.ref f)) (a : FnG P w K mg base CX k f fd ps sp) (n : Nat) (ks : List Str)
    (G : List Value → List Value → List Value) (GV : List V → List V → List V)
    (hrel : ∀ {vs zs : List V} {us ws : List Value}, Vals vs us → Vals zs ws → Vals (GV vs zs) (G us ws))
    (h : ∀ (kV doc pm : Value) (an : Option Addr) (cdv ct : Value) (us ws : List Value), us.length = n → ws.length = ks.length →
      bindArgs (PySem.W.fnOf x qual params body scope .none kV doc pm an cdv ct) ⟨us, ks.zip ws⟩ = pure (ps.zip (G us ws))) : OwnK P w K mg base CX k x ps n ks GV sp := by
  have kp := F.kp
  obtain ⟨oc, od, dV, kV, doc, pm, an, cdv, ct, osl, rfl, lk, hcd, hD, hK⟩ := F.ex
  rcases hD with ⟨_, rfl⟩ | ⟨e, _⟩
  · exact ⟨f, _, G, a, g, kp, ⟨fun s us ws X l1 l2 => .of_eq (h kV doc pm an cdv ct us ws l1 l2), fun r1 r2 => hrel r1 r2⟩⟩
  · exact absurd rfl e
end
/-! ### showing and comparing, the bound made on the way -/
section
variable {K : PySem.W.Frag} {H : Hp} {Q : VK}
theorem OkAll.nil' : OkAll 0 0 [] := .nil
theorem OkAll.cons' {n m n' m' : Nat} {d : PyData} {ds : List PyData} (h : Ok n m d) (r : OkAll n' m' ds) : OkAll (max n n') (max m m') (d :: ds) :=
  .cons (h.mono (Nat.le_max_left ..) (Nat.le_max_left ..)) ⟨r.sh, r.cl, Nat.le_trans r.dp (Nat.le_max_right ..), fun t ht => Nat.le_trans (r.ln t ht) (Nat.le_max_right ..)⟩
theorem Ok.lst' {n m : Nat} {ds : List PyData} (h : OkAll n m ds) : Ok (n + 1) (ds.length * (m + 2) + 3) (.list ds) := .lst h (Nat.le_refl _)
theorem Ok.tup' {n m : Nat} {ds : List PyData} (h : OkAll n m ds) : Ok (n + 1) (ds.length * (m + 2) + 3) (.tuple ds) := .tup h (Nat.le_refl _)
theorem i_repr {p : Addr} {d : PyData} {n m : Nat} (h1 : Dp K H (.ref p) d) (h2 : Ok n m d) (hn : n ≤ 60) (hm : m ≤ 1000000) (h : Q (.str d.shown) H) : rReprD K [.ref p] H Q :=
  i_reprD h1 h2.sh h2.noDict (Nat.le_trans h2.dp hn) (Nat.le_trans (Nat.le_trans h2.ln hm) (by decide)) h
theorem i_neS {a b : Str} (e : a = b) (h : Q (.bl false) H) : rNeU K (.str a) (.str b) H Q := by
  subst e
  refine .inl ⟨rfl, ?_⟩
  rw [decide_eq_true rfl]
  exact h
theorem i_eqS {a b : Str} (e : a = b) (h : Q (.bl true) H) : rEqU K (.str a) (.str b) H Q := by
  subst e
  refine .inl ⟨rfl, ?_⟩
  rw [decide_eq_true rfl]
  exact h
/-- a tuple that the module holds -/
def TpK (K : PySem.W.Frag) (a : Addr) (xs : List V) : Prop := ∃ (o : Obj) (its : Array Value) (n : Nat), K.lookup a = some o ∧ o.cls = .type "tuple" ∧ o.data = .seq its n ∧ its.size ≤ sizeLine ∧ Vals xs its.toList
theorem TpK.tp {a : Addr} {xs : List V} (h : TpK K a xs) : Tp K H a xs := .inr h
theorem i_lens {vs zs : List V} {n m : Nat} {P : Prop} (h1 : vs.length = n) (h2 : zs.length = m) (h : P) : vs.length = n ∧ zs.length = m ∧ P := ⟨h1, h2, h⟩
theorem ite_0 {P Q : Prop} (h : Q) : (if (false = true) then P else Q : Prop) := h
theorem ite_n0 {P Q : Prop} (h : P) : (if ((!false) = true) then P else Q : Prop) := h
theorem ite_n1 {P Q : Prop} (h : Q) : (if ((!true) = true) then P else Q : Prop) := h
end
theorem natAbs_up {a : Int} {n m : Nat} (h : a.natAbs < 2 ^ n) (e : n ≤ m) : a.natAbs < 2 ^ m := Nat.lt_of_lt_of_le h (Nat.pow_le_pow_right (by decide) e)
theorem part_one (a : Int) : (Rat.divInt a 1).num = a ∧ ((Rat.divInt a 1).den : Int) = 1 := part_of a 1 (by decide) (by simp)
theorem dP_one (a : Int) : dP (Rat.divInt a 1) = .tuple [.int a, .int 1] := by
  unfold dP
  rw [(part_one a).1, (part_one a).2]
/-! ### the defs as the top has written them -/
section
variable {K : PySem.W.Frag} {x qual : Str} {st : Stmt} {f T : Addr} {oc oT kV doc pm cdv ct : Value} {od an odT : Option Addr} {sl slT : Array (Option Value)} {its : Array Value} {n : Nat} {dvs : List V}
theorem funD_n (l : K.lookup f = some ⟨oc, od, .func (PySem.W.fnOf x qual (defArgs st) (defBody st) (defScope st) .none kV doc pm an cdv ct), sl⟩) (c : PySem.W.codeIn K cdv qual = true) (k : PySem.W.keepIn K (.ref f) = true) :
    FunD K x qual (defArgs st) (defBody st) (defScope st) [] [] f (PySem.W.fnOf x qual (defArgs st) (defBody st) (defScope st) .none kV doc pm an cdv ct) := ⟨⟨_, _, _, _, _, _, _, _, _, _, rfl, l, c, .inl ⟨rfl, rfl⟩, .inl rfl⟩, k⟩
theorem funD_d (l : K.lookup f = some ⟨oc, od, .func (PySem.W.fnOf x qual (defArgs st) (defBody st) (defScope st) (.ref T) kV doc pm an cdv ct), sl⟩) (c : PySem.W.codeIn K cdv qual = true) (k : PySem.W.keepIn K (.ref f) = true)
    (lT : K.lookup T = some ⟨oT, odT, .seq its n, slT⟩) (r : Vals dvs its.toList) (hd : dvs ≠ []) :
    FunD K x qual (defArgs st) (defBody st) (defScope st) dvs [] f (PySem.W.fnOf x qual (defArgs st) (defBody st) (defScope st) (.ref T) kV doc pm an cdv ct) :=
  ⟨⟨_, _, _, _, _, _, _, _, _, _, rfl, l, c, .inr ⟨hd, T, _, its.toList, n, rfl, lT, by simp, r⟩, .inl rfl⟩, k⟩
theorem TpK.of {xs : List V} (lT : K.lookup T = some ⟨.type "tuple", odT, .seq its n, slT⟩) (r : Vals xs its.toList) (hl : xs.length ≤ 1000) : TpK K T xs :=
  ⟨_, its, n, lT, rfl, rfl, by have e : xs.length = its.size := (by simpa using r.length); exact Nat.le_trans (by omega) (by decide : 1000 ≤ sizeLine), r⟩
end
end Pm

namespace Pm
open PySem PySem.Spec PyProof.Rows L2
/-! ### promises at wider contexts, and two in one -/
section
variable {P : Program} {w : World} {K : PySem.W.Frag} {mg : Str → Option Value} {base : Heap} {CX : CXT} {j k : Nat} {f : Addr} {fd : FuncData} {ps : List Str} {sp sp' sp2 : Sp}
theorem FnG.any (a : FnG P w K mg base CX0 k f fd ps sp) : FnG P w K mg base CX k f fd ps sp := by
  refine ⟨a.len, fun A g o s H args us vs Q E r e b v h => codeAny_mono (a.run A g o s H args us vs Q E r e b v h) ?_⟩
  rintro (e | fl) s' hq
  · exact False.elim hq
  · cases fl <;> exact hq
end
/-! ### isinstance of values, is None, lists repeated -/
section
variable {K : PySem.W.Frag} {H : Hp} {Q : VK}
theorem i_isi {x : V} {t n : String} {b : Bool} (h1 : TyX K H x (.type t)) (h2 : kitB t n = some b) (h : Q (.bl b) H) : rIsi K [x, .ty n] H Q := ⟨x, .ty n, .type t, .type n, b, rfl, .ty n, h1, kit_ty h2, h⟩
theorem i_isN {x : V} (h : Q (.bl (decide (x = .non))) H) : rIsN x .non H Q := ⟨rfl, h⟩
theorem i_notN {x : V} (h : Q (.bl (!decide (x = .non))) H) : rNotN x .non H Q := ⟨rfl, h⟩
theorem i_ixV {p : Addr} {xs : List V} {j : Int} (h1 : SqL K H p xs) (h0 : 0 ≤ j) (hl : j < xs.length) (h : ∀ (i : Nat) (v : V), xs[i]? = some v → Q v H) : rIx K (.ref p) (.int j) H Q := by
  obtain ⟨i, rfl⟩ := Int.eq_ofNat_of_zero_le h0
  have hi : i < xs.length := by omega
  exact i_ixL h1 (atI_nat (List.getElem?_eq_getElem hi)) (h i _ (List.getElem?_eq_getElem hi))
theorem i_neB {a b : Bool} (e : a = b) (h : Q (.bl false) H) : rNeU K (.bl a) (.bl b) H Q := by
  subst e
  refine .inl ⟨rfl, ?_⟩
  rw [decide_eq_true rfl]
  exact h
theorem i_eqB {a b : Bool} (e : a = b) (h : Q (.bl true) H) : rEqU K (.bl a) (.bl b) H Q := by
  subst e
  refine .inl ⟨rfl, ?_⟩
  rw [decide_eq_true rfl]
  exact h
theorem i_rep {l : Addr} {xs : List V} {k : Int} (h1 : H l = some (.lst xs)) (h2 : 0 ≤ k) (h3 : k ≤ 100000) (h4 : xs.length ≤ 1) (h : ∀ p H', New H p → Same H H' → H' p = some (.lst (List.replicate k.toNat xs).flatten) → Q (.ref p) H') : rMulU (.ref l) (.int k) H Q := by
  refine .inr ⟨l, k, xs, rfl, rfl, h1, by omega, by omega, ?_, i_new h⟩
  have : xs.length * k.toNat ≤ 1 * k.toNat := Nat.mul_le_mul_right _ h4
  exact Nat.le_trans (by omega) (by decide : 100000 ≤ sizeLine)
end
/-! ### floors and ceilings of parts -/
theorem floor_low (x : Rat) : x.num.fdiv x.den * x.den ≤ x.num := by
  rw [Int.fdiv_eq_ediv_of_nonneg _ (Int.le_of_lt (den_gt x))]
  exact Int.ediv_mul_le _ (den_ne x)
theorem floor_high (x : Rat) : x.num < (x.num.fdiv x.den + 1) * x.den := by
  rw [Int.fdiv_eq_ediv_of_nonneg _ (Int.le_of_lt (den_gt x))]
  exact Int.lt_ediv_add_one_mul_self _ (den_gt x)
theorem ceil_high (x : Rat) : x.num ≤ (0 - (0 - x.num).fdiv x.den) * x.den := by
  rw [Int.fdiv_eq_ediv_of_nonneg _ (Int.le_of_lt (den_gt x))]
  have h := Int.ediv_mul_le (0 - x.num) (den_ne x)
  rw [Int.sub_mul]
  omega
theorem ceil_low (x : Rat) : (0 - (0 - x.num).fdiv x.den - 1) * x.den < x.num := by
  rw [Int.fdiv_eq_ediv_of_nonneg _ (Int.le_of_lt (den_gt x))]
  have h := Int.lt_ediv_add_one_mul_self (0 - x.num) (den_gt x)
  rw [Int.add_mul] at h
  rw [Int.sub_mul, Int.sub_mul]
  omega
theorem fdiv_small {a : Int} {b : Nat} {n : Nat} (hb : 0 < (b : Int)) (ha : a.natAbs < 2 ^ n) : (a.fdiv b).natAbs < 2 ^ n := by
  rw [Int.fdiv_eq_ediv_of_nonneg _ (Int.le_of_lt hb)]
  exact Nat.lt_of_le_of_lt (Int.natAbs_ediv_le_natAbs _ _) ha
theorem kb_int_int : kitB "int" "int" = some true := by decide +kernel
theorem kb_int_bool : kitB "int" "bool" = some false := by decide +kernel
theorem kb_int_tuple : kitB "int" "tuple" = some false := by decide +kernel
theorem kb_int_list : kitB "int" "list" = some false := by decide +kernel
theorem kb_int_str : kitB "int" "str" = some false := by decide +kernel
theorem kb_bool_int : kitB "bool" "int" = some true := by decide +kernel
theorem kb_bool_bool : kitB "bool" "bool" = some true := by decide +kernel
theorem kb_bool_tuple : kitB "bool" "tuple" = some false := by decide +kernel
theorem kb_bool_list : kitB "bool" "list" = some false := by decide +kernel
theorem kb_bool_str : kitB "bool" "str" = some false := by decide +kernel
theorem kb_str_int : kitB "str" "int" = some false := by decide +kernel
theorem kb_str_bool : kitB "str" "bool" = some false := by decide +kernel
theorem kb_str_tuple : kitB "str" "tuple" = some false := by decide +kernel
theorem kb_str_list : kitB "str" "list" = some false := by decide +kernel
theorem kb_str_str : kitB "str" "str" = some true := by decide +kernel
theorem kb_tuple_int : kitB "tuple" "int" = some false := by decide +kernel
theorem kb_tuple_bool : kitB "tuple" "bool" = some false := by decide +kernel
theorem kb_tuple_tuple : kitB "tuple" "tuple" = some true := by decide +kernel
theorem kb_tuple_list : kitB "tuple" "list" = some false := by decide +kernel
theorem kb_tuple_str : kitB "tuple" "str" = some false := by decide +kernel
theorem kb_list_int : kitB "list" "int" = some false := by decide +kernel
theorem kb_list_bool : kitB "list" "bool" = some false := by decide +kernel
theorem kb_list_tuple : kitB "list" "tuple" = some false := by decide +kernel
theorem kb_list_list : kitB "list" "list" = some true := by decide +kernel
theorem kb_list_str : kitB "list" "str" = some false := by decide +kernel
theorem kb_NoneType_int : kitB "NoneType" "int" = some false := by decide +kernel
theorem kb_NoneType_bool : kitB "NoneType" "bool" = some false := by decide +kernel
theorem kb_NoneType_tuple : kitB "NoneType" "tuple" = some false := by decide +kernel
theorem kb_NoneType_list : kitB "NoneType" "list" = some false := by decide +kernel
theorem kb_NoneType_str : kitB "NoneType" "str" = some false := by decide +kernel
theorem kb_dict_int : kitB "dict" "int" = some false := by decide +kernel
theorem kb_dict_bool : kitB "dict" "bool" = some false := by decide +kernel
theorem kb_dict_tuple : kitB "dict" "tuple" = some false := by decide +kernel
theorem kb_dict_list : kitB "dict" "list" = some false := by decide +kernel
theorem kb_dict_str : kitB "dict" "str" = some false := by decide +kernel
end Pm

namespace Pm
open PySem PySem.Spec PyProof.Rows L2
theorem i_dnew {σ : L2.St} {H : Hp} {Q : VK} (h : ∀ p H', New H p → Same H H' → H' p = some (.dK []) → Q (.ref p) H') : tDNewK σ H Q := i_new h
/-! ### list(..) of a list or a tuple -/
def rLstC (K : PySem.W.Frag) : List V → Hp → VK → Prop := fun xs H Q => ∃ p ys, xs = [.ref p] ∧ (SqL K H p ys ∨ SqT K H p ys) ∧ ∀ l, H l = none → Q (.ref l) (upd H l (.lst ys))
theorem k_lstC {X : Cx} (K : PySem.W.Frag) (hK : X.K = K := by rfl) : CallR X (.type "list") (rLstC K) := by subst hK; exact call_list_of
theorem i_lstC {K : PySem.W.Frag} {H : Hp} {Q : VK} {p : Addr} {xs : List V} (h1 : SqL K H p xs ∨ Tp K H p xs) (h : ∀ a H', New H a → Same H H' → H' a = some (.lst xs) → Q (.ref a) H') : rLstC K [.ref p] H Q := ⟨p, xs, rfl, h1.imp id Tp.sq, i_new h⟩
/-- one of two numbers -/
theorem ite_c {c : Bool} {x y : Int} {σ : L2.St} {H : Hp} {Q : VK} (h : ∀ z : Int, z = x ∨ z = y → Q (.int z) H) : if c = true then tC (.int x) σ H Q else tC (.int y) σ H Q := by
  cases c
  · exact h y (.inr rfl)
  · exact h x (.inl rfl)
/-! ### what stands is found from the leaf: the fact of the place first, then the way from its heap to this one -/
/-- a tuple stands -/
structure TpH (H : Hp) (p : Addr) (xs : List V) : Prop where
  eq : H p = some (.tup xs)
/-- tuples stay -/
structure Tm (H H' : Hp) : Prop where
  t : ∀ b xs, H b = some (.tup xs) → H' b = some (.tup xs)
section
variable {K : PySem.W.Frag} {H H' H1 : Hp} {m n p : Addr} {xs : List V} {Q : VK}
theorem Tm.refl (H : Hp) : Tm H H := ⟨fun _ _ h => h⟩
theorem Tm.same (e : Same H H') : Tm H H' := ⟨fun b xs h => e b _ h⟩
theorem Tm.fx (e : Fx m n H H') : Tm H H' := ⟨fun b xs h => e.tup b xs h⟩
theorem Tm.trans (a : Tm H H1) (b : Tm H1 H') : Tm H H' := ⟨fun c xs h => b.t c xs (a.t c xs h)⟩
theorem Tp.tm (h : Tp K H p xs) (e : Tm H H') : Tp K H' p xs := h.elim (fun h => .inl (e.t _ _ h)) .inr
theorem TpH.tm (h : TpH H p xs) (e : Tm H H') : Tp K H' p xs := .inl (e.t _ _ h.eq)
theorem i_newTH {xs : List V} (hl : xs.length ≤ 100000) (h : ∀ p H', New H p → Same H H' → TpH H' p xs → Q (.ref p) H') : NewT xs H Q :=
  ⟨Nat.le_trans hl (by decide), fun p hp => h p _ hp (same_new hp) ⟨upd_same⟩⟩
end
/-! ### defs with keyword-only defaults -/
section
variable {P : Program} {w : World} {K : PySem.W.Frag} {mg : Str → Option Value} {base : Heap} {CX : CXT} {k : Nat} {x qual : Str} {params : Arguments} {body : List Stmt} {scope : Scope} {kws : List (Str × V)} {f : Addr} {fd : FuncData} {ps : List Str} {sp : Sp}
theorem funD_k {st : Stmt} {D : Addr} {oc doc pm cdv ct : Value} {od an : Option Addr} {sl : Array (Option Value)} (l : K.lookup f = some ⟨oc, od, .func (PySem.W.fnOf x qual (defArgs st) (defBody st) (defScope st) .none (.ref D) doc pm an cdv ct), sl⟩) (c : PySem.W.codeIn K cdv qual = true) (k : PySem.W.keepIn K (.ref f) = true)
    (h : ∀ q ∈ kws, ∃ u, PySem.W.nsIn K D q.1 = some (some u) ∧ RelV q.2 u) :
    FunD K x qual (defArgs st) (defBody st) (defScope st) [] kws f (PySem.W.fnOf x qual (defArgs st) (defBody st) (defScope st) .none (.ref D) doc pm an cdv ct) := ⟨⟨_, _, _, _, _, _, _, _, _, _, rfl, l, c, .inl ⟨rfl, rfl⟩, .inr ⟨D, rfl, h⟩⟩, k⟩
/-- all keyword-only ones lack -/
theorem own_k (F : FunD K x qual params body scope [] kws f fd) (g : mg x = some (.ref f)) (a : FnG P w K mg base CX k f fd ps sp) (n : Nat) (hk : kws ≠ []) (hn : n + kws.length = ps.length)
    (h : ∀ (D : Addr) (doc pm : Value) (an : Option Addr) (cdv ct : Value) (us ks : List Value), us.length = n → ks.length = kws.length →
      KwChain D ((kws.map (·.1)).zip ks) (bindArgs (PySem.W.fnOf x qual params body scope .none (.ref D) doc pm an cdv ct) ⟨us, []⟩) (ps.zip (us ++ ks))) : Own P w K mg base CX k x ps (kws.map (·.2)) sp := by
  obtain ⟨ds, h1, h2⟩ := F.binds0 n hk hn h
  exact ⟨f, fd, ds, a, g, F.kp, h2, h1⟩
/-- n by place, the names ks by keyword; ms: those that lack -/
theorem ownK_k (F : FunD K x qual params body scope [] kws f fd) (g : mg x = some (.ref f)) (a : FnG P w K mg base CX k f fd ps sp) (n : Nat) (ks : List Str) (ms : List (Str × V)) (hk : kws ≠ []) (hms : ∀ q ∈ ms, q ∈ kws)
    (G : List Value → List Value → List Value → List Value) (GV : List V → List V → List V → List V)
    (hrel : ∀ {vs mz zs : List V} {us mv ws : List Value}, Vals vs us → Vals mz mv → Vals zs ws → Vals (GV vs mz zs) (G us mv ws))
    (h : ∀ (D : Addr) (doc pm : Value) (an : Option Addr) (cdv ct : Value) (us mv ws : List Value), us.length = n → mv.length = ms.length → ws.length = ks.length →
      KwChain D ((ms.map (·.1)).zip mv) (bindArgs (PySem.W.fnOf x qual params body scope .none (.ref D) doc pm an cdv ct) ⟨us, ks.zip ws⟩) (ps.zip (G us mv ws))) : OwnK P w K mg base CX k x ps n ks (fun vs zs => GV vs (ms.map (·.2)) zs) sp := by
  have kp := F.kp
  obtain ⟨oc, od, dV, kV, doc, pm, an, cdv, ct, osl, rfl, lk, hcd, hD, hK⟩ := F.ex
  rcases hD with ⟨_, rfl⟩ | ⟨e, _⟩
  · rcases hK with e | ⟨D, rfl, hq⟩
    · exact absurd e hk
    · obtain ⟨mv, hl, rk, hks⟩ := kwd_vals (ms := ms) fun q hm => hq q (hms q hm)
      exact ⟨f, _, fun us ws => G us mv ws, a, g, kp, ⟨fun s us ws X l1 l2 => BindsTo.of_looks fun M => KwChain.looks X hks (h D doc pm an cdv ct us mv ws l1 hl l2), fun r1 r2 => hrel r1 rk r2⟩⟩
  · exact absurd rfl e
end
end Pm

namespace Pm
open PySem PySem.Spec PyProof.Rows L2
/-! ### parts over a common bottom -/
theorem rat_mul_den (q : Rat) : q * (q.den : Rat) = (q.num : Rat) := by
  have h : Rat.divInt q.num q.den = q := Rat.num_divInt_den q
  rw [Rat.divInt_eq_div, Rat.intCast_natCast] at h
  have d : (q.den : Rat) ≠ 0 := by
    have := q.den_nz
    exact_mod_cast this
  have e := Rat.div_mul_cancel (a := (q.num : Rat)) d
  rw [h] at e
  exact e
theorem den_dvd_iff {q : Rat} {D : Nat} : q.den ∣ D ↔ ∃ z : Int, q * (D : Rat) = (z : Rat) := by
  constructor
  · rintro ⟨k, rfl⟩
    refine ⟨q.num * k, ?_⟩
    have h := rat_mul_den q
    have e : ((q.den * k : Nat) : Rat) = (q.den : Rat) * (k : Rat) := by simp
    have e2 : ((q.num * (k : Int) : Int) : Rat) = (q.num : Rat) * (k : Rat) := by rw [Rat.intCast_mul, Rat.intCast_natCast]
    rw [e, e2, ← h]
    grind
  · rintro ⟨z, hz⟩
    have h := rat_mul_den q
    have h2 : (q.num : Rat) * (D : Rat) = (z : Rat) * (q.den : Rat) := by rw [← h, ← hz]; grind
    have h3 : ((q.num * (D : Int) : Int) : Rat) = ((z * (q.den : Int) : Int) : Rat) := by simp only [Rat.intCast_mul, Rat.intCast_natCast]; exact h2
    have h4 : q.num * (D : Int) = z * (q.den : Int) := Rat.intCast_inj.mp h3
    have h5 : q.den ∣ q.num.natAbs * D := ⟨z.natAbs, by
      have := congrArg Int.natAbs h4
      rw [Int.natAbs_mul, Int.natAbs_mul, Int.natAbs_natCast, Int.natAbs_natCast] at this
      rw [this, Nat.mul_comm]⟩
    exact (Nat.Coprime.symm q.reduced).dvd_of_dvd_mul_left h5
theorem dd_add {p q : Rat} {D : Nat} (hp : p.den ∣ D) (hq : q.den ∣ D) : (p + q).den ∣ D := by
  obtain ⟨a, ha⟩ := den_dvd_iff.mp hp
  obtain ⟨b, hb⟩ := den_dvd_iff.mp hq
  refine den_dvd_iff.mpr ⟨a + b, ?_⟩
  rw [Rat.intCast_add, ← ha, ← hb]
  grind
theorem dd_sub {p q : Rat} {D : Nat} (hp : p.den ∣ D) (hq : q.den ∣ D) : (p - q).den ∣ D := by
  obtain ⟨a, ha⟩ := den_dvd_iff.mp hp
  obtain ⟨b, hb⟩ := den_dvd_iff.mp hq
  refine den_dvd_iff.mpr ⟨a - b, ?_⟩
  rw [Rat.intCast_sub, ← ha, ← hb]
  grind
theorem dd_mul {p q : Rat} {D E : Nat} (hp : p.den ∣ D) (hq : q.den ∣ E) : (p * q).den ∣ D * E := by
  obtain ⟨a, ha⟩ := den_dvd_iff.mp hp
  obtain ⟨b, hb⟩ := den_dvd_iff.mp hq
  refine den_dvd_iff.mpr ⟨a * b, ?_⟩
  rw [Rat.intCast_mul, ← ha, ← hb, Rat.natCast_mul]
  grind
theorem den_divInt_dvd {a b : Int} (h : b ≠ 0) : (Rat.divInt a b).den ∣ b.natAbs := by
  rw [Rat.den_divInt, if_neg h]
  exact Nat.div_dvd_of_dvd (Nat.gcd_dvd_left _ _)
/-- a bottom that divides D, worth from -B to B -/
def Dv (D B : Nat) (q : Rat) : Prop := q.den ∣ D ∧ -(B : Rat) ≤ q ∧ q ≤ (B : Rat)
theorem Dv.up {D B E C : Nat} {q : Rat} (h : Dv D B q) (e : D ∣ E) (b : B ≤ C) : Dv E C q := by
  have b' : (B : Rat) ≤ (C : Rat) := by exact_mod_cast b
  exact ⟨Nat.dvd_trans h.1 e, by have := h.2.1; grind, by have := h.2.2; grind⟩
theorem Dv.add {D B C : Nat} {p q : Rat} (hp : Dv D B p) (hq : Dv D C q) : Dv D (B + C) (p + q) := by
  obtain ⟨h1, h2, h3⟩ := hp
  obtain ⟨h4, h5, h6⟩ := hq
  refine ⟨dd_add h1 h4, ?_, ?_⟩ <;> rw [Rat.natCast_add] <;> grind
theorem Dv.sub {D B C : Nat} {p q : Rat} (hp : Dv D B p) (hq : Dv D C q) : Dv D (B + C) (p - q) := by
  obtain ⟨h1, h2, h3⟩ := hp
  obtain ⟨h4, h5, h6⟩ := hq
  refine ⟨dd_sub h1 h4, ?_, ?_⟩ <;> rw [Rat.natCast_add] <;> grind
theorem abs_mul_le {p q b c : Rat} (h2 : -b ≤ p) (h3 : p ≤ b) (h5 : -c ≤ q) (h6 : q ≤ c) : -(b * c) ≤ p * q ∧ p * q ≤ b * c := by
  have a1 := Rat.mul_nonneg (a := b - p) (b := c + q) (by grind) (by grind)
  have a2 := Rat.mul_nonneg (a := b + p) (b := c - q) (by grind) (by grind)
  have a3 := Rat.mul_nonneg (a := b - p) (b := c - q) (by grind) (by grind)
  have a4 := Rat.mul_nonneg (a := b + p) (b := c + q) (by grind) (by grind)
  constructor <;> grind
theorem Dv.mul {D B E C : Nat} {p q : Rat} (hp : Dv D B p) (hq : Dv E C q) : Dv (D * E) (B * C) (p * q) := by
  obtain ⟨h1, h2, h3⟩ := hp
  obtain ⟨h4, h5, h6⟩ := hq
  have := abs_mul_le h2 h3 h5 h6
  refine ⟨dd_mul h1 h4, ?_, ?_⟩ <;> rw [Rat.natCast_mul]
  · exact this.1
  · exact this.2
theorem num_le_of {q : Rat} {B : Nat} (h1 : -(B : Rat) ≤ q) (h2 : q ≤ (B : Rat)) : q.num.natAbs ≤ B * q.den := by
  have d0 : (0 : Rat) ≤ (q.den : Rat) := by exact_mod_cast Nat.zero_le _
  have e := rat_mul_den q
  have a1 : (q.num : Rat) ≤ ((B * q.den : Nat) : Rat) := by
    rw [← e, Rat.natCast_mul]
    exact Rat.mul_le_mul_of_nonneg_right h2 d0
  have a2 : -((B * q.den : Nat) : Rat) ≤ (q.num : Rat) := by
    rw [← e, Rat.natCast_mul]
    have := Rat.mul_le_mul_of_nonneg_right h1 d0
    grind
  have b1 : q.num ≤ ((B * q.den : Nat) : Int) := by exact_mod_cast a1
  have b2 : -((B * q.den : Nat) : Int) ≤ q.num := by
    rw [← Rat.intCast_le_intCast, Rat.intCast_neg, Rat.intCast_natCast]
    exact a2
  omega
theorem Dv.bd {D B n : Nat} {q : Rat} (h : Dv D B q) (h0 : 0 < D) (h1 : D < 2 ^ n) (h2 : B * D < 2 ^ n) : Bd n q := by
  have hd := Nat.le_of_dvd h0 h.1
  refine ⟨?_, by omega⟩
  have := num_le_of h.2.1 h.2.2
  have : B * q.den ≤ B * D := Nat.mul_le_mul_left _ hd
  omega
theorem Bd.dv {n : Nat} {q : Rat} (h : Bd n q) : Dv q.den (2 ^ n) q := by
  refine ⟨Nat.dvd_refl _, ?_, ?_⟩
  all_goals
    have d1 : 1 ≤ q.den := q.den_pos
    have h1 := h.1
    have e := rat_mul_den q
    have d0 : (1 : Rat) ≤ (q.den : Rat) := by exact_mod_cast d1
    have h3 : (q.num : Rat) ≤ ((2 ^ n : Nat) : Rat) := by
      have : q.num ≤ ((2 ^ n : Nat) : Int) := by omega
      exact_mod_cast this
    have h4 : -((2 ^ n : Nat) : Rat) ≤ (q.num : Rat) := by
      have : -((2 ^ n : Nat) : Int) ≤ q.num := by omega
      rw [← Rat.intCast_le_intCast, Rat.intCast_neg, Rat.intCast_natCast] at this
      exact this
    have n0 : (0 : Rat) ≤ ((2 ^ n : Nat) : Rat) := by exact_mod_cast Nat.zero_le _
    generalize ((2 ^ n : Nat) : Rat) = N at *
    generalize hd : (q.den : Rat) = d at *
  · rcases (Rat.le_total : -N ≤ q ∨ q ≤ -N) with c | c
    · exact c
    · have := Rat.mul_nonneg (show (0 : Rat) ≤ -N - q by grind) (show (0 : Rat) ≤ d - 1 by grind)
      have := Rat.mul_nonneg n0 (show (0 : Rat) ≤ d - 1 by grind)
      grind
  · rcases (Rat.le_total : q ≤ N ∨ N ≤ q) with c | c
    · exact c
    · have := Rat.mul_nonneg (show (0 : Rat) ≤ q - N by grind) (show (0 : Rat) ≤ d - 1 by grind)
      have := Rat.mul_nonneg n0 (show (0 : Rat) ≤ d - 1 by grind)
      grind
theorem num_pos_iff {q : Rat} : 0 < q.num ↔ 0 < q := by
  rw [Rat.lt_iff]
  simp
theorem num_nonpos_iff {q : Rat} : q.num ≤ 0 ↔ q ≤ 0 := by
  rw [Rat.le_iff]
  simp
theorem num_nonneg_iff {q : Rat} : 0 ≤ q.num ↔ 0 ≤ q := Rat.num_nonneg
theorem num_le_den_iff {q : Rat} : q.num ≤ (q.den : Int) ↔ q ≤ 1 := by
  rw [Rat.le_iff]
  simp
end Pm

namespace Pm
open PySem PySem.Spec PyProof.Rows L2
/-! ### deep data of tuples: they stay whatever lists do -/
inductive TD (K : PySem.W.Frag) (H : Hp) : V → PyData → Prop
  | int (i : Int) : TD K H (.int i) (.int i)
  | bl (b : Bool) : TD K H (.bl b) (.bool b)
  | non : TD K H .non .none
  | str (z : Str) : TD K H (.str z) (.str z)
  | tup {p : Addr} {xs : List V} {ds : List PyData} (h : Tp K H p xs) (l : xs.length = ds.length) (a : ∀ (i : Nat) (h1 : i < xs.length) (h2 : i < ds.length), TD K H xs[i] ds[i]) : TD K H (.ref p) (.tuple ds)
/-- a row of values that stand for data -/
structure TL (K : PySem.W.Frag) (H : Hp) (xs : List V) (ds : List PyData) : Prop where
  len : xs.length = ds.length
  at_ : ∀ (i : Nat) (h1 : i < xs.length) (h2 : i < ds.length), TD K H xs[i] ds[i]
section
variable {K : PySem.W.Frag} {H H' : Hp} {v x y z : V} {p : Addr} {xs : List V} {d : PyData} {ds : List PyData}
theorem TD.tm (h : TD K H v d) (e : Tm H H') : TD K H' v d := by
  induction h with
  | int i => exact .int i
  | bl b => exact .bl b
  | non => exact .non
  | str z => exact .str z
  | tup h l a ih => exact .tup (h.tm e) l fun i h1 h2 => ih i h1 h2
theorem TL.tm (h : TL K H xs ds) (e : Tm H H') : TL K H' xs ds := ⟨h.len, fun i h1 h2 => (h.at_ i h1 h2).tm e⟩
theorem TL.nil : TL K H [] [] := ⟨rfl, fun i h1 _ => absurd h1 (Nat.not_lt_zero _)⟩
theorem TL.cons (h : TD K H v d) (r : TL K H xs ds) : TL K H (v :: xs) (d :: ds) := ⟨by simp [r.len], fun i h1 h2 => by
  cases i with
  | zero => exact h
  | succ i => exact r.at_ i (by simpa using h1) (by simpa using h2)⟩
theorem TL.snoc (r : TL K H xs ds) (h : TD K H v d) : TL K H (xs ++ [v]) (ds ++ [d]) := ⟨by simp [r.len], fun i h1 h2 => by
  have l := r.len
  by_cases c : i < xs.length
  · rw [List.getElem_append_left c, List.getElem_append_left (by omega)]
    exact r.at_ i c (by omega)
  · simp at h1
    have e : i = xs.length := by omega
    have e2 : i = ds.length := by omega
    rw [List.getElem_append_right (by omega), List.getElem_append_right (by omega)]
    simpa using h⟩
theorem TL.append {ys : List V} {es : List PyData} (r : TL K H xs ds) (h : TL K H ys es) : TL K H (xs ++ ys) (ds ++ es) := ⟨by simp [r.len, h.len], fun i h1 h2 => by
  have l := r.len
  by_cases c : i < xs.length
  · rw [List.getElem_append_left c, List.getElem_append_left (by omega)]
    exact r.at_ i c (by omega)
  · rw [List.getElem_append_right (by omega), List.getElem_append_right (by omega)]
    have e : i - xs.length = i - ds.length := by omega
    simp at h1 h2
    have := h.at_ (i - xs.length) (by omega) (by omega)
    simp only [e] at this ⊢
    exact this⟩
theorem TL.get (r : TL K H xs ds) {i : Nat} (h : xs[i]? = some v) : ∃ d, ds[i]? = some d ∧ TD K H v d := by
  obtain ⟨h1, rfl⟩ := List.getElem?_eq_some_iff.mp h
  have l := r.len
  exact ⟨ds[i], List.getElem?_eq_getElem (by omega), r.at_ i h1 (by omega)⟩
theorem TL.to (r : TL K H xs ds) {i : Nat} (h : ds[i]? = some d) : ∃ v, xs[i]? = some v ∧ TD K H v d := by
  obtain ⟨h1, rfl⟩ := List.getElem?_eq_some_iff.mp h
  have l := r.len
  exact ⟨xs[i], List.getElem?_eq_getElem (by omega), r.at_ i (by omega) h1⟩
theorem TD.of (h : Tp K H p xs) (r : TL K H xs ds) : TD K H (.ref p) (.tuple ds) := .tup h r.len r.at_
theorem TD.inv (h : TD K H v (.tuple ds)) : ∃ p xs, v = .ref p ∧ Tp K H p xs ∧ TL K H xs ds := by
  cases h with
  | tup h l a => exact ⟨_, _, rfl, h, l, a⟩
theorem TD.inv_int {i : Int} (h : TD K H v (.int i)) : v = .int i := by cases h; rfl
theorem TD.inv_bool {b : Bool} (h : TD K H v (.bool b)) : v = .bl b := by cases h; rfl
theorem TD.inv_none (h : TD K H v .none) : v = .non := by cases h; rfl
theorem TL.inv1 (r : TL K H xs [d]) : ∃ x, xs = [x] ∧ TD K H x d := by
  have l := r.len
  match xs, l with
  | [x], _ => exact ⟨x, rfl, r.at_ 0 (by simp) (by simp)⟩
theorem TL.inv2 {d e : PyData} (r : TL K H xs [d, e]) : ∃ x y, xs = [x, y] ∧ TD K H x d ∧ TD K H y e := by
  have l := r.len
  match xs, l with
  | [x, y], _ => exact ⟨x, y, rfl, r.at_ 0 (by simp) (by simp), r.at_ 1 (by simp) (by simp)⟩
theorem TL.inv3 {d e f : PyData} (r : TL K H xs [d, e, f]) : ∃ x y z, xs = [x, y, z] ∧ TD K H x d ∧ TD K H y e ∧ TD K H z f := by
  have l := r.len
  match xs, l with
  | [x, y, z], _ => exact ⟨x, y, z, rfl, r.at_ 0 (by simp) (by simp), r.at_ 1 (by simp) (by simp), r.at_ 2 (by simp) (by simp)⟩
theorem dpAll_of : ∀ {xs : List V} {ds : List PyData}, xs.length = ds.length → (∀ (i : Nat) (h1 : i < xs.length) (h2 : i < ds.length), Dp K H xs[i] ds[i]) → DpAll K H xs ds
  | [], [], _, _ => .nil
  | x :: xs, d :: ds, l, a => .cons (a 0 (by simp) (by simp)) (dpAll_of (by simpa using l) fun i h1 h2 => a (i + 1) (by simpa using h1) (by simpa using h2))
theorem TD.dp (h : TD K H v d) : Dp K H v d := by
  induction h with
  | int i => exact .int i
  | bl b => exact .bl b
  | non => exact .non
  | str z => exact .str z
  | tup h l a ih => exact .tup h.sq (dpAll_of l ih)
theorem TL.dp (r : TL K H xs ds) : DpAll K H xs ds := dpAll_of r.len fun i h1 h2 => (r.at_ i h1 h2).dp
/-! shape and length of rows -/
theorem ShAll.all {n : Nat} : ∀ {ds : List PyData}, (∀ d ∈ ds, Sh n d) → ShAll n ds
  | [], _ => .nil
  | d :: ds, h => .cons (h d (List.mem_cons_self ..)) (ShAll.all fun e he => h e (List.mem_cons_of_mem _ he))
theorem OkAll.all {n m : Nat} : ∀ {ds : List PyData}, (∀ d ∈ ds, Ok n m d) → OkAll n m ds
  | [], _ => .nil
  | d :: ds, h => .cons (h d (List.mem_cons_self ..)) (OkAll.all fun e he => h e (List.mem_cons_of_mem _ he))
theorem i_reprW {p : Addr} {n m : Nat} {Q : VK} (h1 : Dp K H (.ref p) d) (h2 : Ok n m d) (hn : n ≤ 60) (hm : m ≤ 16000000) (h : Q (.str d.shown) H) : rReprD K [.ref p] H Q :=
  i_reprD h1 h2.sh h2.noDict (Nat.le_trans h2.dp hn) (Nat.le_trans (Nat.le_trans h2.ln hm) (by decide)) h
/-! data alike -/
theorem eqvAll_refl : ∀ {ds : List PyData}, (∀ d ∈ ds, PyData.eqv d d = true) → PyData.eqvAll ds ds = true
  | [], _ => by simp only [PyData.eqvAll]
  | d :: ds, h => by
    simp only [PyData.eqvAll, h d (List.mem_cons_self ..), eqvAll_refl fun e he => h e (List.mem_cons_of_mem _ he), Bool.and_self]
theorem eqv_refl_tup (h : ∀ d ∈ ds, PyData.eqv d d = true) : PyData.eqv (.tuple ds) (.tuple ds) = true := by simp only [PyData.eqv, eqvAll_refl h]
theorem eqv_refl_lst (h : ∀ d ∈ ds, PyData.eqv d d = true) : PyData.eqv (.list ds) (.list ds) = true := by simp only [PyData.eqv, eqvAll_refl h]
theorem eqv_refl_P (q : Rat) : PyData.eqv (dP q) (dP q) = true := by rw [eqv_P, decide_eq_true rfl]
theorem eqv_refl_int (i : Int) : PyData.eqv (.int i) (.int i) = true := by simp [PyData.eqv]
theorem eqvAll_P : ∀ ps qs : List Rat, PyData.eqvAll (ps.map dP) (qs.map dP) = decide (ps = qs)
  | [], [] => by simp [PyData.eqvAll]
  | [], q :: qs => by simp [PyData.eqvAll]
  | p :: ps, [] => by simp [PyData.eqvAll]
  | p :: ps, q :: qs => by
    rw [List.map_cons, List.map_cons]
    simp only [PyData.eqvAll, eqv_P, eqvAll_P ps qs]
    rw [Bool.eq_iff_iff]
    simp
theorem eqv_list_nil (d : PyData) (ds : List PyData) : PyData.eqv (.list (d :: ds)) (.list []) = false := by simp [PyData.eqv, PyData.eqvAll]
end
end Pm

namespace Pm
open PySem PySem.Spec PyProof.Rows L2
/-! ### payments, plain -/
structure Row where
  now : Rat
  inall : Rat
  debt : Rat
def dRow (r : Row) : PyData := .tuple [dP r.now, dP r.inall, dP r.debt]
def payNext (x : Rat) (r : Row) (t l : Rat) : Row :=
  if t - l ≤ 0 then ⟨0, r.inall, r.debt - (t - l)⟩
  else if r.debt < x * (t - l) then ⟨t - l - r.debt, r.inall + (t - l - r.debt), r.debt - r.debt⟩
  else ⟨t - l - x * (t - l), r.inall + (t - l - x * (t - l)), r.debt - x * (t - l)⟩
def tot (qs : List Rat) : Nat → Rat
  | 0 => 0
  | i + 1 => qs.getD i 0
def rowAt (x : Rat) (qs : List Rat) : Nat → Row
  | 0 => ⟨0, 0, 0⟩
  | i + 1 => payNext x (rowAt x qs i) (tot qs (i + 1)) (tot qs i)
def rowsTo (x : Rat) (qs : List Rat) (i : Nat) : List Row := (List.range i).map fun j => rowAt x qs (j + 1)
theorem rowsTo_zero (x : Rat) (qs : List Rat) : rowsTo x qs 0 = [] := rfl
theorem rowsTo_succ (x : Rat) (qs : List Rat) (i : Nat) : rowsTo x qs (i + 1) = rowsTo x qs i ++ [rowAt x qs (i + 1)] := by
  unfold rowsTo
  rw [List.range_succ, List.map_append]
  rfl
theorem rowsTo_len (x : Rat) (qs : List Rat) (i : Nat) : (rowsTo x qs i).length = i := by simp [rowsTo]
/-- a share -/
structure Shr (E : Nat) (x : Rat) : Prop where
  d : x.den ∣ E
  x0 : 0 < x
  x1 : x ≤ 1
structure RowOk (D E B C : Nat) (r : Row) : Prop where
  now : Dv (D * E) (2 * B) r.now
  now0 : 0 ≤ r.now
  inall : Dv (D * E) C r.inall
  debt : Dv (D * E) C r.debt
  debt0 : 0 ≤ r.debt
theorem Shr.fold {E : Nat} {x n : Rat} (h : Shr E x) (hn : 0 < n) : 0 ≤ x * n ∧ x * n ≤ n := by
  have := Rat.mul_nonneg (show 0 ≤ x by have := h.x0; grind) (show 0 ≤ n by grind)
  have := Rat.mul_nonneg (show 0 ≤ 1 - x by have := h.x1; grind) (show 0 ≤ n by grind)
  constructor <;> grind
theorem Shr.dv {E : Nat} {x : Rat} (h : Shr E x) : Dv E 1 x := ⟨h.d, by have := h.x0; grind, by have := h.x1; grind⟩
theorem dv_zero (D B : Nat) : Dv D B 0 := by
  have : (0 : Rat) ≤ (B : Rat) := by exact_mod_cast Nat.zero_le _
  exact ⟨Nat.one_dvd _, by grind, by grind⟩
theorem next_ok {D E B C : Nat} {x t l : Rat} {r : Row} (hx : Shr E x) (ht : Dv D B t) (hl : Dv D B l) (h : RowOk D E B C r) : RowOk D E B (C + 2 * B) (payNext x r t l) := by
  have hn : Dv D (2 * B) (t - l) := by
    have := ht.sub hl
    rwa [show B + B = 2 * B by omega] at this
  have hn2 : Dv (D * E) (2 * B) (t - l) := hn.up (Nat.dvd_mul_right ..) (Nat.le_refl _)
  have z2 : Dv (D * E) (2 * B) 0 := dv_zero _ _
  unfold payNext
  by_cases c : t - l ≤ 0
  · rw [if_pos c]
    refine ⟨z2, by grind, h.inall.up (Nat.dvd_refl _) (by omega), h.debt.sub hn2, ?_⟩
    have := h.debt0
    grind
  · rw [if_neg c]
    have hk := hx.fold (n := t - l) (by grind)
    have hk2 : Dv (D * E) (2 * B) (x * (t - l)) := by
      have := hx.dv.mul hn
      rwa [Nat.mul_comm E D, Nat.one_mul] at this
    have e2 : ((2 * B : Nat) : Rat) = ((2 * B : Nat) : Rat) := rfl
    have hn3 := hn2.2
    have key : ∀ k : Rat, 0 ≤ k → k ≤ t - l → k.den ∣ D * E → k ≤ r.debt → RowOk D E B (C + 2 * B) ⟨t - l - k, r.inall + (t - l - k), r.debt - k⟩ := by
      intro k k0 k1 kd k2
      have kD : Dv (D * E) (2 * B) k := ⟨kd, by grind, by grind⟩
      have nD : Dv (D * E) (2 * B) (t - l - k) := ⟨dd_sub hn2.1 kd, by grind, by grind⟩
      exact ⟨nD, by grind, h.inall.add nD, h.debt.sub kD, by grind⟩
    by_cases c2 : r.debt < x * (t - l)
    · rw [if_pos c2]
      exact key r.debt h.debt0 (by grind) h.debt.1 (by grind)
    · rw [if_neg c2]
      exact key (x * (t - l)) hk.1 hk.2 hk2.1 (by grind)
theorem tot_ok {D B : Nat} {qs : List Rat} (h : ∀ q ∈ qs, Dv D B q) : ∀ i, i ≤ qs.length → Dv D B (tot qs i)
  | 0, _ => dv_zero _ _
  | i + 1, hi => by
    have e : tot qs (i + 1) = qs[i] := by simp [tot, List.getD_eq_getElem?_getD, List.getElem?_eq_getElem (show i < qs.length by omega)]
    rw [e]
    exact h _ (List.getElem_mem _)
theorem row_ok {D E B : Nat} {x : Rat} {qs : List Rat} (hx : Shr E x) (h : ∀ q ∈ qs, Dv D B q) : ∀ i, i ≤ qs.length → RowOk D E B (i * (2 * B)) (rowAt x qs i)
  | 0, _ => by
    have z : ∀ C : Nat, Dv (D * E) C 0 := fun C => dv_zero _ _
    exact ⟨z _, Rat.le_refl, z _, z _, Rat.le_refl⟩
  | i + 1, hi => by
    have := next_ok hx (tot_ok h (i + 1) hi) (tot_ok h i (by omega)) (row_ok hx h i (by omega))
    rwa [show i * (2 * B) + 2 * B = (i + 1) * (2 * B) by rw [Nat.add_mul, Nat.one_mul]] at this
/-- how great it all may be -/
structure Lim (D E : Nat) : Prop where
  p : 0 < D * E
  l : D * E * 2 ^ 40 < 2 ^ 1900
theorem Lim.bd {D E B : Nat} {q : Rat} (L : Lim D E) (h : Dv (D * E) B q) (hB : B ≤ 2 ^ 40) : Bd 1900 q := by
  refine h.bd L.p ?_ ?_
  · have := L.l
    have := Nat.le_mul_of_pos_right (D * E) (show 0 < 2 ^ 40 by decide)
    omega
  · rw [Nat.mul_comm B]
    exact Nat.lt_of_le_of_lt (Nat.mul_le_mul_left _ hB) L.l
theorem Lim.bdL {D E B : Nat} {q : Rat} (L : Lim D E) (h : Dv D B q) (hB : B ≤ 2 ^ 40) : Bd 1900 q := L.bd (h.up (Nat.dvd_mul_right ..) (Nat.le_refl _)) hB
theorem Lim.bdR {D E B : Nat} {q : Rat} (L : Lim D E) (h : Dv E B q) (hB : B ≤ 2 ^ 40) : Bd 1900 q := L.bd (h.up (Nat.dvd_mul_left ..) (Nat.le_refl _)) hB
theorem ok_row {r : Row} (h1 : Bd 1900 r.now) (h2 : Bd 1900 r.inall) (h3 : Bd 1900 r.debt) : Ok 2 12100 (dRow r) :=
  (Ok.tup' (.cons' (ok_P (h1.mono (by decide))) (.cons' (ok_P (h2.mono (by decide))) (.cons' (ok_P (h3.mono (by decide))) .nil')))).mono (by decide) (Nat.le_of_ble_eq_true rfl)
theorem sh_row (r : Row) : Sh 2 (dRow r) := .tup (.cons (sh_P (n := 0) _) (.cons (sh_P (n := 0) _) (.cons (sh_P (n := 0) _) .nil)))
theorem eqv_refl_row (r : Row) : PyData.eqv (dRow r) (dRow r) = true := eqv_refl_tup fun d hd => by
  simp only [List.mem_cons, List.not_mem_nil, or_false] at hd
  rcases hd with rfl | rfl | rfl <;> exact eqv_refl_P _
def dRows (rs : List Row) : PyData := .tuple (rs.map dRow)
theorem sh_rows (rs : List Row) : Sh 3 (dRows rs) := .tup (.all fun d hd => by
  obtain ⟨r, _, rfl⟩ := List.mem_map.mp hd
  exact sh_row r)
theorem eqv_refl_rows (rs : List Row) : PyData.eqv (dRows rs) (dRows rs) = true := eqv_refl_tup fun d hd => by
  obtain ⟨r, _, rfl⟩ := List.mem_map.mp hd
  exact eqv_refl_row r
theorem rows_bd {D E B : Nat} {x : Rat} {qs : List Rat} (L : Lim D E) (hx : Shr E x) (h : ∀ q ∈ qs, Dv D B q) (hl : qs.length ≤ 122) (hB : B ≤ 2 ^ 30) : ∀ i, i ≤ qs.length → Bd 1900 (rowAt x qs i).now ∧ Bd 1900 (rowAt x qs i).inall ∧ Bd 1900 (rowAt x qs i).debt := fun i hi => by
  have r := row_ok hx h i hi
  have b : i * (2 * B) ≤ 2 ^ 40 := by
    have := Nat.mul_le_mul (show i ≤ 122 by omega) (show 2 * B ≤ 2 ^ 31 by omega)
    exact Nat.le_trans this (by decide)
  exact ⟨L.bd r.now (by omega), L.bd r.inall b, L.bd r.debt b⟩
theorem ok_rows {D E B : Nat} {x : Rat} {qs : List Rat} (L : Lim D E) (hx : Shr E x) (h : ∀ q ∈ qs, Dv D B q) (hl : qs.length ≤ 122) (hB : B ≤ 2 ^ 30) : Ok 3 1500000 (dRows (rowsTo x qs qs.length)) := by
  refine (Ok.tup (n := 2) (m := 12100) (k := 122) (.all fun d hd => ?_) ?_).mono (by decide) (by decide)
  · obtain ⟨r, hr, rfl⟩ := List.mem_map.mp hd
    obtain ⟨j, hj, rfl⟩ := List.mem_map.mp hr
    obtain ⟨b1, b2, b3⟩ := rows_bd L hx h hl hB (j + 1) (by have := List.mem_range.mp hj; omega)
    exact ok_row b1 b2 b3
  · rw [List.length_map, rowsTo_len]
    exact hl
/-! where it stands -/
section
variable {K : PySem.W.Frag} {H H' : Hp} {p : Addr} {q : Rat} {v : V} {qs : List Rat} {xs : List V}
theorem PartTp.td (h : Tp K H p [.int q.num, .int (q.den : Int)]) : TD K H (.ref p) (dP q) := .of h (.cons (.int _) (.cons (.int _) .nil))
theorem TD.partTp (h : TD K H v (dP q)) : ∃ p, v = .ref p ∧ Tp K H p [.int q.num, .int (q.den : Int)] := by
  obtain ⟨p, xs, rfl, h1, r⟩ := TD.inv h
  obtain ⟨x, y, rfl, h2, h3⟩ := r.inv2
  cases h2.inv_int
  cases h3.inv_int
  exact ⟨p, rfl, h1⟩
end
end Pm

namespace Pm
open PySem PySem.Spec PyProof.Rows L2
/-! ### for a, b in zip(list, tuple) -/
/-- a list and a tuple, walked together -/
def ItLT (K : PySem.W.Frag) (a b : Addr) : It where
  go := fun i H => ∃ (xs ys : List V) (x y : V), (SqL K H a xs ∧ SqT K H b ys) ∧ xs[i]? = some x ∧ ys[i]? = some y
  yld := fun i H v H' => ∃ T x y, (v = .ref T ∧ H T = none) ∧ H' = upd H T (.tup [x, y]) ∧ ∀ xs ys, SqL K H a xs → SqT K H b ys → xs[i]? = some x ∧ ys[i]? = some y
  stop := fun i H => ∃ xs ys : List V, (SqL K H a xs ∧ SqT K H b ys) ∧ i = xs.length ∧ i = ys.length
/-- how its cells stand ahead of turn i -/
structure LTs (z TI TO j1 j2 a b : Addr) (i : Nat) (h : Heap) : Prop where
  hz : IsZip h z TI TO .none
  hI : IsTupOf2 h TI (.ref j1) (.ref j2)
  hO : ∃ u v, IsTupOf2 h TO u v
  l1 : h.IsListIter j1 a i
  l2 : h.IsTupleIter j2 b i
theorem five {c z TI TO j1 j2 : Addr} {R : Addr → Prop} (h : c ∈ [z, TI, TO, j1, j2]) (a1 : R z) (a2 : R TI) (a3 : R TO) (a4 : R j1) (a5 : R j2) : R c := by
  simp only [List.mem_cons, List.not_mem_nil, or_false] at h
  rcases h with rfl | rfl | rfl | rfl | rfl <;> assumption
theorem LTs.some {z TI TO j1 j2 a b : Addr} {i : Nat} {h : Heap} (st : LTs z TI TO j1 j2 a b i h) : ∀ c ∈ [z, TI, TO, j1, j2], ∃ o, h.get? c = .some o ∧ ∀ m, o.data ≠ .cell m := by
  intro c hc
  obtain ⟨u, v, hO⟩ := st.hO
  obtain ⟨oa, ea, _, da⟩ := st.l1
  obtain ⟨ob, eb, _, db⟩ := st.l2
  exact five (R := fun c => ∃ o, h.get? c = .some o ∧ ∀ m, o.data ≠ .cell m) hc ⟨_, st.hz, fun _ q => nomatch q⟩ ⟨_, st.hI, fun _ q => nomatch q⟩ ⟨_, hO, fun _ q => nomatch q⟩ ⟨oa, ea, fun m q => by rw [da] at q; cases q⟩ ⟨ob, eb, fun m q => by rw [db] at q; cases q⟩
theorem turn_LT {P : Program} {w : World} {K : PySem.W.Frag} {es : List Expr} {kk : Nat} {tp : Pos} {a b z TI TO j1 j2 : Addr} (S : ZipSep2 z TI TO j1 j2 [j1, a] [j2, b]) (na : a ≠ j1) (nb : b ≠ j2) :
    Turn P w K (.Tuple es kk tp) (ItLT K a b) [z, TI, TO, j1, j2] z (LTs z TI TO j1 j2 a b) := by
  have nf : ∀ {c : Addr}, c ∉ [z, TI, TO, j1, j2] → (c ≠ z ∧ c ≠ TI) ∧ c ≠ TO ∧ c ≠ j1 ∧ c ≠ j2 := by
    intro c hc
    simp only [List.mem_cons, List.not_mem_nil, or_false, not_or] at hc
    exact ⟨⟨hc.1, hc.2.1⟩, hc.2.2.1, hc.2.2.2.1, hc.2.2.2.2⟩
  refine { mem := List.mem_cons_self .., obj := fun i h st => st.some, keep := fun i h h2 st kp => ?_, item := ?_, done := ?_, self := fun A i s Q E st q => wpAny_pyIter_zip st.hz q }
  · obtain ⟨u, v, hO⟩ := st.hO
    exact { hz := kp z (by simp) _ st.hz, hI := kp TI (by simp) _ st.hI, hO := ⟨u, v, kp TO (by simp) _ hO⟩, l1 := st.l1.at fun o q => kp j1 (by simp) o q, l2 := st.l2.at fun o q => kp j2 (by simp) o q }
  · intro X eP ew eK calm i pins s σ H E I fp st go
    cases eP
    cases ew
    cases eK
    obtain ⟨xs, ys, x, y, ⟨qa, qb⟩, hx, hy⟩ := go
    obtain ⟨us, ru, pu, _⟩ := I.list qa
    obtain ⟨vs, rv, pv, _⟩ := I.tuple qb
    obtain ⟨u, hu, r1⟩ := ru.get hx
    obtain ⟨v, hv, r2⟩ := rv.get hy
    obtain ⟨u0, v0, hO⟩ := st.hO
    have low : ∀ c ∈ [z, TI, TO, j1, j2], c < s.heap.objs.size := fun c hc => let ⟨_, e, _⟩ := st.some c hc; Heap.lt_size e
    have iu : i < us.toArray.size := by
      have := (List.getElem?_eq_some_iff.mp hu).1
      simpa using this
    have iv : i < vs.toArray.size := by
      have := (List.getElem?_eq_some_iff.mp hv).1
      simpa using this
    refine wpAny_pyNext_zipD2_item S (Draws.list (A := X.A.in1) (I.ok.hd calm) j1 a na us.toArray) (Draws.tuple (A := X.A.in1) (I.ok.hd calm) j2 b nb vs.toArray) st.hz st.hI hO ⟨st.l1, pu.isList⟩ ⟨st.l2, pv⟩ iu iv ?_
    intro u1 v1 h1 tk e1 e2 z1 O1 d1 d2 T1 sz kp
    obtain rfl : u1 = u := by
      have e3 : us[i]? = .some u1 := by simpa using e1
      exact Option.some.inj (e3.symm.trans hu)
    obtain rfl : v1 = v := by
      have e3 : vs[i]? = .some v1 := by simpa using e2
      exact Option.some.inj (e3.symm.trans hv)
    refine ⟨_, rfl, wpAny_letOwnedTupleGo_zip (s := { s with heap := h1, toks := tk }) z1 fun h2 z2 sb => ?_⟩
    have Tz : s.heap.objs.size ≠ z := fun e => absurd (low z (by simp)) (by rw [← e]; exact Nat.lt_irrefl _)
    have T2 := (sb.2 _ Tz).trans T1
    have fresh : H s.heap.objs.size = none := I.hok.fresh (Nat.le_refl _)
    have made : ObjOk X.prog X.w (upd H s.heap.objs.size (.tup [x, y])) h2 s.heap.objs.size (.tup [x, y]) := ⟨Nat.le_trans (Nat.le_refl 2) (by decide), [u1, v1], .cons r1 (.cons r2 .nil), ⟨_, T2, rfl, _, rfl⟩⟩
    have J := I.turnedNew (t' := tk) (ch := [z, TI, TO, j1, j2]) (T := s.heap.objs.size) (ob := .tup [x, y]) (h' := h2) (fun c o hc q => by
      obtain ⟨⟨c1, c2⟩, c3, c4, c5⟩ := nf hc
      exact (sb.2 c c1).trans (kp c o c1 c3 c4 c5 q)) fp (Nat.le_refl _) made
    refine ⟨.ref s.heap.objs.size, _, J, rfl, ⟨_, x, y, ⟨rfl, fresh⟩, rfl, fun l m hl hm => ?_⟩, ?_, fun c hc => ?_⟩
    · rw [I.list_inj hl qa, I.tuple_inj hm qb]
      exact ⟨hx, hy⟩
    · exact { hz := z2, hI := (sb.2 _ S.TIz).trans (kp TI _ S.TIz S.TITO S.TIi1 S.TIi2 st.hI), hO := ⟨u1, v1, (sb.2 _ S.TOz).trans O1⟩, l1 := d1.1.at fun o q => (sb.2 j1 (Ne.symm S.zi1)).trans q, l2 := d2.1.at fun o q => (sb.2 j2 (Ne.symm S.zi2)).trans q }
    · rw [upd_ne (Nat.ne_of_lt (low c hc))]
      exact (fp c hc).1
  · intro X eP ew eK calm i pins s σ H E I fp st en
    cases eP
    cases ew
    cases eK
    obtain ⟨xs, ys, ⟨qa, qb⟩, ex, ey⟩ := en
    obtain ⟨us, ru, pu, _⟩ := I.list qa
    obtain ⟨vs, rv, pv, _⟩ := I.tuple qb
    obtain ⟨u0, v0, hO⟩ := st.hO
    have k1 := ru.length
    have k2 := rv.length
    refine wpAny_pyNext_zipD2_end S (Draws.list (A := X.A.in1) (I.ok.hd calm) j1 a na us.toArray) (Draws.tuple (A := X.A.in1) (I.ok.hd calm) j2 b nb vs.toArray) st.hz st.hI hO ⟨st.l1, pu.isList⟩ ⟨st.l2, pv⟩ (by simp; omega) (by simp; omega) (.inl (by simp; omega)) ?_
    intro h1 tk kp
    refine ⟨rfl, I.turnedL (t' := tk) (ch := [z, TI, TO, j1, j2]) (fun c o hc q => ?_) fp⟩
    obtain ⟨⟨c1, c2⟩, c3, c4, c5⟩ := nf hc
    exact kp c o c1 c3 c4 c5 q
def iZipLT (K : PySem.W.Frag) (ta : TA) : TI := fun σ H R => ta σ H fun vs H1 => ∃ a b xs ys, vs = [.ref a, .ref b] ∧ (SqL K H1 a xs ∧ SqT K H1 b ys) ∧ R (ItLT K a b) H1
theorem pi_zipLT {X : Cx} {e f : Expr} {ta : TA} {p q tp : Pos} {es : List Expr} {kk : Nat} (hg : Gl X "zip") (hm : X.mg "zip" = none) (ha : PA X [e, f] ta)
    (hs : starEach [e, f] X.env = (false, eval e X.env) :: starEach [f] X.env := by rfl) (hpl : (backTo q (starEach [f] X.env)).any (·.1) = false := by rfl) :
    PI X (.Tuple es kk tp) (.Call (.Name "zip" p) [e, f] [] q) (iZipLT X.K ta) := by
  constructor
  intro pins s σ H R I h
  refine Call_ (ld_blt I hg hm boot_zip (callWith_type1 (thn (ha.run q pins s σ H _ I h) ?_) hs hpl))
  rintro ws s1 ⟨vs, H1, I1, r1, a, b, xs, ys, rfl, ⟨qa, qb⟩, want⟩
  cases r1 with
  | cons ra rr =>
    cases rr with
    | cons rb rr =>
      cases rr
      cases ra
      cases rb
      obtain ⟨us, ru, pu, _⟩ := I1.list qa
      obtain ⟨vs, rv, pv, _⟩ := I1.tuple qb
      have la : a < s1.heap.objs.size := pu.lt
      have lb : b < s1.heap.objs.size := by
        obtain ⟨o, ho, _⟩ := id pv
        exact Heap.lt_size ho
      refine zip_begins2 (begins_list a us.toArray) (begins_tuple b vs.toArray) pu.isList pv fun h2 hz hI hO e1 e2 sz kp => wpAny_pyIter_zip hz ?_
      have I2 : Inv X pins σ H1 { s1 with heap := h2 } := I1.kept (t' := s1.toks) kp
      have Z := zip_sep2 (N := s1.heap.objs.size) (fp1 := [a]) (fp2 := [b]) (by simpa using la) (by simpa using lb)
      refine ⟨s1.heap.objs.size + 4, [s1.heap.objs.size + 4, s1.heap.objs.size + 2, s1.heap.objs.size + 3, s1.heap.objs.size, s1.heap.objs.size + 1], _, _, H1, rfl, I2, turn_LT Z (Nat.ne_of_lt la) (Nat.ne_of_lt (Nat.lt_succ_of_lt lb)), { hz := hz, hI := hI, hO := ⟨_, _, hO⟩, l1 := ⟨_, e1, rfl, rfl⟩, l2 := ⟨_, e2, rfl, rfl⟩ }, fun c hc => ?_, want⟩
      have le : s1.heap.objs.size ≤ c := five (R := fun c => s1.heap.objs.size ≤ c) hc (Nat.le_add_right ..) (Nat.le_add_right ..) (Nat.le_add_right ..) (Nat.le_refl _) (Nat.le_add_right ..)
      exact I1.fpOk le (I1.hok.fresh le)
theorem k_piZLT (K : PySem.W.Frag) {X : Cx} {e f : Expr} {ta : TA} {p q tp : Pos} {es : List Expr} {kk : Nat} (hg : Gl X "zip") (hm : X.mg "zip" = none) (ha : PA X [e, f] ta)
    (hs : starEach [e, f] X.env = (false, eval e X.env) :: starEach [f] X.env := by rfl) (hpl : (backTo q (starEach [f] X.env)).any (·.1) = false := by rfl) (hK : X.K = K := by rfl) :
    PI X (.Tuple es kk tp) (.Call (.Name "zip" p) [e, f] [] q) (iZipLT K ta) := by subst hK; exact pi_zipLT hg hm ha hs hpl
section
variable {K : PySem.W.Frag} {σ : L2.St} {H : Hp} {ts : TS} {D : Ends} {g : TG} {tA : TA}
theorem i_iZLT {R : It → Hp → Prop} (h : tA σ H fun vs H1 => ∃ a b xs ys, vs = [.ref a, .ref b] ∧ (SqL K H1 a xs ∧ SqT K H1 b ys) ∧ R (ItLT K a b) H1) : iZipLT K tA σ H R := h
theorem i_itZLT {R : Addr → Addr → Prop} {a b : Addr} {xs ys : List V} (h1 : SqL K H a xs) (h2 : Tp K H b ys) (h : R a b) : ∃ a' b' xs ys, [V.ref a, V.ref b] = [.ref a', .ref b'] ∧ (SqL K H a' xs ∧ SqT K H b' ys) ∧ R a' b' := ⟨a, b, xs, ys, rfl, ⟨h1, h2.sq⟩, h⟩
theorem i_forZLT {a b : Addr} {xs ys : List V} (hl : xs.length = ys.length) (I : Nat → L2.St → Hp → Prop) (h0 : I 0 σ H) (hq : ∀ i σ H, i ≤ xs.length → I i σ H → SqL K H a xs ∧ Tp K H b ys)
    (hs : ∀ i x y σ' H0 T H', xs[i]? = some x → ys[i]? = some y → I i σ' H0 → New H0 T → Same H0 H' → TpH H' T [x, y] → g (.ref T) σ' H' fun σ2 H2 => ts { D with nx := I (i + 1), ct := I (i + 1), bk := D.nx } σ2 H2)
    (hd : ∀ σ' H', I xs.length σ' H' → D.nx σ' H') : ForI (ItLT K a b) g ts D σ H := by
  refine ⟨fun i m σ H => (m = xs.length - i ∧ i ≤ xs.length) ∧ I i σ H, ⟨_, ⟨rfl, Nat.zero_le _⟩, h0⟩, ?_⟩
  rintro i m σ' H' ⟨⟨rfl, hi⟩, hI⟩
  obtain ⟨q1, q2⟩ := hq i σ' H' hi hI
  by_cases c : i < xs.length
  · refine .inr ⟨⟨xs, ys, xs[i], ys[i]'(by omega), ⟨q1, q2.sq⟩, List.getElem?_eq_getElem c, List.getElem?_eq_getElem (by omega)⟩, fun σ2 H2 => I (i + 1) σ2 H2, fun σ2 H2 h2 => ⟨xs.length - (i + 1), by omega, ⟨rfl, by omega⟩, h2⟩, ?_⟩
    rintro v H2 ⟨T, x, y, ⟨rfl, nT⟩, rfl, hxy⟩
    obtain ⟨hx, hy⟩ := hxy xs ys q1 q2.sq
    exact hs i x y σ' H' T _ hx hy hI nT (same_new nT) ⟨upd_same⟩
  · have e : i = xs.length := by omega
    subst e
    exact .inl ⟨⟨xs, ys, ⟨q1, q2.sq⟩, rfl, hl⟩, hd σ' H' hI⟩
end
end Pm

namespace Pm
open PySem PySem.Spec PyProof.Rows L2
/-! ### for i, b in enumerate(tuple) -/
/-- an enumerate's cell, as it is made over the iterator at j -/
abbrev enO (j : Addr) : Obj := { cls := .type "enumerate", data := .fields #[.none, .bool false, .ref j, rawInt 0, .none, .none] }
theorem en_new {v : Value} {o : Obj} {P : Heap → Prop} (B : Begins v o P) : Meets (Builtin.«enumerate.__new__» ⟨[.type "enumerate", v], []⟩) (fun _ R s => P s.heap ∧
    R (.ok (.ret (.ref (s.heap.push o).objs.size))) { s with heap := (s.heap.push o).push (enO s.heap.objs.size) }) := by
  refine .of_wp fun prog w A R s hh => ?_
  obtain ⟨hp, g, d, tk, os⟩ := s
  obtain ⟨p1, want⟩ := hh
  have su := sub_enumerate
  have go : ∀ {A' : Around} {E : Value → Shared → Prop} {Q : Value → Shared → Prop}, Q (.ref hp.objs.size) ⟨hp.push o, g, d, tk, os⟩ → wpAny (model prog w) A' (pyIter v) Q E ⟨hp, g, d, tk, os⟩ := fun q => B.iter prog w _ _ _ _ p1 q
  wp_walk using go
  refine wpAny_stack_any fun st => wpAny_pure ?_
  split
  · rename_i cc _ _ _ _ _
    cases (cc == Value.type "enumerate")
    all_goals
      wp_walk using go
      exact ⟨_, rfl, want⟩
  · wp_walk using go
    exact ⟨_, rfl, want⟩
theorem call_en {prog : Program} {w : World} {A : Around} {E : Value → Shared → Prop} {s : Shared} {v : Value} {o : Obj} {P : Heap → Prop} {Q : Value → Shared → Prop} (B : Begins v o P) (p1 : P s.heap)
    (want : ∀ h2, IsEnum h2 (s.heap.objs.size + 1) s.heap.objs.size 0 .none → h2.get? s.heap.objs.size = some o → (∀ c x, s.heap.get? c = some x → h2.get? c = some x) → Q (.ref (s.heap.objs.size + 1)) { s with heap := h2 }) :
    wpAny (model prog w) A (call (.type "enumerate") [v]) Q E s := by
  refine callType_new F.called_enumerate (by decide) (F.typeCall_enumerate_1 _) (F.newCall_enumerate_1 _) (fun x => F.args_object_init_2 x _) F.entry_enumerate_new (en_new B) ⟨p1, ?_⟩
  have sz : (s.heap.push o).objs.size = s.heap.objs.size + 1 := Heap.size_push ..
  show _ ∧ _
  rw [sz]
  have made := Heap.get?_push_size (s.heap.push o) (o := enO s.heap.objs.size) rfl
  rw [sz] at made
  have en : IsEnum ((s.heap.push o).push (enO s.heap.objs.size)) (s.heap.objs.size + 1) s.heap.objs.size 0 .none := made
  exact ⟨⟨_, en, rfl⟩, want _ en (Heap.get?_push_of_some _ (Heap.get?_push_size _ B.free)) fun c x q => Heap.get?_push_of_some _ (Heap.get?_push_of_some _ q)⟩
/-- a tuple, walked with numbers -/
def ItET (K : PySem.W.Frag) (a : Addr) : It where
  go := fun i H => ∃ (xs : List V) (x : V), SqT K H a xs ∧ xs[i]? = some x
  yld := fun i H v H' => ∃ T x, (v = .ref T ∧ H T = none) ∧ H' = upd H T (.tup [.int (i : Nat), x]) ∧ ∀ xs, SqT K H a xs → xs[i]? = some x
  stop := fun i H => ∃ xs : List V, SqT K H a xs ∧ i = xs.length
structure ETs (e j a : Addr) (i : Nat) (h : Heap) : Prop where
  he : ∃ u, IsEnum h e j ((i : Nat) : Int) u
  l : h.IsTupleIter j a i
theorem turn_ET {P : Program} {w : World} {K : PySem.W.Frag} {es : List Expr} {kk : Nat} {tp : Pos} {a e j : Addr} (ne : e ≠ j) (na : a ≠ j) (nea : e ≠ a) :
    Turn P w K (.Tuple es kk tp) (ItET K a) [e, j] e (ETs e j a) := by
  have two : ∀ {c : Addr} {R : Addr → Prop}, c ∈ [e, j] → R e → R j → R c := by
    intro c R hc r1 r2
    simp only [List.mem_cons, List.not_mem_nil, or_false] at hc
    rcases hc with rfl | rfl <;> assumption
  have nf : ∀ {c : Addr}, c ∉ [e, j] → c ≠ e ∧ c ≠ j := by
    intro c hc
    simp only [List.mem_cons, List.not_mem_nil, or_false, not_or] at hc
    exact hc
  refine { mem := List.mem_cons_self .., obj := fun i h st c hc => ?_, keep := fun i h h2 st kp => ?_, item := ?_, done := ?_, self := fun A i s Q E st q => ?_ }
  · obtain ⟨u, hu⟩ := st.he
    obtain ⟨o, eo, _, dd⟩ := st.l
    exact two (R := fun c => ∃ o, h.get? c = some o ∧ ∀ m, o.data ≠ .cell m) hc ⟨_, hu, fun _ q => nomatch q⟩ ⟨o, eo, fun m q => by rw [dd] at q; cases q⟩
  · obtain ⟨u, hu⟩ := st.he
    exact { he := ⟨u, kp e (by simp) _ hu⟩, l := st.l.at fun o q => kp j (by simp) o q }
  · intro X eP ew eK calm i pins s σ H E I fp st go
    cases eP
    cases ew
    cases eK
    obtain ⟨xs, x, qa, hx⟩ := go
    obtain ⟨vs, rv, pv, _⟩ := I.tuple qa
    obtain ⟨v, hv, r2⟩ := rv.get hx
    obtain ⟨u0, hu0⟩ := st.he
    have le : e < s.heap.objs.size := Heap.lt_size hu0
    have lj : j < s.heap.objs.size := by
      obtain ⟨_, q, _⟩ := st.l
      exact Heap.lt_size q
    have iv : i < vs.toArray.size := by
      have := (List.getElem?_eq_some_iff.mp hv).1
      simpa using this
    refine wpAny_pyNext_enum_itemD (Draws.tuple (A := X.A.in1) (I.ok.hd calm) j a na vs.toArray) hu0 ⟨st.l, pv⟩ iv ne (by simp [ne, nea]) ?_
    intro v1 h1 tk e2 O1 d2 T1 sz kp
    obtain rfl : v1 = v := by
      have e3 : vs[i]? = some v1 := by simpa using e2
      exact Option.some.inj (e3.symm.trans hv)
    refine ⟨_, rfl, wpAny_letOwnedTupleGo_enum (s := { s with heap := h1, toks := tk + 1 }) O1 fun h2 z2 sb => ?_⟩
    have T2 := (sb.2 _ (Nat.ne_of_gt le)).trans T1
    have fresh : H s.heap.objs.size = none := I.hok.fresh (Nat.le_refl _)
    have made : ObjOk X.prog X.w (upd H s.heap.objs.size (.tup [.int (i : Nat), x])) h2 s.heap.objs.size (.tup [.int (i : Nat), x]) := ⟨Nat.le_trans (Nat.le_refl 2) (by decide), [.int i tk, v1], .cons ⟨_, rfl⟩ (.cons r2 .nil), ⟨_, T2, rfl, _, rfl⟩⟩
    have J := I.turnedNew (t' := tk + 1) (ch := [e, j]) (T := s.heap.objs.size) (ob := .tup [.int (i : Nat), x]) (h' := h2) (fun c o hc q => by
      obtain ⟨c1, c2⟩ := nf hc
      exact (sb.2 c c1).trans (kp c o c1 c2 q)) fp (Nat.le_refl _) made
    refine ⟨.ref s.heap.objs.size, _, J, rfl, ⟨_, x, ⟨rfl, fresh⟩, rfl, fun m hm => ?_⟩, ?_, fun c hc => ?_⟩
    · rw [I.tuple_inj hm qa]
      exact hx
    · have e5 : ((i + 1 : Nat) : Int) = (i : Int) + 1 := by omega
      exact { he := ⟨v1, by rw [e5]; exact z2⟩, l := d2.1.at fun o q => (sb.2 j (Ne.symm ne)).trans q }
    · rw [upd_ne (Nat.ne_of_lt (two (R := fun c => c < s.heap.objs.size) hc le lj))]
      exact (fp c hc).1
  · intro X eP ew eK calm i pins s σ H E I fp st en
    cases eP
    cases ew
    cases eK
    obtain ⟨xs, qa, ex⟩ := en
    obtain ⟨vs, rv, pv, _⟩ := I.tuple qa
    obtain ⟨u0, hu0⟩ := st.he
    have k1 := rv.length
    have k2 : i = vs.toArray.size := by simp; omega
    have D := Draws.tuple (prog := X.prog) (w := X.w) (A := X.A.in1) (I.ok.hd calm) j a na vs.toArray
    have st2 : s.heap.IsTupleIter j a vs.toArray.size ∧ s.heap.IsTuple a vs.toArray := ⟨by rw [← k2]; exact st.l, pv⟩
    refine wpAny_pyNext_enum_endD D hu0 st2 fun h1 eb => ⟨rfl, ?_⟩
    obtain ⟨f0, f1, f2, f3, f4, f5⟩ := fp j (by simp)
    exact I.turned (t' := s.toks) (fun c o hc q => eb c o hc q) f0 f1 f3 f4 f5
  · obtain ⟨u, hu⟩ := st.he
    exact wpAny_pyIter_enum hu q
def iEnT (K : PySem.W.Frag) (ta : TA) : TI := fun σ H R => ta σ H fun vs H1 => ∃ a xs, vs = [.ref a] ∧ SqT K H1 a xs ∧ R (ItET K a) H1
theorem pi_enT {X : Cx} {e : Expr} {ta : TA} {p q tp : Pos} {es : List Expr} {kk : Nat} (hg : Gl X "enumerate") (hm : X.mg "enumerate" = none) (ha : PA X [e] ta) (hs : starEach [e] X.env = [(false, eval e X.env)] := by rfl) :
    PI X (.Tuple es kk tp) (.Call (.Name "enumerate" p) [e] [] q) (iEnT X.K ta) := by
  constructor
  intro pins s σ H R I h
  refine Call_ (ld_blt I hg hm boot_enumerate (callWith_type1 (thn (ha.run q pins s σ H _ I h) ?_) hs rfl))
  rintro ws s1 ⟨vs, H1, I1, r1, a, xs, rfl, qa, want⟩
  cases r1 with
  | cons ra rr =>
    cases rr
    cases ra
    obtain ⟨us, ru, pv, _⟩ := I1.tuple qa
    have la : a < s1.heap.objs.size := by
      obtain ⟨o, ho, _⟩ := id pv
      exact Heap.lt_size ho
    refine call_en (begins_tuple a us.toArray) pv fun h2 he e1 kp => wpAny_pyIter_enum he ?_
    have I2 : Inv X pins σ H1 { s1 with heap := h2 } := I1.kept (t' := s1.toks) kp
    refine ⟨s1.heap.objs.size + 1, [s1.heap.objs.size + 1, s1.heap.objs.size], _, _, H1, rfl, I2, turn_ET (Nat.succ_ne_self _) (Nat.ne_of_lt la) (Ne.symm (Nat.ne_of_lt (Nat.lt_succ_of_lt la))), { he := ⟨_, he⟩, l := ⟨_, e1, rfl, rfl⟩ }, fun c hc => ?_, want⟩
    have low : s1.heap.objs.size ≤ c := by
      simp only [List.mem_cons, List.not_mem_nil, or_false] at hc
      rcases hc with rfl | rfl
      · exact Nat.le_add_right ..
      · exact Nat.le_refl _
    exact I1.fpOk low (I1.hok.fresh low)
theorem k_piET (K : PySem.W.Frag) {X : Cx} {e : Expr} {ta : TA} {p q tp : Pos} {es : List Expr} {kk : Nat} (hg : Gl X "enumerate") (hm : X.mg "enumerate" = none) (ha : PA X [e] ta) (hs : starEach [e] X.env = [(false, eval e X.env)] := by rfl) (hK : X.K = K := by rfl) :
    PI X (.Tuple es kk tp) (.Call (.Name "enumerate" p) [e] [] q) (iEnT K ta) := by subst hK; exact pi_enT hg hm ha hs
section
variable {K : PySem.W.Frag} {σ : L2.St} {H : Hp} {ts : TS} {D : Ends} {g : TG} {tA : TA}
theorem i_iET {R : It → Hp → Prop} (h : tA σ H fun vs H1 => ∃ a xs, vs = [.ref a] ∧ SqT K H1 a xs ∧ R (ItET K a) H1) : iEnT K tA σ H R := h
theorem i_itET {R : Addr → Prop} {a : Addr} {xs : List V} (h1 : Tp K H a xs) (h : R a) : ∃ b ys, [V.ref a] = [.ref b] ∧ SqT K H b ys ∧ R b := ⟨a, xs, rfl, h1.sq, h⟩
theorem i_forET {a : Addr} {xs : List V} (I : Nat → L2.St → Hp → Prop) (h0 : I 0 σ H) (hq : ∀ i σ H, i ≤ xs.length → I i σ H → Tp K H a xs)
    (hs : ∀ i x σ' H0 T H', xs[i]? = some x → I i σ' H0 → New H0 T → Same H0 H' → H' T = some (.tup [.int (i : Nat), x]) → g (.ref T) σ' H' fun σ2 H2 => ts { D with nx := I (i + 1), ct := I (i + 1), bk := D.nx } σ2 H2)
    (hd : ∀ σ' H', I xs.length σ' H' → D.nx σ' H') : ForI (ItET K a) g ts D σ H := by
  refine ⟨fun i m σ H => (m = xs.length - i ∧ i ≤ xs.length) ∧ I i σ H, ⟨_, ⟨rfl, Nat.zero_le _⟩, h0⟩, ?_⟩
  rintro i m σ' H' ⟨⟨rfl, hi⟩, hI⟩
  have q1 := hq i σ' H' hi hI
  by_cases c : i < xs.length
  · refine .inr ⟨⟨xs, xs[i], q1.sq, List.getElem?_eq_getElem c⟩, fun σ2 H2 => I (i + 1) σ2 H2, fun σ2 H2 h2 => ⟨xs.length - (i + 1), by omega, ⟨rfl, by omega⟩, h2⟩, ?_⟩
    rintro v H2 ⟨T, x, ⟨rfl, nT⟩, rfl, hx⟩
    exact hs i x σ' H' T _ (hx xs q1.sq) hI nT (same_new nT) upd_same
  · have e : i = xs.length := by omega
    subst e
    exact .inl ⟨⟨xs, q1.sq, rfl⟩, hd σ' H' hI⟩
end
end Pm

namespace Pm
open PySem PySem.Spec PyProof.Rows L2
/-! first, *rest = a list or a tuple -/
section
variable {X : Cx} {pins : List (Addr × Obj)} {s : Shared} {σ : L2.St} {H : Hp}
/-- the list of what is left, behind the walk, by whatever road -/
theorem star_new (I : Inv X pins σ H s) {h₂ : Heap} {tk : Nat} {xs : List V} {us : List Value} {Q : Value → Shared → Prop} (rv : Vals xs us) (hz : us.length ≤ 16383) (hk : ∀ b o, s.heap.get? b = some o → h₂.get? b = some o)
    (q : ∀ D s', H D = none → Inv X pins σ (upd H D (.lst xs)) s' → Q (.ref D) s') :
    wpAny (model X.prog X.w) X.A (newList us) Q X.xe { s with heap := h₂, toks := tk } := by
  have I1 : Inv X pins σ H { s with heap := h₂, toks := tk } := I.kept hk
  refine wpAny_newList ?_ (by rw [sizeLine_eq]; omega)
  exact q h₂.objs.size _ (I1.hok.fresh (Nat.le_refl _)) (I1.laid (t' := tk) (fun b u e => Heap.get?_push_of_some _ e) (Nat.le_refl _)
    (show ObjOk X.prog X.w _ _ _ (.lst xs) from ⟨by rw [sizeLine_eq]; have := rv.length; omega, us, 0, rv, Heap.get?_push_size _ rfl⟩))
/-- `first, *rest` of what is walked by I2 over `its`, the first value drawn -/
theorem star_end (I : Inv X pins σ H s) {z : V} {xs : List V} {its : List Value} {l IT : Addr} {T : String} {St : Nat → Heap → Prop} {h₁ : Heap} {Q : List Value → Shared → Prop} (rv : Vals (z :: xs) its) (hz : xs.length ≤ 16383)
    (hT : T = "str_ascii_iterator" ∨ T = "str_iterator" ∨ T = "list_iterator" ∨ T = "tuple_iterator") (W : Walks X.prog X.w X.A.in1 IT [IT, l] [IT] its.toArray.size (fun i v => its.toArray[i]? = some v) St)
    (ht : ∀ i (u : Shared), St i u.heap → u.TypeIs (.ref IT) T) (st : St 1 h₁) (i1 : IT < h₁.objs.size) (i2 : l < h₁.objs.size) (n1 : s.heap.get? IT = none) (hk : ∀ b o, s.heap.get? b = some o → h₁.get? b = some o)
    (q : ∀ uz D s', RelV z uz → H D = none → Inv X pins σ (upd H D (.lst xs)) s' → Q [uz, .ref D] s') :
    wpAny (model X.prog X.w) X.A (do
      let rest ← holding (its.toArray.toList.take 1) (collect (.ref IT))
      if rest.length < 2 - 1 - 1 then
        rule "unpack.star.too-few"
        raiseError "ValueError" s!"not enough values to unpack (expected at least {2 - 1}, got {1 + rest.length})"
      return (its.toArray.toList.take 1) ++ [← newList (rest.take (rest.length - (2 - 1 - 1)))] ++ rest.drop (rest.length - (2 - 1 - 1))) Q X.xe { s with heap := h₁ } := by
  obtain ⟨uz, us, rfl, rz, ru⟩ : ∃ uz us, its = uz :: us ∧ RelV z uz ∧ Vals xs us := by
    cases rv with
    | cons a b => exact ⟨_, _, rfl, a, b⟩
  have hl := ru.length
  have e0 : (uz :: us).toArray.toList = uz :: us := by simp
  refine wpAny_bind (wpAny_holding (PySem.W.kun_collect (s := { s with heap := h₁ }) hT W ht (k := 1) (by simp) st i1 i2 (fun h₂ tk hk2 => ?_) (by rw [sizeLine_eq]; simp; omega)))
  rw [e0]
  show wpAny _ _ (if us.length < 0 then _ else _) _ _ _
  rw [if_neg (Nat.not_lt_zero _)]
  show wpAny _ _ (newList (us.take (us.length - 0)) >>= fun d => pure ([uz] ++ [d] ++ us.drop (us.length - 0))) _ _ _
  rw [Nat.sub_zero, List.take_length, List.drop_length]
  have kk : ∀ b o, s.heap.get? b = some o → h₂.get? b = some o := fun b o e => hk2 b o (fun z => by rw [z] at e; rw [n1] at e; cases e) (hk b o e)
  exact wpAny_bind (star_new (s := s) (tk := tk) I ru (by omega) kk fun D s' hD I' => wpAny_pure (q uz D s' rz hD I'))
end
def gStar (K : PySem.W.Frag) (t : TGs) : TG := fun v σ H Q => ∃ a z xs, v = .ref a ∧ (SqL K H a (z :: xs) ∨ SqT K H a (z :: xs)) ∧ xs.length ≤ 16000 ∧ ∀ p, H p = none → t [z, .ref p] σ (upd H p (.lst xs)) Q
theorem pg_star {X : Cx} {pos : Pos} {e1 e2 : Expr} {sp : Pos} {k : Nat} {t : TGs} (hc : X.calm = true) (h : PGs X [e1, e2] t)
    (he : assignEach [e1, .Starred e2 sp] X.env = [(false, assign e1 X.env), (true, assign e2 X.env)] := by rfl) (he2 : (assignEach [e1, e2] X.env).map (·.2) = [assign e1 X.env, assign e2 X.env] := by rfl) : PG X (.Tuple [e1, .Starred e2 sp] k pos) (gStar X.K t) := by
  refine ⟨fun pins s σ H v u Q I r hw => ?_⟩
  obtain ⟨a, z, xs, e, hq, hl, hw⟩ := hw
  subst e
  cases r
  have fin : ∀ uz D s', RelV z uz → H D = none → Inv X pins σ (upd H D (.lst xs)) s' → wpAny (model X.prog X.w) X.A (assignInOrder [assign e1 X.env, assign e2 X.env] [uz, .ref D]) (fun _ s' => ∃ σ' H', Inv X pins σ' H' s' ∧ Q σ' H') X.xe s' := fun uz D s' rz hD I' => by
    have := h.run pins s' σ _ [z, .ref D] [uz, .ref D] Q I' (.cons rz (.cons rfl .nil)) (hw D hD)
    rwa [he2] at this
  have hh := I.ok.hd hc
  rw [PyProof.Rows.assign_Tuple]
  refine wpAny_bind (wpAny_standAt ?_)
  unfold unpack
  rw [he]
  show wpAny _ _ (holding _ (unpackItems _ 2 (some 1)) >>= fun us => assignInOrder [assign e1 X.env, assign e2 X.env] us) _ _ _
  refine wpAny_bind (wpAny_holding ?_)
  rcases hq with hq | hq
  · obtain ⟨its, rv, pl, hz⟩ := I.list hq
    have hl' : s.heap.IsList a its.toArray := by
      obtain ⟨o, m, e, c, d, q⟩ := pl
      exact ⟨o, e, c, m, q⟩
    have hlt : a < s.heap.objs.size := by obtain ⟨o, ho, _⟩ := hl'; exact Heap.lt_size ho
    have hne : a ≠ s.heap.objs.size := Nat.ne_of_lt hlt
    have hsz : its.toArray.size = xs.length + 1 := by have := rv.length; simp at this; simp; omega
    unfold unpackItems notIterableAtAll
    refine wpAny_bind (wpAny_bind (wpAny_specialOf hl'.typeIs slot_list_iter.lookup (wpAny_pure ?_)))
    rw [if_neg (by simp)]
    refine wpAny_bind (wpAny_holding (wpAny_pyIter_list hl' (wpAny_bind (wpAny_holding (PySem.W.kun_draw hne 1 0 _ _ ⟨_, Heap.get?_push_size _ rfl, rfl, rfl⟩ (hl'.push _) (by omega) fun h₁ t1 t2 => ?_)))))
    have hl₁ : h₁.IsList a its.toArray := (hl'.push _).extBut t2.extBut hne
    have hk : ∀ b o, s.heap.get? b = some o → h₁.get? b = some o := fun b o e => t2.extBut b o (Nat.ne_of_lt (Heap.lt_size e)) (Heap.get?_push_of_some _ e)
    rw [List.drop_zero, if_neg (by rw [List.length_take, List.toList_toArray, ← rv.length, List.length_cons]; omega)]
    have hit : h₁.IsListIter s.heap.objs.size a 1 := t1
    have i1 : s.heap.objs.size < h₁.objs.size := by obtain ⟨o, ho, _⟩ := hit; exact Heap.lt_size ho
    have i2 : a < h₁.objs.size := by obtain ⟨o, ho, _⟩ := hl₁; exact Heap.lt_size ho
    refine star_end I rv (by omega) (T := "list_iterator") (.inr (.inr (.inl rfl))) (Walks.list (A := X.A.in1) hh s.heap.objs.size a hne its.toArray) (fun j u st => st.1.typeIs) ⟨hit, hl₁⟩ i1 i2 (by cases e : s.heap.get? s.heap.objs.size with | none => rfl | some o => exact absurd (Heap.lt_size e) (Nat.lt_irrefl _)) hk fin
  · obtain ⟨its, rv, hl', hz⟩ := I.tuple hq
    have hlt : a < s.heap.objs.size := by obtain ⟨o, ho, _⟩ := hl'; exact Heap.lt_size ho
    have hne : a ≠ s.heap.objs.size := Nat.ne_of_lt hlt
    have hsz : its.toArray.size = xs.length + 1 := by have := rv.length; simp at this; simp; omega
    unfold unpackItems notIterableAtAll
    refine wpAny_bind (wpAny_bind (wpAny_specialOf hl'.typeIs slot_tuple_iter.lookup (wpAny_pure ?_)))
    rw [if_neg (by simp)]
    refine wpAny_bind (wpAny_holding (iter_tuple hl' (wpAny_bind (wpAny_holding (draw_tuple hne 1 0 _ _ ⟨_, Heap.get?_push_size _ rfl, rfl, rfl⟩ (hl'.push _) (by omega) fun h₁ t1 t2 => ?_)))))
    have hl₁ : IsTup h₁ a its.toArray := (hl'.push _).extBut t2.extBut hne
    have hk : ∀ b o, s.heap.get? b = some o → h₁.get? b = some o := fun b o e => t2.extBut b o (Nat.ne_of_lt (Heap.lt_size e)) (Heap.get?_push_of_some _ e)
    rw [List.drop_zero, if_neg (by rw [List.length_take, List.toList_toArray, ← rv.length, List.length_cons]; omega)]
    have hit : IsTupIter h₁ s.heap.objs.size a 1 := t1
    have i1 : s.heap.objs.size < h₁.objs.size := by obtain ⟨o, ho, _⟩ := hit; exact Heap.lt_size ho
    have i2 : a < h₁.objs.size := by obtain ⟨o, ho, _⟩ := hl₁; exact Heap.lt_size ho
    refine star_end I rv (by omega) (T := "tuple_iterator") (.inr (.inr (.inr rfl))) (Walks.tuple (A := X.A.in1) hh s.heap.objs.size a hne its.toArray) (fun j u st => st.1.typeIs) ⟨hit, hl₁⟩ i1 i2 (by cases e : s.heap.get? s.heap.objs.size with | none => rfl | some o => exact absurd (Heap.lt_size e) (Nat.lt_irrefl _)) hk fin
theorem k_gstar {X : Cx} {pos : Pos} {e1 e2 : Expr} {sp : Pos} {k : Nat} {t : TGs} (K : PySem.W.Frag) (hc : X.calm = true) (h : PGs X [e1, e2] t) (he : assignEach [e1, .Starred e2 sp] X.env = [(false, assign e1 X.env), (true, assign e2 X.env)] := by rfl)
    (he2 : (assignEach [e1, e2] X.env).map (·.2) = [assign e1 X.env, assign e2 X.env] := by rfl) (hK : X.K = K := by rfl) : PG X (.Tuple [e1, .Starred e2 sp] k pos) (gStar K t) := by subst hK; exact pg_star hc h he he2
section
variable {K : PySem.W.Frag} {σ : L2.St} {H : Hp} {Q : VK} {te : TE} {tt : TT} {g : TG} {v y : V} {vs : List Nat}
theorem i_gstar {a : Addr} {z : V} {xs : List V} {t : TGs} {N : L2.St → Hp → Prop} (h1 : SqL K H a (z :: xs) ∨ Tp K H a (z :: xs)) (hl : xs.length ≤ 16000) (h : ∀ p H', New H p → Same H H' → H' p = some (.lst xs) → t [z, .ref p] σ H' N) : gStar K t (.ref a) σ H N :=
  ⟨a, z, xs, rfl, h1.imp id Tp.sq, hl, fun p hp => h p _ hp (same_new hp) upd_same⟩
/-! repr of whatever is data -/
def rReprV (K : PySem.W.Frag) : List V → Hp → VK → Prop := fun xs H Q => ∃ (v : V) (d : PyData), xs = [v] ∧ Dp K H v d ∧ d.showable = true ∧ d.hasDict = false ∧ d.depth ≤ 60 ∧ d.shown.length ≤ sizeLine ∧ Q (.str d.shown) H
theorem call_reprV {X : Cx} {k : Nat} (hG : X.A.guards = some []) (hr : Room k X.A) : CallR X (.builtin "repr") (rReprV X.K) := by
  intro pins s σ H xs us Q I r h
  obtain ⟨v, d, rfl, hd, hs, hn, hdp, hz, q⟩ := h
  cases hd with
  | non =>
    obtain ⟨u, rfl, ru⟩ := vals1 r
    cases ru
    exact PySem.P.repr_of_none ⟨.str _, H, I.tok _, ⟨_, rfl⟩, by simpa only [PyData.shown] using q⟩
  | bl b =>
    obtain ⟨u, rfl, ru⟩ := vals1 r
    cases ru
    exact PySem.P.repr_of_bool ⟨.str _, H, I.tok _, ⟨_, rfl⟩, by simpa only [PyData.shown] using q⟩
  | int i =>
    obtain ⟨u, rfl, t, rfl⟩ := vals1 r
    exact PySem.P.repr_of_int (by simpa [PyData.showable] using hs) ⟨.str _, H, I.tok _, ⟨_, rfl⟩, by simpa only [PyData.shown] using q⟩
  | str x =>
    obtain ⟨u, rfl, t, rfl⟩ := vals1 r
    exact PySem.P.repr_of_str ⟨.str _, H, I.tok _, ⟨_, rfl⟩, by simpa only [PyData.shown] using q⟩ (by simpa only [PyData.shown] using hz)
  | lst a b => exact call_reprD hG hr pins s σ H _ us Q I r ⟨_, _, rfl, .lst a b, hs, hn, hdp, hz, q⟩
  | tup a b => exact call_reprD hG hr pins s σ H _ us Q I r ⟨_, _, rfl, .tup a b, hs, hn, hdp, hz, q⟩
theorem k_reprV {X : Cx} {k : Nat} (K : PySem.W.Frag) (hG : X.A.guards = some []) (hr : Room k X.A) (hK : X.K = K := by rfl) : CallR X (.builtin "repr") (rReprV K) := by subst hK; exact call_reprV hG hr
theorem i_reprV {d : PyData} {n m : Nat} (h1 : Dp K H v d) (h2 : Ok n m d) (hn : n ≤ 60) (hm : m ≤ 16000000) (h : Q (.str d.shown) H) : rReprV K [v] H Q := ⟨v, d, rfl, h1, h2.sh, h2.noDict, Nat.le_trans h2.dp hn, Nat.le_trans (Nat.le_trans h2.ln hm) (by decide), h⟩
theorem Ok.str {z : Str} {m : Nat} (e : PyData.strOk z = true) (h : (PyData.str z).shown.length ≤ m) : Ok 0 m (.str z) := ⟨by simp only [PyData.showable], by simp only [PyData.canLay0, e], by simp only [PyData.depth]; omega, h⟩
/-! comprehensions that change what stands -/
theorem i_lcG {a : Addr} {xs : List V} (I : Addr → Nat → Hp → Prop) (h0 : ∀ A, New H A → I A 0 (upd H A (.lst []))) (hq : ∀ A i H', New H A → I A i H' → SqL K H' a xs)
    (hs : ∀ A i x H', New H A → xs[i]? = some x → i < xs.length → I A i H' → g x (wipe σ vs) H' fun σ2 H2 => wipe σ2 vs = wipe σ vs ∧ tt σ2 H2 fun b H3 =>
      if b = true then te σ2 H3 fun y H4 => ∃ acc, H4 A = some (.lst acc) ∧ acc.length < sizeLine ∧ I A (i + 1) (upd H4 A (.lst (acc ++ [y]))) else I A (i + 1) H3)
    (h : ∀ A H', New H A → I A xs.length H' → Q (.ref A) H') : LcI (Itl K a) g tt te vs Q σ H := by
  intro A hA
  exact lc_list (a := a) (xs := xs) (fun i H' => I A i H') (h0 A hA) (fun i H' _ p => hq A i H' hA p) (fun i x H' hx p => hs A i x H' hA hx (List.getElem?_eq_some_iff.mp hx).1 p) fun H' p => h A H' hA p
theorem i_lcGT {a : Addr} {xs : List V} (I : Addr → Nat → Hp → Prop) (h0 : ∀ A, New H A → I A 0 (upd H A (.lst []))) (hq : ∀ A i H', New H A → I A i H' → Tp K H' a xs)
    (hs : ∀ A i x H', New H A → xs[i]? = some x → i < xs.length → I A i H' → g x (wipe σ vs) H' fun σ2 H2 => wipe σ2 vs = wipe σ vs ∧ tt σ2 H2 fun b H3 =>
      if b = true then te σ2 H3 fun y H4 => ∃ acc, H4 A = some (.lst acc) ∧ acc.length < sizeLine ∧ I A (i + 1) (upd H4 A (.lst (acc ++ [y]))) else I A (i + 1) H3)
    (h : ∀ A H', New H A → I A xs.length H' → Q (.ref A) H') : LcI (Itt K a) g tt te vs Q σ H := by
  intro A hA
  exact lc_tup (a := a) (xs := xs) (fun i H' => I A i H') (h0 A hA) (fun i H' _ p => (hq A i H' hA p).sq) (fun i x H' hx p => hs A i x H' hA hx (List.getElem?_eq_some_iff.mp hx).1 p) fun H' p => h A H' hA p
theorem i_lcGR {lo : Int} {n : Nat} (I : Addr → Nat → Hp → Prop) (h0 : ∀ A, New H A → I A 0 (upd H A (.lst [])))
    (hs : ∀ A i H', New H A → i < n → I A i H' → g (.int (lo + i)) (wipe σ vs) H' fun σ2 H2 => wipe σ2 vs = wipe σ vs ∧ tt σ2 H2 fun b H3 =>
      if b = true then te σ2 H3 fun y H4 => ∃ acc, H4 A = some (.lst acc) ∧ acc.length < sizeLine ∧ I A (i + 1) (upd H4 A (.lst (acc ++ [y]))) else I A (i + 1) H3)
    (h : ∀ A H', New H A → I A n H' → Q (.ref A) H') : LcI (Itr lo n) g tt te vs Q σ H := by
  intro A hA
  exact lc_range (fun i H' => I A i H') (h0 A hA) (fun i H' hi p => hs A i H' hA hi p) fun H' p => h A H' hA p
theorem i_acc {A : Addr} {H4 : Hp} {acc : List V} {I : Hp → Prop} (h : H4 A = some (.lst acc)) (hl : acc.length ≤ 100000) (k : ∀ H', Fx A A H4 H' → H' A = some (.lst (acc ++ [y])) → I H') : ∃ acc, H4 A = some (.lst acc) ∧ acc.length < sizeLine ∧ I (upd H4 A (.lst (acc ++ [y]))) :=
  ⟨acc, h, Nat.lt_of_le_of_lt hl (by decide), k _ (fx_upd h) upd_same⟩
theorem i_popAt {p : Addr} {xs : List V} {j : Int} (h1 : H p = some (.lst xs)) (j0 : 0 ≤ j) (j1 : j < xs.length) (hl : xs.length ≤ 100000) (h : ∀ (k : Nat) (y : V) H', k = j.toNat → xs[k]? = some y → Fx p p H H' → H' p = some (.lst (xs.eraseIdx k)) → Q y H') : rPopAt (.ref p) [.int j] H Q :=
  ⟨p, xs, j, j.toNat, xs[j.toNat]'(by omega), rfl, rfl, h1, by omega, by omega, by
    obtain ⟨k, rfl⟩ : ∃ k : Nat, j = k := ⟨j.toNat, by omega⟩
    exact seqIndex_of (by omega) (by omega), List.getElem?_eq_getElem (by omega), h _ _ _ rfl (List.getElem?_eq_getElem (by omega)) (fx_upd h1) upd_same⟩
end
/-! a loop over a list or a tuple -/
def iSeq (K : PySem.W.Frag) (tl : TE) : TI := fun σ H R => tl σ H fun x H1 => ∃ a, x = .ref a ∧ (((∃ xs, SqL K H1 a xs) ∧ R (Itl K a) H1) ∨ ((∃ xs, SqT K H1 a xs) ∧ R (Itt K a) H1))
theorem pi_seq {X : Cx} {tg l : Expr} {tl : TE} (hl : PE X l tl) : PI X tg l (iSeq X.K tl) := ⟨fun pins s σ H R I h => thn (hl.run pins s σ H _ I h) fun v s1 ⟨x, H1, I1, r1, a, e, q⟩ => by
  subst e
  cases r1
  have kp : ∀ o, Inv X pins σ H1 { s1 with heap := s1.heap.push o, toks := s1.toks } := fun o => I1.kept fun b u e => Heap.get?_push_of_some _ e
  have fp : ∀ b ∈ [s1.heap.objs.size], FpOk X pins H1 b := fun b hb => by
    obtain rfl := List.mem_singleton.mp hb
    exact I1.fpOk (Nat.le_refl _) (I1.hok.fresh (Nat.le_refl _))
  rcases q with ⟨⟨xs, hq⟩, q⟩ | ⟨⟨xs, hq⟩, q⟩
  · obtain ⟨its, rv, p, hz⟩ := I1.list hq
    exact wpAny_pyIter_list p.isList ⟨_, [_], _, _, H1, rfl, kp _, turn_list a _, ⟨_, Heap.get?_push_size _ rfl, rfl, rfl⟩, fp, q⟩
  · obtain ⟨its, rv, p, hz⟩ := I1.tuple hq
    exact wpAny_pyIter_tuple (show s1.heap.IsTuple a its.toArray from p) ⟨_, [_], _, _, H1, rfl, kp _, turn_tuple a _, ⟨_, Heap.get?_push_size _ rfl, rfl, rfl⟩, fp, q⟩⟩
theorem k_piS {X : Cx} (K : PySem.W.Frag) {tg l : Expr} {tl : TE} (hl : PE X l tl) (hK : X.K = K := by rfl) : PI X tg l (iSeq K tl) := by subst hK; exact pi_seq hl
/-- a list (false) or a tuple (true) -/
def SqV (K : PySem.W.Frag) (H : Hp) (p : Addr) (t : Bool) (xs : List V) : Prop := if t = true then Tp K H p xs else SqL K H p xs
section
variable {K : PySem.W.Frag} {σ : L2.St} {H H' : Hp} {Q : VK} {D : Ends} {g : TG} {ts : TS} {a p : Addr} {t : Bool} {xs : List V}
theorem SqV.same (h : SqV K H p t xs) (e : Same H H') : SqV K H' p t xs := by
  cases t
  · exact b_L e h
  · exact Tp.mono e h
theorem SqV.or (h : SqV K H p t xs) : SqL K H p xs ∨ Tp K H p xs := by
  cases t
  · exact .inl h
  · exact .inr h
theorem i_lenV (h1 : SqV K H p t xs) (h : Q (.int xs.length) H) : rLenU K [.ref p] H Q := ⟨p, xs, rfl, h1.or.imp id Tp.sq, h⟩
theorem i_iS {R : It → Hp → Prop} {tl : TE} (h : tl σ H fun x H1 => ∃ a, x = .ref a ∧ (((∃ xs, SqL K H1 a xs) ∧ R (Itl K a) H1) ∨ ((∃ xs, SqT K H1 a xs) ∧ R (Itt K a) H1))) : iSeq K tl σ H R := h
theorem i_forS (h1 : SqV K H a t xs) (I : Nat → L2.St → Hp → Prop) (h0 : I 0 σ H) (hl : ∀ i σ H, i ≤ xs.length → I i σ H → SqV K H a t xs)
    (hs : ∀ i x σ' H', xs[i]? = some x → I i σ' H' → g x σ' H' fun σ2 H2 => ts { D with nx := I (i + 1), ct := I (i + 1), bk := D.nx } σ2 H2)
    (hd : ∀ σ' H', I xs.length σ' H' → D.nx σ' H') : ∃ b, V.ref a = .ref b ∧ (((∃ xs, SqL K H b xs) ∧ ForI (Itl K b) g ts D σ H) ∨ ((∃ xs, SqT K H b xs) ∧ ForI (Itt K b) g ts D σ H)) := by
  refine ⟨a, rfl, ?_⟩
  cases t
  · exact .inl ⟨⟨xs, h1⟩, i_forL (xs := xs) I h0 hl hs hd⟩
  · exact .inr ⟨⟨xs, Tp.sq h1⟩, i_forT (xs := xs) I h0 hl hs hd⟩
end
/-! methods within a comprehension -/
theorem k_bm {X : Cx} {o e : Expr} {es : List Expr} {to : TE} {t : TA} {name : Str} {apos cpos : Pos} {T id : String} {r : V → List V → Hp → VK → Prop} (K : PySem.W.Frag) (pa : PlainAttrs T) (slot : Slot T name id) (hty : typeOf (.builtin id) = pure (.type "method_descriptor")) (hm : MtR X id r) (ho : PE X o to) (ha : PA X (e :: es) t)
    (hbase : attributeBase o name X.env (eval o X.env) = eval o X.env := by rfl)
    (hfew : ((backTo cpos (starEach (e :: es) X.env)).all (fun x => !x.1) && (backToKw cpos (keywordEach [] X.env)).all (fun x => x.1.isSome) && decide ((e :: es).length + ([] : List Keyword).length + (if ([] : List Keyword).isEmpty then 0 else 1) < 30)) = true := by rfl)
    (hline : (apos.endLine == cpos.line) = true := by rfl) (hs : starEach (e :: es) X.env = (false, eval e X.env) :: starEach es X.env := by rfl) (hplain : (backTo cpos (starEach es X.env)).any (·.1) = false := by rfl) (hK : X.K = K := by rfl) :
    PE X (.Call (.Attribute o name apos) (e :: es) [] cpos) (tBM K T r to t) := by subst hK; exact pe_bm pa slot hty hm ho ha hbase hfew hline hs hplain
theorem k_bm0 {X : Cx} {o : Expr} {to : TE} {name : Str} {apos cpos : Pos} {T id : String} {r : V → List V → Hp → VK → Prop} (K : PySem.W.Frag) (pa : PlainAttrs T) (slot : Slot T name id) (hty : typeOf (.builtin id) = pure (.type "method_descriptor")) (hm : MtR X id r) (ho : PE X o to)
    (hbase : attributeBase o name X.env (eval o X.env) = eval o X.env := by rfl) (hline : (apos.endLine == cpos.line) = true := by rfl) (hK : X.K = K := by rfl) : PE X (.Call (.Attribute o name apos) [] [] cpos) (tBM0 K T r to) := by subst hK; exact pe_bm0 pa slot hty hm ho hbase hline
theorem eqv_list_empty (ds : List PyData) : PyData.eqv (.list ds) (.list []) = decide (ds = []) := by
  cases ds <;> simp [PyData.eqv, PyData.eqvAll]
end Pm

namespace Pm
open PySem PySem.Spec PyProof.Rows L2
def topS (i : Nat) : Stmt := PySem.Challenge.pw_paymill_k05_whole_rows_of_parts.main.body.getD i (.Pass ⟨0, 0, 0, 0⟩)
/-! ### the store that draws are taken from: a list of great cells, a number, a step, a list of small cells -/
structure StoreIn (H : Hp) (st gl sm : Addr) (gs : List Int) (b s : Int) (ss : List Int) : Prop where
  hst : H st = some (.lst [.ref gl, .int b, .int s, .ref sm])
  hgl : H gl = some (.lst (gs.map V.int))
  hsm : H sm = some (.lst (ss.map V.int))
  ne : gl ≠ sm
  gn : ∀ g ∈ gs, 0 ≤ g
  sn : ∀ c ∈ ss, 0 ≤ c ∧ c < 1000000000000000000
  s0 : 0 < ss.length
  sl : ss.length ≤ 64
  gl_ : gs.length ≤ 63
  b0 : 0 ≤ b
  b1 : b < 2147483648
  t0 : 0 ≤ s
def StoreAt (H : Hp) (st gl : Addr) (n : Nat) : Prop := ∃ sm gs b s ss, StoreIn H st gl sm gs b s ss ∧ s ≤ n
section
variable {H H' : Hp} {st gl sm : Addr} {gs ss : List Int} {b s : Int} {n : Nat}
theorem StoreIn.same (e : Same H H') (h : StoreIn H st gl sm gs b s ss) : StoreIn H' st gl sm gs b s ss := { h with hst := e _ _ h.hst, hgl := e _ _ h.hgl, hsm := e _ _ h.hsm }
theorem StoreAt.same (e : Same H H') (h : StoreAt H st gl n) : StoreAt H' st gl n := by
  obtain ⟨sm, gs, b, s, ss, h, l⟩ := h
  exact ⟨sm, gs, b, s, ss, h.same e, l⟩
theorem StoreAt.from (h : StoreAt H st gl n) (e : Same H H') : StoreAt H' st gl n := h.same e
theorem StoreAt.mono {m : Nat} (h : StoreAt H st gl n) (e : n ≤ m) : StoreAt H st gl m := by
  obtain ⟨sm, gs, b, s, ss, h, l⟩ := h
  exact ⟨sm, gs, b, s, ss, h, by omega⟩
theorem lst_ne {p q : Addr} {x : V} {xs : List V} {ns : List Int} (h1 : H p = some (.lst (.ref q :: xs))) {r : Addr} (h2 : H r = some (.lst (ns.map V.int))) : p ≠ r := ne_of h1 h2 fun e => by
  cases ns with
  | nil => cases e
  | cons a l => injection e with e; injection e with e1 e2; cases e1
theorem StoreIn.st_gl (h : StoreIn H st gl sm gs b s ss) : st ≠ gl := lst_ne (x := .non) h.hst h.hgl
theorem StoreIn.st_sm (h : StoreIn H st gl sm gs b s ss) : st ≠ sm := lst_ne (x := .non) h.hst h.hsm
theorem StoreAt.get1 (h : StoreAt H st gl n) : ∃ o, H st = some o := let ⟨_, _, _, _, _, h, _⟩ := h; ⟨_, h.hst⟩
theorem StoreAt.get2 (h : StoreAt H st gl n) : ∃ o, H gl = some o := let ⟨_, _, _, _, _, h, _⟩ := h; ⟨_, h.hgl⟩
theorem st_ne1 {p : Addr} (h : New H p) (S : StoreAt H st gl n) : p ≠ st := let ⟨_, z⟩ := S.get1; new_ne h z
theorem st_ne2 {p : Addr} (h : New H p) (S : StoreAt H st gl n) : p ≠ gl := let ⟨_, z⟩ := S.get2; new_ne h z
end
/-- a draw: a number from 0 on, below many -/
def spDraw : Sp := fun vs H Q _ => ∃ (st gl : Addr) (n : Nat) (m : Int), vs = [.ref st, .int m] ∧ StoreAt H st gl n ∧ 1 ≤ m ∧ m.natAbs < 2 ^ 200 ∧ n ≤ 100000000 ∧ ∀ (d : Int) H', 0 ≤ d → d < m → StoreAt H' st gl (n + 100) → Fx st gl H H' → Q (.int d) H'
theorem c_draw {st gl : Addr} {n : Nat} {m : Int} {H : Hp} {Q : VK} {E : XK} (S : StoreAt H st gl n) (hm : 1 ≤ m) (hm2 : m.natAbs < 2 ^ 200) (hn : n ≤ 100000000) (h : ∀ (d : Int) H', 0 ≤ d → d < m → StoreAt H' st gl (n + 100) → Fx st gl H H' → Q (.int d) H') : spDraw ([.ref st, .int m] ++ []) H Q E := ⟨st, gl, n, m, rfl, S, hm, hm2, hn, h⟩
/-- the same of few numbers -/
def spDraw1 : Sp := fun vs H Q _ => ∃ (st gl : Addr) (n : Nat) (m : Int), vs = [.ref st, .int m] ∧ StoreAt H st gl n ∧ 1 ≤ m ∧ m ≤ 1000000 ∧ n ≤ 200000000 ∧ ∀ (d : Int) H', 0 ≤ d → d < m → StoreAt H' st gl (n + 1) → Fx st gl H H' → Q (.int d) H'
theorem c_draw1 {st gl : Addr} {n : Nat} {m : Int} {H : Hp} {Q : VK} {E : XK} (S : StoreAt H st gl n) (hm : 1 ≤ m) (hm2 : m ≤ 1000000) (hn : n ≤ 200000000) (h : ∀ (d : Int) H', 0 ≤ d → d < m → StoreAt H' st gl (n + 1) → Fx st gl H H' → Q (.int d) H') : spDraw1 ([.ref st, .int m] ++ []) H Q E := ⟨st, gl, n, m, rfl, S, hm, hm2, hn, h⟩
/-- the store made of the script -/
def spStore (K : PySem.W.Frag) : Sp := fun vs H Q _ => ∃ (a : Addr) (ns : List Int), vs = [.ref a] ∧ SqL K H a (ns.map V.int) ∧ ns.length ≤ 63 ∧ ∀ st gl H', Same H H' → New H st → StoreAt H' st gl 0 → Q (.ref st) H'
theorem c_store {K : PySem.W.Frag} {a : Addr} {ns : List Int} {H : Hp} {Q : VK} {E : XK} (h1 : SqL K H a (ns.map V.int)) (h2 : ns.length ≤ 63) (h : ∀ st gl H', Same H H' → New H st → StoreAt H' st gl 0 → Q (.ref st) H') : spStore K ([.ref a] ++ []) H Q E := ⟨a, ns, rfl, h1, h2, h⟩
theorem store_back {H H' : Hp} {st gl : Addr} {m n : Nat} (h : StoreAt H' st gl (m + n)) {k : Nat} (e : m + n = k) : StoreAt H' st gl k := e ▸ h
theorem cut_more {a b : Int} (h : 0 < b) (ha : 0 ≤ a) : 0 ≤ a.fdiv b := by
  rw [Int.fdiv_eq_ediv_of_nonneg a (by omega)]
  exact Int.ediv_nonneg ha (by omega)
theorem lg_of {m : Int} {n : Nat} (h : m.natAbs < 2 ^ n) (h0 : 0 < n) (h9 : n ≤ 9000) : m.natAbs.log2 < 9000 := Nat.lt_of_lt_of_le (PySem.Flt.log2_lt_of h0 h) h9
/-! ### parts: what stands for one, the promises of the program's and the law's reckoning -/
/-- the part q stands at p -/
structure PartAt (K : PySem.W.Frag) (H : Hp) (p : Addr) (q : Rat) : Prop where
  tp : Tp K H p [.int q.num, .int (q.den : Int)]
theorem PartAt.tpe {K : PySem.W.Frag} {H : Hp} {p : Addr} {q : Rat} {xs : List V} (h : PartAt K H p q) (e : [.int q.num, .int (q.den : Int)] = xs) : Tp K H p xs := e ▸ h.tp
theorem PartAt.mono {K : PySem.W.Frag} {H H' : Hp} {p : Addr} {q : Rat} (e : Same H H') (h : PartAt K H p q) : PartAt K H' p q := ⟨Tp.mono e h.tp⟩
theorem PartAt.fx {K : PySem.W.Frag} {H H' : Hp} {m n p : Addr} {q : Rat} (e : Fx m n H H') (h : PartAt K H p q) : PartAt K H' p q := ⟨Tp.fx e h.tp⟩
theorem PartAt.tm {K : PySem.W.Frag} {H H' : Hp} {p : Addr} {q : Rat} (h : PartAt K H p q) (e : Tm H H') : PartAt K H' p q := ⟨h.tp.tm e⟩
def spDiv : Sp := fun vs H Q _ => ∃ a b : Int, vs = [.int a, .int b] ∧ Q (.int (Int.gcd a b)) H
theorem c_div {a b : Int} {H : Hp} {Q : VK} {E : XK} (h : Q (.int (Int.gcd a b)) H) : spDiv ([.int a, .int b] ++ []) H Q E := ⟨a, b, rfl, h⟩
/-- part, made of two numbers -/
def spPart (K : PySem.W.Frag) : Sp := fun vs H Q _ => ∃ a b : Int, vs = [.int a, .int b] ∧ b ≠ 0 ∧ b.natAbs < 2 ^ 8999 ∧ a.natAbs < 2 ^ 400000 ∧ ∀ p H', Same H H' → PartAt K H' p (Rat.divInt a b) → Q (.ref p) H'
theorem c_part {K : PySem.W.Frag} {a b : Int} {H : Hp} {Q : VK} {E : XK} (h0 : b ≠ 0) (h1 : b.natAbs < 2 ^ 8999) (h2 : a.natAbs < 2 ^ 400000) (h : ∀ p H', Same H H' → PartAt K H' p (Rat.divInt a b) → Q (.ref p) H') : spPart K ([.int a, .int b] ++ []) H Q E := ⟨a, b, rfl, h0, h1, h2, h⟩
/-- a function of two parts that tells a part -/
def spPP (K : PySem.W.Frag) (C : Rat → Rat → Prop) (f : Rat → Rat → Rat) : Sp := fun vs H Q _ => ∃ (p q : Addr) (x y : Rat), vs = [.ref p, .ref q] ∧ PartAt K H p x ∧ PartAt K H q y ∧ Bd 4000 x ∧ Bd 4000 y ∧ C x y ∧ ∀ r H', Same H H' → PartAt K H' r (f x y) → Q (.ref r) H'
theorem c_PP {K : PySem.W.Frag} {C : Rat → Rat → Prop} {f : Rat → Rat → Rat} {p q : Addr} {x y : Rat} {H : Hp} {Q : VK} {E : XK} (h1 : PartAt K H p x) (h2 : PartAt K H q y) (b1 : Bd 4000 x) (b2 : Bd 4000 y) (c : C x y) (h : ∀ r H', Same H H' → PartAt K H' r (f x y) → Q (.ref r) H') :
    spPP K C f ([.ref p, .ref q] ++ []) H Q E := ⟨p, q, x, y, rfl, h1, h2, b1, b2, c, h⟩
def spLess (K : PySem.W.Frag) : Sp := fun vs H Q _ => ∃ (p q : Addr) (x y : Rat), vs = [.ref p, .ref q] ∧ PartAt K H p x ∧ PartAt K H q y ∧ Bd 4000 x ∧ Bd 4000 y ∧ Q (.bl (decide (x < y))) H
theorem c_less {K : PySem.W.Frag} {p q : Addr} {x y : Rat} {H : Hp} {Q : VK} {E : XK} (h1 : PartAt K H p x) (h2 : PartAt K H q y) (b1 : Bd 4000 x) (b2 : Bd 4000 y) (h : Q (.bl (decide (x < y))) H) : spLess K ([.ref p, .ref q] ++ []) H Q E := ⟨p, q, x, y, rfl, h1, h2, b1, b2, h⟩
abbrev CT : Rat → Rat → Prop := fun _ _ => True
theorem lg9 {b : Int} (h : b.natAbs < 2 ^ 8999) : b.natAbs.log2 < 9000 := Nat.lt_of_lt_of_le (PySem.Flt.log2_lt_of (by decide) h) (by decide)
theorem mulBd {i j : Int} (hx : i.natAbs < 2 ^ 4000) (hy : j.natAbs < 2 ^ 4000) : CMulW i j := wide_mul hx hy (by decide) (by decide) (by decide)
/-- a part that the module holds -/
structure PartK (K : PySem.W.Frag) (p : Addr) (q : Rat) : Prop where
  tp : TpK K p [.int q.num, .int (q.den : Int)]
theorem PartK.pt {K : PySem.W.Frag} {H : Hp} {p : Addr} {q : Rat} (h : PartK K p q) : PartAt K H p q := ⟨h.tp.tp⟩
theorem PartK.of {K : PySem.W.Frag} {p : Addr} {q : Rat} (h : TpK K p [.int q.num, .int (q.den : Int)]) : PartK K p q := ⟨h⟩
theorem dp_PA {K : PySem.W.Frag} {H : Hp} {p : Addr} {q : Rat} (h : PartAt K H p q) : Dp K H (.ref p) (dP q) := dp_P h.tp
theorem i_eqP {K : PySem.W.Frag} {H : Hp} {Q : VK} {p q : Addr} {x y : Rat} (h1 : PartAt K H p x) (h2 : PartAt K H q y) (h : Q (.bl (decide (x = y))) H) : rEqU K (.ref p) (.ref q) H Q :=
  i_eqD (dp_PA h1) (dp_PA h2) (Sh.shaped (sh_P (n := 0) x) (by decide)) (Sh.shaped (sh_P (n := 0) y) (by decide)) (by rw [eqv_P]; exact h)
theorem i_neP {K : PySem.W.Frag} {H : Hp} {Q : VK} {p q : Addr} {x y : Rat} (h1 : PartAt K H p x) (h2 : PartAt K H q y) (h : Q (.bl (!decide (x = y))) H) : rNeU K (.ref p) (.ref q) H Q :=
  i_neD (dp_PA h1) (dp_PA h2) (Sh.shaped (sh_P (n := 0) x) (by decide)) (Sh.shaped (sh_P (n := 0) y) (by decide)) (by rw [eqv_P]; exact h)
theorem lt_add2 {a b : Int} {n : Nat} (ha : a.natAbs < 2 ^ n) (hb : b.natAbs < 2 ^ n) : (a + b).natAbs < 2 ^ (n + 1) := by
  have e : (2 : Nat) ^ (n + 1) = 2 ^ n * 2 := Nat.pow_succ ..
  omega
theorem lt_sub2 {a b : Int} {n : Nat} (ha : a.natAbs < 2 ^ n) (hb : b.natAbs < 2 ^ n) : (a - b).natAbs < 2 ^ (n + 1) := by
  have e : (2 : Nat) ^ (n + 1) = 2 ^ n * 2 := Nat.pow_succ ..
  omega
theorem mul_ne {a b : Int} (ha : a ≠ 0) (hb : b ≠ 0) : a * b ≠ 0 := Int.mul_ne_zero ha hb
/-- a small part, drawn; its bottom is at most 1000 -/
def spSmallD (K : PySem.W.Frag) : Sp := fun vs H Q _ => ∃ (st gl : Addr) (n : Nat), vs = [.ref st] ∧ StoreAt H st gl n ∧ n ≤ 50000000 ∧ ∀ (q : Rat) (p : Addr) H', Bd 22 q → q.den ≤ 1000 → PartAt K H' p q → StoreAt H' st gl (n + 800) → Fx st gl H H' → Q (.ref p) H'
theorem c_smallD {K : PySem.W.Frag} {st gl : Addr} {n : Nat} {H : Hp} {Q : VK} {E : XK} (S : StoreAt H st gl n) (hn : n ≤ 50000000) (h : ∀ (q : Rat) (p : Addr) H', Bd 22 q → q.den ≤ 1000 → PartAt K H' p q → StoreAt H' st gl (n + 800) → Fx st gl H H' → Q (.ref p) H') : spSmallD K ([.ref st] ++ []) H Q E := ⟨st, gl, n, rfl, S, hn, h⟩
theorem low_iff {a b : Int} (hb : 0 < b) : ((Rat.divInt a b).num = a ∧ ((Rat.divInt a b).den : Int) = b) ↔ Int.gcd a b = 1 := by
  have hg := gcd_pos (a := a) (b := b) (by omega)
  rw [num_pos hb, den_pos hb, fdiv_gcd_pos _ _ (by exact_mod_cast hg), fdiv_gcd_pos _ _ (by exact_mod_cast hg)]
  constructor
  · rintro ⟨_, h⟩
    have h2 : b / (Int.gcd a b : Int) * (Int.gcd a b : Int) = b := Int.ediv_mul_cancel (Int.gcd_dvd_right a b)
    rw [h] at h2
    have h3 : b * (Int.gcd a b : Int) = b * 1 := by omega
    have h4 := Int.eq_of_mul_eq_mul_left (by omega) h3
    omega
  · intro h
    rw [h]
    simp
theorem PartAt.td {K : PySem.W.Frag} {H : Hp} {p : Addr} {q : Rat} (h : PartAt K H p q) : TD K H (.ref p) (dP q) := PartTp.td h.tp
theorem TD.part {K : PySem.W.Frag} {H : Hp} {v : V} {q : Rat} (h : TD K H v (dP q)) : ∃ p, v = .ref p ∧ PartAt K H p q := let ⟨p, e, h⟩ := h.partTp; ⟨p, e, ⟨h⟩⟩
theorem TL.part {K : PySem.W.Frag} {H : Hp} {xs : List V} {qs : List Rat} {i : Nat} {v : V} (h : TL K H xs (qs.map dP)) (e : xs[i]? = some v) : ∃ p q, v = .ref p ∧ qs[i]? = some q ∧ PartAt K H p q := by
  obtain ⟨d, h1, h2⟩ := h.get e
  rw [List.getElem?_map] at h1
  obtain ⟨q, h3, rfl⟩ := Option.map_eq_some_iff.mp h1
  obtain ⟨p, rfl, h4⟩ := h2.part
  exact ⟨p, q, rfl, h3, h4⟩
/-! ### totals, shares, rows, drawn -/
theorem part01 {K : PySem.W.Frag} {H : Hp} {p : Addr} (h : Tp K H p [.int 0, .int 1]) : PartAt K H p 0 := ⟨h⟩
theorem part11 {K : PySem.W.Frag} {H : Hp} {p : Addr} (h : Tp K H p [.int 1, .int 1]) : PartAt K H p 1 := ⟨h⟩
theorem partI {K : PySem.W.Frag} {H : Hp} {p : Addr} {a : Int} (h : Tp K H p [.int a, .int 1]) : PartAt K H p (a : Rat) := ⟨h⟩
theorem partLit {K : PySem.W.Frag} {H : Hp} {p : Addr} {a b : Int} (h : Tp K H p [.int a, .int b]) (hb : 0 < b) (g : Int.gcd a b = 1) : PartAt K H p (Rat.divInt a b) := by
  have e := (low_iff hb).mpr g
  refine ⟨?_⟩
  rw [e.1, e.2]
  exact h
theorem divInt_dv {a b : Int} {B : Nat} (hb : 0 < b) (h1 : -(B : Int) ≤ a) (h2 : a ≤ (B : Int)) : Dv b.natAbs B (Rat.divInt a b) := by
  have c1 : (Rat.divInt a b).den ∣ b.natAbs := den_divInt_dvd (by omega)
  have b0 : (0 : Rat) < (b : Rat) := by exact_mod_cast hb
  have b1 : (1 : Rat) ≤ (b : Rat) := by exact_mod_cast hb
  have a1 : -(B : Rat) ≤ (a : Rat) := by
    have := Rat.intCast_le_intCast.mpr h1
    rwa [Rat.intCast_neg, Rat.intCast_natCast] at this
  have a2 : (a : Rat) ≤ (B : Rat) := by
    have := Rat.intCast_le_intCast.mpr h2
    rwa [Rat.intCast_natCast] at this
  have n0 : (0 : Rat) ≤ (B : Rat) := by exact_mod_cast Nat.zero_le _
  have e : Rat.divInt a b * (b : Rat) = (a : Rat) := by
    rw [Rat.divInt_eq_div]
    exact Rat.div_mul_cancel (by grind)
  refine ⟨c1, ?_, ?_⟩
  all_goals
    generalize Rat.divInt a b = q at *
    generalize (b : Rat) = d at *
    generalize (B : Rat) = N at *
  · rcases (Rat.le_total : -N ≤ q ∨ q ≤ -N) with c | c
    · exact c
    · have := Rat.mul_nonneg (show (0 : Rat) ≤ -N - q by grind) (show (0 : Rat) ≤ d - 1 by grind)
      have := Rat.mul_nonneg n0 (show (0 : Rat) ≤ d - 1 by grind)
      grind
  · rcases (Rat.le_total : q ≤ N ∨ N ≤ q) with c | c
    · exact c
    · have := Rat.mul_nonneg (show (0 : Rat) ≤ q - N by grind) (show (0 : Rat) ≤ d - 1 by grind)
      have := Rat.mul_nonneg n0 (show (0 : Rat) ≤ d - 1 by grind)
      grind
theorem int_dv {a : Int} {B : Nat} (h1 : -(B : Int) ≤ a) (h2 : a ≤ (B : Int)) : Dv 1 B (a : Rat) := by
  refine ⟨Nat.dvd_refl 1, ?_, ?_⟩
  · have := Rat.intCast_le_intCast.mpr h1
    rwa [Rat.intCast_neg, Rat.intCast_natCast] at this
  · have := Rat.intCast_le_intCast.mpr h2
    rwa [Rat.intCast_natCast] at this
theorem share_of {a b : Int} (hb : 0 < b) (h1 : 0 < a) (h2 : a ≤ b) : 0 < Rat.divInt a b ∧ Rat.divInt a b ≤ 1 := by
  have b0 : (0 : Rat) < (b : Rat) := by exact_mod_cast hb
  have a0 : (0 : Rat) < (a : Rat) := by exact_mod_cast h1
  have ab : (a : Rat) ≤ (b : Rat) := by exact_mod_cast h2
  have e : Rat.divInt a b * (b : Rat) = (a : Rat) := by
    rw [Rat.divInt_eq_div]
    exact Rat.div_mul_cancel (by grind)
  generalize Rat.divInt a b = q at *
  generalize (b : Rat) = d at *
  generalize (a : Rat) = c at *
  constructor
  · rcases (Rat.le_total : 0 ≤ q ∨ q ≤ 0) with h | h
    · by_cases z : q = 0
      · subst z
        grind
      · grind
    · have := Rat.mul_nonneg (show (0 : Rat) ≤ -q by grind) (show (0 : Rat) ≤ d by grind)
      grind
  · rcases (Rat.le_total : q ≤ 1 ∨ 1 ≤ q) with h | h
    · exact h
    · by_cases z : q = 1
      · grind
      · have := Rat.mul_pos (show (0 : Rat) < q - 1 by grind) b0
        grind
theorem StoreAt.fx1 {H H' : Hp} {st gl pf : Addr} {n : Nat} {ys : List V} (S : StoreAt H st gl n) (h : H pf = some (.lst ys)) (hy : ∀ v ∈ ys, ∃ a, v = .ref a) (n1 : pf ≠ st) (n2 : pf ≠ gl) (f : Fx pf pf H H') : StoreAt H' st gl n := by
  obtain ⟨sm, gs, b, s, ss, S, l⟩ := S
  have n3 : pf ≠ sm := by
    rintro rfl
    have e := S.hsm
    rw [h] at e
    injection e with e
    injection e with e
    cases ss with
    | nil => exact absurd S.s0 (Nat.lt_irrefl _)
    | cons c r =>
      obtain ⟨a, ha⟩ := hy (.int c) (by rw [e]; simp)
      cases ha
  exact ⟨sm, gs, b, s, ss, { S with hst := f.oth _ _ S.hst (Ne.symm n1) (Ne.symm n1), hgl := f.oth _ _ S.hgl (Ne.symm n2) (Ne.symm n2), hsm := f.oth _ _ S.hsm (Ne.symm n3) (Ne.symm n3) }, l⟩
theorem TL.refs {K : PySem.W.Frag} {H : Hp} {xs : List V} {qs : List Rat} (h : TL K H xs (qs.map dP)) : ∀ v ∈ xs, ∃ a, v = .ref a := by
  intro v hv
  obtain ⟨i, hi, rfl⟩ := List.getElem_of_mem hv
  obtain ⟨p, q, e, _⟩ := h.part (List.getElem?_eq_getElem hi)
  exact ⟨p, e⟩
theorem fx_new1 {H H1 H2 : Hp} {st gl pf : Addr} (n : New H pf) (F : Fx st gl H H1) (f : Fx pf pf H1 H2) : Fx st gl H H2 := by
  refine ⟨fun b o h h1 h2 => ?_, fun b xs h => f.tup _ _ (F.tup _ _ h)⟩
  have z : b ≠ pf := fun e => by subst e; rw [show H b = none from n] at h; cases h
  exact f.oth b o (F.oth b o h h1 h2) z z
theorem new_back {H H1 : Hp} {st gl pf : Addr} (F : Fx st gl H H1) (n : New H1 pf) (n1 : pf ≠ st) (n2 : pf ≠ gl) : New H pf := by
  rcases e : H pf with _ | o
  · exact e
  · have := F.oth _ _ e n1 n2
    rw [show H1 pf = none from n] at this
    cases this
/-! ### rows of parts: their sum, their ends -/
/-- the start and all of a row, one after another -/
def sumTo (x : Rat) (qs : List Rat) (i : Nat) : Rat := (qs.take i).foldl (· + ·) x
theorem sumTo_zero (x : Rat) (qs : List Rat) : sumTo x qs 0 = x := by simp [sumTo]
theorem sumTo_succ {x q : Rat} {qs : List Rat} {i : Nat} (h : qs[i]? = some q) : sumTo x qs (i + 1) = sumTo x qs i + q := by
  unfold sumTo
  rw [List.take_add_one, h]
  simp
theorem sumTo_perm {x : Rat} {ps qs : List Rat} (h : ps.Perm qs) : sumTo x ps ps.length = sumTo x qs qs.length := by
  unfold sumTo
  rw [List.take_length, List.take_length]
  exact h.foldl_eq' (fun a _ b _ c => by grind) x
theorem dv_step {D B : Nat} {x q : Rat} {i : Nat} (hx : Dv D (B * (i + 1)) x) (hq : Dv D B q) : Dv D (B * (i + 1 + 1)) (x + q) :=
  (hx.add hq).up (Nat.dvd_refl _) (by rw [Nat.mul_add B (i + 1) 1, Nat.mul_one]; exact Nat.le_refl _)
theorem sumTo_dv {D B : Nat} {x : Rat} {qs : List Rat} (hx : Dv D B x) (hq : ∀ q ∈ qs, Dv D B q) : ∀ i, i ≤ qs.length → Dv D (B * (i + 1)) (sumTo x qs i)
  | 0, _ => by rw [sumTo_zero]; simpa using hx
  | i + 1, h => by
    have e : qs[i]? = some (qs[i]'(by omega)) := List.getElem?_eq_getElem (by omega)
    rw [sumTo_succ e]
    exact dv_step (sumTo_dv hx hq i (by omega)) (hq _ (List.getElem_mem _))
def Lo (qs : List Rat) (m : Rat) : Prop := m ∈ qs ∧ ∀ q ∈ qs, m ≤ q
def Hi (qs : List Rat) (m : Rat) : Prop := m ∈ qs ∧ ∀ q ∈ qs, q ≤ m
theorem Lo.one {qs : List Rat} {m n : Rat} (a : Lo qs m) (b : Lo qs n) : m = n := by
  have := a.2 n b.1
  have := b.2 m a.1
  grind
theorem Hi.one {qs : List Rat} {m n : Rat} (a : Hi qs m) (b : Hi qs n) : m = n := by
  have := a.2 n b.1
  have := b.2 m a.1
  grind
theorem Lo.perm {ps qs : List Rat} {m : Rat} (a : Lo ps m) (h : ps.Perm qs) : Lo qs m := ⟨h.mem_iff.mp a.1, fun q hq => a.2 q (h.mem_iff.mpr hq)⟩
theorem Hi.perm {ps qs : List Rat} {m : Rat} (a : Hi ps m) (h : ps.Perm qs) : Hi qs m := ⟨h.mem_iff.mp a.1, fun q hq => a.2 q (h.mem_iff.mpr hq)⟩
theorem Hi.neg {qs : List Rat} {m n : Rat} (a : Hi (qs.map fun q => 0 - q) m) (b : Lo qs n) : 0 - m = n := by
  obtain ⟨a1, a2⟩ := a
  obtain ⟨q, hq, rfl⟩ := List.mem_map.mp a1
  have := b.2 q hq
  have := a2 (0 - n) (List.mem_map.mpr ⟨n, b.1, rfl⟩)
  grind
/-- the end so far: of the first i -/
def LoT (qs : List Rat) (i : Nat) (m : Rat) : Prop := m ∈ qs ∧ ∀ q ∈ qs.take i, m ≤ q
def HiT (qs : List Rat) (i : Nat) (m : Rat) : Prop := m ∈ qs ∧ ∀ q ∈ qs.take i, q ≤ m
theorem mem_take_succ {qs : List Rat} {i : Nat} {q y : Rat} (h : qs[i]? = some q) (hy : y ∈ qs.take (i + 1)) : y ∈ qs.take i ∨ y = q := by
  rw [List.take_add_one, h] at hy
  simpa using hy
theorem LoT.yes {qs : List Rat} {i : Nat} {m q : Rat} (h : qs[i]? = some q) (a : LoT qs i m) (c : q < m) : LoT qs (i + 1) q := ⟨List.mem_of_getElem? h, fun y hy => by
  rcases mem_take_succ h hy with z | rfl
  · have := a.2 y z
    grind
  · exact Rat.le_refl⟩
theorem LoT.no {qs : List Rat} {i : Nat} {m q : Rat} (h : qs[i]? = some q) (a : LoT qs i m) (c : ¬ q < m) : LoT qs (i + 1) m := ⟨a.1, fun y hy => by
  rcases mem_take_succ h hy with z | rfl
  · exact a.2 y z
  · grind⟩
theorem HiT.yes {qs : List Rat} {i : Nat} {m q : Rat} (h : qs[i]? = some q) (a : HiT qs i m) (c : m < q) : HiT qs (i + 1) q := ⟨List.mem_of_getElem? h, fun y hy => by
  rcases mem_take_succ h hy with z | rfl
  · have := a.2 y z
    grind
  · exact Rat.le_refl⟩
theorem HiT.no {qs : List Rat} {i : Nat} {m q : Rat} (h : qs[i]? = some q) (a : HiT qs i m) (c : ¬ m < q) : HiT qs (i + 1) m := ⟨a.1, fun y hy => by
  rcases mem_take_succ h hy with z | rfl
  · exact a.2 y z
  · grind⟩
theorem LoT.all {qs : List Rat} {m : Rat} (a : LoT qs qs.length m) : Lo qs m := ⟨a.1, fun q hq => a.2 q (by rwa [List.take_length])⟩
theorem HiT.all {qs : List Rat} {m : Rat} (a : HiT qs qs.length m) : Hi qs m := ⟨a.1, fun q hq => a.2 q (by rwa [List.take_length])⟩
/-- of a row that begins with x: x first, then the rest -/
theorem LoT.first {x : Rat} {qs : List Rat} : LoT (x :: qs) 1 x := ⟨List.mem_cons_self .., fun y hy => by
  have : y = x := by simpa using hy
  rw [this]
  exact Rat.le_refl⟩
theorem HiT.first {x : Rat} {qs : List Rat} : HiT (x :: qs) 1 x := ⟨List.mem_cons_self .., fun y hy => by
  have : y = x := by simpa using hy
  rw [this]
  exact Rat.le_refl⟩
/-- what is told of a row: of none d0, else the part -/
def EndOf (P : List Rat → Rat → Prop) (qs : List Rat) (d0 d : PyData) : Prop := (qs = [] ∧ d = d0) ∨ (qs ≠ [] ∧ ∃ m, P qs m ∧ d = dP m)
theorem EndOf.one {P : List Rat → Rat → Prop} (u : ∀ qs m n, P qs m → P qs n → m = n) {qs : List Rat} {d0 d e : PyData} (a : EndOf P qs d0 d) (b : EndOf P qs d0 e) : d = e := by
  rcases a with ⟨a1, a2⟩ | ⟨a1, m, a2, a3⟩ <;> rcases b with ⟨b1, b2⟩ | ⟨b1, n, b2, b3⟩
  · rw [a2, b2]
  · exact absurd a1 b1
  · exact absurd b1 a1
  · rw [a3, b3, u _ _ _ a2 b2]
theorem EndOf.lo {qs : List Rat} {d0 d e : PyData} (a : EndOf Lo qs d0 d) (b : EndOf Lo qs d0 e) : d = e := EndOf.one (fun _ _ _ => Lo.one) a b
theorem EndOf.hi {qs : List Rat} {d0 d e : PyData} (a : EndOf Hi qs d0 d) (b : EndOf Hi qs d0 e) : d = e := EndOf.one (fun _ _ _ => Hi.one) a b
theorem EndOf.perm {P : List Rat → Rat → Prop} (u : ∀ ps qs m, P ps m → ps.Perm qs → P qs m) {ps qs : List Rat} {d0 d : PyData} (a : EndOf P ps d0 d) (h : ps.Perm qs) : EndOf P qs d0 d := by
  rcases a with ⟨a1, a2⟩ | ⟨a1, m, a2, a3⟩
  · subst a1
    exact .inl ⟨h.symm.eq_nil, a2⟩
  · exact .inr ⟨fun e => a1 (by subst e; exact h.eq_nil), m, u _ _ _ a2 h, a3⟩
theorem EndOf.ok {P : List Rat → Rat → Prop} (u : ∀ qs m, P qs m → m ∈ qs) {qs : List Rat} {d0 d : PyData} (a : EndOf P qs d0 d) (h0 : Ok 1 4000 d0) (h : ∀ q ∈ qs, Bd 1919 q) : Ok 1 4000 d := by
  rcases a with ⟨_, rfl⟩ | ⟨_, m, a2, rfl⟩
  · exact h0
  · exact ok_P (h m (u _ _ a2))
/-- a row handed as a list (t = false) or a tuple -/
def SqR (K : PySem.W.Frag) (H : Hp) (p : Addr) (t : Bool) (qs : List Rat) : Prop := ∃ xs, SqV K H p t xs ∧ TL K H xs (qs.map dP)
theorem SqR.same {K : PySem.W.Frag} {H H' : Hp} {p : Addr} {t : Bool} {qs : List Rat} (h : SqR K H p t qs) (e : Same H H') : SqR K H' p t qs := let ⟨xs, h1, h2⟩ := h; ⟨xs, h1.same e, h2.tm (Tm.same e)⟩
theorem SqR.lst {K : PySem.W.Frag} {H : Hp} {p : Addr} {xs : List V} {qs : List Rat} (h : SqL K H p xs) (r : TL K H xs (qs.map dP)) : SqR K H p false qs := ⟨xs, h, r⟩
theorem SqR.tup {K : PySem.W.Frag} {H : Hp} {p : Addr} {xs : List V} {qs : List Rat} (h : Tp K H p xs) (r : TL K H xs (qs.map dP)) : SqR K H p true qs := ⟨xs, h, r⟩
/-- the row made of what was drawn: summed -/
def spSum (K : PySem.W.Frag) : Sp := fun vs H Q _ => ∃ (p ps : Addr) (t : Bool) (qs : List Rat) (x : Rat) (D B : Nat), vs = [.ref p, .ref ps] ∧ SqR K H p t qs ∧ PartAt K H ps x ∧ Dv D B x ∧ (∀ q ∈ qs, Dv D B q) ∧ 0 < D ∧ D < 2 ^ 1200 ∧ B ≤ 2 ^ 40 ∧ qs.length ≤ 1000 ∧
  ∀ r H', Same H H' → PartAt K H' r (sumTo x qs qs.length) → Q (.ref r) H'
theorem c_sum {K : PySem.W.Frag} {p ps : Addr} {t : Bool} {qs : List Rat} {x : Rat} {D B : Nat} {H : Hp} {Q : VK} {E : XK} (h : SqR K H p t qs) (hx : PartAt K H ps x) (dx : Dv D B x) (dq : ∀ q ∈ qs, Dv D B q) (D0 : 0 < D) (D1 : D < 2 ^ 1200) (hB : B ≤ 2 ^ 40) (hl : qs.length ≤ 1000)
  (k : ∀ r H', Same H H' → PartAt K H' r (sumTo x qs qs.length) → Q (.ref r) H') : spSum K ([.ref p, .ref ps] ++ []) H Q E := ⟨p, ps, t, qs, x, D, B, rfl, h, hx, dx, dq, D0, D1, hB, hl, k⟩
def spSumL (K : PySem.W.Frag) : Sp := fun vs H Q _ => ∃ (p ps : Addr) (qs : List Rat) (x : Rat) (D B : Nat), vs = [.ref p, .ref ps] ∧ SqR K H p false qs ∧ PartAt K H ps x ∧ Dv D B x ∧ (∀ q ∈ qs, Dv D B q) ∧ 0 < D ∧ D < 2 ^ 1200 ∧ B ≤ 2 ^ 40 ∧ qs.length ≤ 1000 ∧
  ∀ r H', Same H H' → PartAt K H' r (sumTo x qs qs.length) → Q (.ref r) H'
theorem c_sumL {K : PySem.W.Frag} {p ps : Addr} {qs : List Rat} {x : Rat} {D B : Nat} {H : Hp} {Q : VK} {E : XK} (h : SqR K H p false qs) (hx : PartAt K H ps x) (dx : Dv D B x) (dq : ∀ q ∈ qs, Dv D B q) (D0 : 0 < D) (D1 : D < 2 ^ 1200) (hB : B ≤ 2 ^ 40) (hl : qs.length ≤ 1000)
  (k : ∀ r H', Same H H' → PartAt K H' r (sumTo x qs qs.length) → Q (.ref r) H') : spSumL K ([.ref p, .ref ps] ++ []) H Q E := ⟨p, ps, qs, x, D, B, rfl, h, hx, dx, dq, D0, D1, hB, hl, k⟩
theorem sum_room {b D : Nat} (h : b ≤ 2 ^ 50) (e : D < 2 ^ 1200) : b * D < 2 ^ 1300 := by
  have h1 : b * D ≤ 2 ^ 50 * D := Nat.mul_le_mul_right D h
  have h2 : 2 ^ 50 * D < 2 ^ 50 * 2 ^ 1200 := Nat.mul_lt_mul_of_pos_left e (by decide)
  rw [← Nat.pow_add] at h2
  exact Nat.lt_of_le_of_lt h1 (Nat.lt_of_lt_of_le h2 (Nat.pow_le_pow_right (by decide) (by decide)))
def spEnd (K : PySem.W.Frag) (P : List Rat → Rat → Prop) : Sp := fun vs H Q _ => ∃ (p : Addr) (v : V) (d0 : PyData) (t : Bool) (qs : List Rat), vs = [.ref p, v] ∧ SqR K H p t qs ∧ TD K H v d0 ∧ (∀ q ∈ qs, Bd 900 q) ∧ qs.length ≤ 1000 ∧
  ∀ y d H', Same H H' → EndOf P qs d0 d → TD K H' y d → Q y H'
theorem c_end {K : PySem.W.Frag} {P : List Rat → Rat → Prop} {p : Addr} {v : V} {d0 : PyData} {t : Bool} {qs : List Rat} {H : Hp} {Q : VK} {E : XK} (h : SqR K H p t qs) (hv : TD K H v d0) (hb : ∀ q ∈ qs, Bd 900 q) (hl : qs.length ≤ 1000)
  (k : ∀ y d H', Same H H' → EndOf P qs d0 d → TD K H' y d → Q y H') : spEnd K P ([.ref p, v] ++ []) H Q E := ⟨p, v, d0, t, qs, rfl, h, hv, hb, hl, k⟩
/-- the law's own end: sign tells which -/
def spEndS (K : PySem.W.Frag) : Sp := fun vs H Q _ => ∃ (p : Addr) (v : V) (d0 : PyData) (qs : List Rat) (sg : Int), vs = [.ref p, v, .int sg] ∧ SqR K H p false qs ∧ TD K H v d0 ∧ (∀ q ∈ qs, Bd 900 q) ∧ qs.length ≤ 1000 ∧ (sg = 1 ∨ sg = -1) ∧
  ∀ y d H', Same H H' → EndOf (if sg = 1 then Lo else Hi) qs d0 d → TD K H' y d → Q y H'
theorem c_endS {K : PySem.W.Frag} {p : Addr} {v : V} {d0 : PyData} {qs : List Rat} {sg : Int} {H : Hp} {Q : VK} {E : XK} (h : SqR K H p false qs) (hv : TD K H v d0) (hb : ∀ q ∈ qs, Bd 900 q) (hl : qs.length ≤ 1000) (hs : sg = 1 ∨ sg = -1)
  (k : ∀ y d H', Same H H' → EndOf (if sg = 1 then Lo else Hi) qs d0 d → TD K H' y d → Q y H') : spEndS K ([.ref p, v, .int sg] ++ []) H Q E := ⟨p, v, d0, qs, sg, rfl, h, hv, hb, hl, hs, k⟩
/-- a row drawn -/
def spRow (K : PySem.W.Frag) : Sp := fun vs H Q _ => ∃ (st gl : Addr) (n : Nat), vs = [.ref st] ∧ StoreAt H st gl n ∧ n ≤ 40000000 ∧ ∀ (p : Addr) (xs : List V) (qs : List Rat) (D : Nat) H', New H p → p ≠ st → p ≠ gl → H' p = some (.lst xs) → TL K H' xs (qs.map dP) → qs.length ≤ 40 → 0 < D → D < 2 ^ 460 → (∀ q ∈ qs, Dv D (2 ^ 24) q) → StoreAt H' st gl (n + 100000) → Fx st gl H H' → Q (.ref p) H'
theorem c_row {K : PySem.W.Frag} {st gl : Addr} {n : Nat} {H : Hp} {Q : VK} {E : XK} (S : StoreAt H st gl n) (hn : n ≤ 40000000) (h : ∀ (p : Addr) (xs : List V) (qs : List Rat) (D : Nat) H', New H p → p ≠ st → p ≠ gl → H' p = some (.lst xs) → TL K H' xs (qs.map dP) → qs.length ≤ 40 → 0 < D → D < 2 ^ 460 → (∀ q ∈ qs, Dv D (2 ^ 24) q) → StoreAt H' st gl (n + 100000) → Fx st gl H H' → Q (.ref p) H') : spRow K ([.ref st] ++ []) H Q E := ⟨st, gl, n, rfl, S, hn, h⟩
/-- the same in a drawn order -/
def spTurned (K : PySem.W.Frag) : Sp := fun vs H Q _ => ∃ (st gl p : Addr) (n : Nat) (xs : List V) (qs : List Rat), vs = [.ref st, .ref p] ∧ StoreAt H st gl n ∧ n ≤ 50000000 ∧ p ≠ st ∧ p ≠ gl ∧ H p = some (.lst xs) ∧ TL K H xs (qs.map dP) ∧ qs.length ≤ 40 ∧
  ∀ (r : Addr) (ys : List V) (ps : List Rat) H', New H r → r ≠ st → r ≠ gl → H' r = some (.lst ys) → TL K H' ys (ps.map dP) → ps.Perm qs → StoreAt H' st gl (n + 5000) → Fx st gl H H' → Q (.ref r) H'
theorem c_turned {K : PySem.W.Frag} {st gl p : Addr} {n : Nat} {xs : List V} {qs : List Rat} {H : Hp} {Q : VK} {E : XK} (S : StoreAt H st gl n) (hn : n ≤ 50000000) (n1 : p ≠ st) (n2 : p ≠ gl) (h : H p = some (.lst xs)) (tl : TL K H xs (qs.map dP)) (hl : qs.length ≤ 40)
  (k : ∀ (r : Addr) (ys : List V) (ps : List Rat) H', New H r → r ≠ st → r ≠ gl → H' r = some (.lst ys) → TL K H' ys (ps.map dP) → ps.Perm qs → StoreAt H' st gl (n + 5000) → Fx st gl H H' → Q (.ref r) H') : spTurned K ([.ref st, .ref p] ++ []) H Q E := ⟨st, gl, p, n, xs, qs, rfl, S, hn, n1, n2, h, tl, hl, k⟩
theorem eqv_parts_nil (qs : List Rat) : PyData.eqv (.list (qs.map dP)) (.list []) = decide (qs = []) := by
  rw [eqv_list_empty]
  simp
theorem TL.erase {K : PySem.W.Frag} {H : Hp} {xs : List V} {ds : List PyData} (h : TL K H xs ds) (j : Nat) : TL K H (xs.eraseIdx j) (ds.eraseIdx j) := by
  have l := h.len
  refine ⟨by rw [List.length_eraseIdx, List.length_eraseIdx, l], fun i h1 h2 => ?_⟩
  rw [List.getElem_eraseIdx, List.getElem_eraseIdx]
  by_cases c : i < j
  · simp only [c, dif_pos]
    exact h.at_ i _ _
  · simp only [c, dif_neg, not_false_eq_true]
    exact h.at_ (i + 1) _ _
theorem erase_perm {α : Type} : ∀ {l : List α} {j : Nat} (h : j < l.length), (l[j] :: l.eraseIdx j).Perm l
  | a :: l, 0, _ => by simp
  | a :: l, j + 1, h => by
    have h' : j < l.length := by simpa using h
    simp only [List.getElem_cons_succ, List.eraseIdx_cons_succ]
    exact (List.Perm.swap _ _ _).trans ((erase_perm h').cons a)
/-- a row's datum -/
def dR (t : Bool) (qs : List Rat) : PyData := if t = true then .tuple (qs.map dP) else .list (qs.map dP)
theorem SqR.dp {K : PySem.W.Frag} {H : Hp} {p : Addr} {t : Bool} {qs : List Rat} (h : SqR K H p t qs) : Dp K H (.ref p) (dR t qs) := by
  obtain ⟨xs, h1, h2⟩ := h
  cases t
  · exact .lst h1 h2.dp
  · exact .tup (Tp.sq h1) h2.dp
theorem ok_R {t : Bool} {qs : List Rat} (h : ∀ q ∈ qs, Bd 900 q) (hl : qs.length ≤ 1000) : Ok 2 4002003 (dR t qs) := by
  have a : OkAll 1 4000 (qs.map dP) := .all fun d hd => by
    obtain ⟨q, hq, rfl⟩ := List.mem_map.mp hd
    exact ok_P ((h q hq).mono (by decide))
  cases t
  · exact Ok.lst (k := 1000) a (by simpa using hl)
  · exact Ok.tup (k := 1000) a (by simpa using hl)
theorem sh_parts (qs : List Rat) : Sh 2 (.list (qs.map dP)) := .lst (.all fun d hd => by
  obtain ⟨q, _, rfl⟩ := List.mem_map.mp hd
  exact sh_P (n := 0) q)
theorem sh_R (t : Bool) (qs : List Rat) : Sh 2 (dR t qs) := by
  have a : ShAll 1 (qs.map dP) := .all fun d hd => by
    obtain ⟨q, _, rfl⟩ := List.mem_map.mp hd
    exact sh_P (n := 0) q
  cases t
  · exact Sh.lst a
  · exact Sh.tup a
theorem pow_stepR {a k D s : Nat} (h : D < 2 ^ (a + 10 * k)) (hs : s ≤ 1024) : D * s < 2 ^ (a + 10 * (k + 1)) := by
  rw [show a + 10 * (k + 1) = (a + 10 * k) + 10 by omega, Nat.pow_add]
  have h1 := Nat.mul_le_mul (Nat.le_refl D) hs
  have h2 : D * 1024 < 2 ^ (a + 10 * k) * 1024 := Nat.mul_lt_mul_of_pos_right h (by decide)
  exact Nat.lt_of_le_of_lt h1 h2
section
local macro_rules | `(tactic| wtm_at "lkP") => `(tactic| first
  | with_reducible assumption
  | exact PartK.pt (by with_reducible assumption)
  | exact PartAt.tm (by with_reducible assumption) (by wtm_at "tm") | fail)
/-! ### the steps as one word: wtm_at "v1" a step, wtm_at "v" as many as go -/
local macro_rules | `(tactic| wtm_at "tm") => `(tactic| first
  | exact Tm.refl _
  | exact Tm.same (by with_reducible assumption)
  | exact Tm.fx (by with_reducible assumption)
  | (refine Tm.trans ?_ (Tm.same (by with_reducible assumption)); wtm_at "tm")
  | (refine Tm.trans ?_ (Tm.fx (by with_reducible assumption)); wtm_at "tm") | fail)
local macro_rules | `(tactic| wtm_at "lkT1") => `(tactic| first
  | with_reducible assumption
  | exact TpK.tp (by with_reducible assumption)
  | exact TpH.tm (by with_reducible assumption) (by wtm_at "tm")
  | exact Tp.tm (by with_reducible assumption) (by wtm_at "tm")
  | exact Tp.of (by with_reducible assumption) | fail)
local macro_rules | `(tactic| wtm_at "lkT") => `(tactic| first
  | wtm_at "lkT1"
  | exact PartAt.tpe (by wtm_at "lkP") (by rfl)
  | fail)
local macro_rules | `(tactic| wtm_at "lk") => `(tactic| first
  | assumption
  | exact b_get (by assumption) (by wtm_at "lk")
  | exact b_lst (by assumption) (by wtm_at "ne") (by wtm_at "ne") (by wtm_at "lk") | fail)
local macro_rules | `(tactic| wtm_at "lkL") => `(tactic| first
  | assumption
  | exact SqL.of (by wtm_at "lk")
  | exact b_L (by assumption) (by wtm_at "lkL") | fail)
local macro_rules | `(tactic| wtm_at "intL") => `(tactic| first | exact IntL.nil | exact IntL.cons (by wtm_at "intL") | fail)
local macro_rules | `(tactic| wtm_at "ne") => `(tactic| first
  | assumption
  | exact Ne.symm (by assumption)
  | exact new_ne (by assumption) (by wtm_at "lk")
  | exact new_ne' (by assumption) (by wtm_at "lk") | fail)
local macro_rules | `(tactic| wtm_at "sm") => `(tactic| first
  | with_reducible assumption
  | exact Same.refl _
  | (refine Same.trans ?_ (by with_reducible assumption); wtm_at "sm") | fail)
local macro_rules | `(tactic| wtm_at "fx") => `(tactic| first
  | with_reducible assumption
  | exact Fx.same (Same.refl _)
  | exact Fx.same (by with_reducible assumption)
  | (refine Fx.trans ?_ (by with_reducible assumption); wtm_at "fx")
  | (refine Fx.trans ?_ (Fx.same (by with_reducible assumption)); wtm_at "fx") | fail)
local macro_rules | `(tactic| wtm_at "v0") => `(tactic| first
  | with_reducible refine i_seq ?_ | with_reducible refine i_asg ?_ | with_reducible refine i_var rfl ?_ | with_reducible refine i_c ?_ | with_reducible refine i_name ?_
  | with_reducible refine i_op ?_ | with_reducible refine i_ifS ?_ | with_reducible refine i_test ?_ | with_reducible refine i_tB ?_
  | with_reducible refine i_cons ?_ | with_reducible refine i_nil ?_ | with_reducible refine i_call ?_ | with_reducible refine i_callN ?_ | with_reducible refine i_callX ?_ | with_reducible refine i_callNX ?_ | with_reducible refine i_cb ?_
  | with_reducible refine i_tup ?_ | with_reducible refine i_lst ?_ | with_reducible refine i_ret ?_ | with_reducible refine i_retN ?_ | with_reducible refine i_drop ?_
  | with_reducible refine i_next ?_ | with_reducible refine i_par ?_ | with_reducible refine i_par2 ?_ | with_reducible refine i_ifE ?_ | with_reducible refine i_un ?_
  | with_reducible refine i_and ?_ | with_reducible refine i_or ?_ | with_reducible refine i_not ?_ | with_reducible refine i_andV ?_ | with_reducible refine i_orV ?_ | with_reducible refine i_notV ?_
  | with_reducible refine i_notV2 ?_ | with_reducible refine i_bif (A := fun _ => _) ?_ | with_reducible refine i_brk ?_ | with_reducible refine i_ctn ?_
  | with_reducible refine i_abs ?_ | with_reducible refine i_min ?_ | with_reducible refine i_max ?_ | with_reducible refine i_for ?_ | with_reducible refine i_iR1 ?_ | with_reducible refine i_iR2 ?_ | with_reducible refine i_iL ?_ | with_reducible refine i_iT ?_ | with_reducible refine i_wb ?_
  | with_reducible refine i_sl ?_ | with_reducible refine i_no ?_ | with_reducible refine i_so ?_ | with_reducible refine i_exI ?_ | with_reducible refine i_exB ?_ | with_reducible refine i_gcons ?_ | with_reducible refine i_gnil ?_ | with_reducible refine i_bm ?_ | with_reducible refine i_gsub ?_ | with_reducible refine i_lc ?_ | with_reducible refine i_yes ?_ | with_reducible refine i_iE ?_
  | with_reducible refine ite_1 ?_ | with_reducible refine i_pow6 ?_ | with_reducible refine i_pow18 ?_ | with_reducible refine i_pow30 ?_
  | with_reducible refine i_addI ?_ | with_reducible refine i_I0 ?_ | with_reducible refine i_U ?_ | with_reducible refine i_eqI ?_ | with_reducible refine i_neI ?_ | fail)
local macro_rules | `(tactic| wtm_at "v1") => `(tactic| first
  | wtm_at "v0"
  | ((with_reducible show rIx _ _ _ _ _); first | refine i_ixT (by wtm_at "lkT") rfl ?_ | refine i_ixL (by wtm_at "lkL") rfl ?_)
  | ((with_reducible show rLenU _ _ _ _); first | refine i_lenT (by wtm_at "lkT") ?_ | refine i_lenL (by wtm_at "lkL") ?_)
  | (with_reducible refine i_newTH (by first | decide | (simp; done)) ?_; intro _ _ _ _ _)
  | (with_reducible refine i_newL (by first | decide | (simp; done)) ?_; intro _ _ _ _ _) | fail)
local macro_rules | `(tactic| wtm_at "v") => `(tactic| repeat wtm_at "v1")
local macro_rules | `(tactic| wtm_at "vi") => `(tactic| repeat ((fail_if_success (with_reducible show tIfS _ _ _ _ _ _)); wtm_at "v1"))
variable {P : Program} {w : World} {K : PySem.W.Frag} {mg : Str → Option Value} {base : Heap}
abbrev s_law_store : Stmt := topS 14
theorem sc_law_store : FnScope ["script", "blend", "place", "cell", "great", "small"] ["script"] (defScope s_law_store) := ⟨rfl, rfl, rfl, by decide +kernel, rfl, by decide +kernel, by decide +kernel⟩
theorem ok_law_store {f : Addr} {fd : FuncData} (F : FunD K "_law_store" "_law_store" (defArgs s_law_store) (defBody s_law_store) (defScope s_law_store) [] [] f fd) (n_abs : mg "abs" = none) (n_enumerate : mg "enumerate" = none) : FnG P w K mg base CX0 1 f fd ["script"] (spStore K) := by
  refine okG (k := 0) F sc_law_store (fun vs H Q E h => ?_) (fun cdv A hG outer s H vs Q E hr h => ?_)
  · obtain ⟨a, b, rfl, _⟩ := h
    rfl
  · obtain ⟨a, ns, rfl, hS, hl, k⟩ := h
    refine ⟨_, (pss_cons (ps_set (i := 1) sc_law_store.nd rfl (Or.inl rfl) pe_int) (pss_cons (ps_for PassesOwn.never rfl (k_piE K (by rfl) n_enumerate (pa_cons (pe_slice (k_slL K) (pv 0) po_none (po_some pe_int)) pa_nil)) (k_gt K 2 rfl (pgs_cons (pg_name (i := 2) sc_law_store.nd rfl (Or.inl rfl)) (pgs_cons (pg_name (i := 3) sc_law_store.nd rfl (Or.inl rfl)) pgs_nil))) (pss_one (ps_set (i := 1) sc_law_store.nd rfl (Or.inl rfl) (pe_op op_modN (pe_op (k_add K) (pe_op (k_add K) (pe_op op_mulU (pv 1) (pv 1)) (pe_op op_modN (pv 3) pe_int)) (pe_op op_mulU pe_int (pv 2))) pe_int)))) (pss_cons (ps_setLc (i := 4) (own := [("cell", 3)]) rfl sc_law_store.nd rfl rfl (sw_true rfl rfl rfl (by decide +kernel)) (k_piL K (pe_slice (k_slL K) (pv 0) po_none (po_some pe_int))) (blkOk_by (N := ["script", "blend", "place", "cell", "great", "small"]) (sc := defScope s_law_store) (by decide +kernel)) (fun _ _ _ _ _ => (pg_name (i := 3) sc_law_store.nd rfl (Or.inl rfl))) (fun _ _ _ _ _ => (pts_one (pt_cmpR op_ge (pe_callB (call_absU) (by rfl) n_abs bt_abs (pa_cons (pv 3) pa_nil)) (pe_op op_pow pe_int pe_int) (nomark _)))) (fun _ _ _ _ _ => (pe_callB (call_absU) (by rfl) n_abs bt_abs (pa_cons (pv 3) pa_nil)))) (pss_cons (ps_setLc (i := 5) (own := [("cell", 3)]) rfl sc_law_store.nd rfl rfl (sw_true rfl rfl rfl (by decide +kernel)) (k_piL K (pe_slice (k_slL K) (pv 0) po_none (po_some pe_int))) (blkOk_by (N := ["script", "blend", "place", "cell", "great", "small"]) (sc := defScope s_law_store) (by decide +kernel)) (fun _ _ _ _ _ => (pg_name (i := 3) sc_law_store.nd rfl (Or.inl rfl))) (fun _ _ _ _ _ => (pts_one (pt_cmpR op_lt (pe_callB (call_absU) (by rfl) n_abs bt_abs (pa_cons (pv 3) pa_nil)) (pe_op op_pow pe_int pe_int) (nomark _)))) (fun _ _ _ _ _ => (pe_callB (call_absU) (by rfl) n_abs bt_abs (pa_cons (pv 3) pa_nil)))) (pss_one (ps_ret (pe_lst (pa_cons (pv 4) (pa_cons (pv 1) (pa_cons pe_int (pa_cons (pe_op (k_add K) (pv 5) (pe_lst (pa_cons pe_int pa_nil))) pa_nil))))))))))), ?_⟩
    wtm_at "v"
    refine i_slL (by wtm_at "lkL") ?_
    intro p1 H1 n1 s1 h1
    rw [cut63 (by simpa using hl)] at h1
    wtm_at "v"
    refine i_itE (SqL.of h1) ?_
    refine i_forE (xs := ns.map V.int) (fun i σ' H' => Same H1 H' ∧ ∃ (b : Int) (v2 v3 : Option V), σ' = [some (.ref a), some (.int b), v2, v3, none, none] ∧ 0 ≤ b ∧ b < 2147483648) ⟨Same.refl _, 271, none, none, rfl, by decide, by decide⟩ ?_ ?_ ?_
    · rintro i σ' H' _ ⟨sm, _⟩
      wtm_at "lkL"
    · rintro i x σ' H2 T H3 hx ⟨sm, b, v2, v3, rfl, hb0, hb1⟩ nT sT hT
      obtain ⟨c, hc, rfl⟩ : ∃ c, ns[i]? = some c ∧ V.int c = x := by simpa using hx
      have hi : i < ns.length := (List.getElem?_eq_some_iff.mp hc).1
      refine i_gtup (by wtm_at "lkT") rfl ?_
      wtm_at "v"
      have m1 : CMulW b b := wide_mul (a := 32) (b := 32) (by omega) (by omega) (by decide) (by decide) (by decide)
      refine i_mulI m1 ?_
      wtm_at "v"
      refine i_I (by decide) ?_
      wtm_at "v"
      have m2 : CMulW 40009 (i : Int) := wide_mul (a := 32) (b := 32) (by decide) (by omega) (by decide) (by decide) (by decide)
      refine i_mulI m2 ?_
      wtm_at "v"
      refine i_I (by decide) ?_
      wtm_at "v"
      refine ⟨sm.trans sT, _, _, _, rfl, ?_, ?_⟩
      · rw [Int.fmod_eq_emod_of_nonneg _ (by decide)]
        exact Int.emod_nonneg _ (by decide)
      · rw [Int.fmod_eq_emod_of_nonneg _ (by decide)]
        exact Int.lt_trans (Int.emod_lt_of_pos _ (by decide)) (by decide)
    · rintro σ' H2 ⟨sm, b, v2, v3, rfl, hb0, hb1⟩
      wtm_at "v"
      refine i_slL (by wtm_at "lkL") ?_
      intro p3 H3 n3 s3 h3
      rw [cut63 (by simpa using hl)] at h3
      refine i_itL (SqL.of h3) ?_
      refine i_lcL (xs := ns.map V.int) (SqL.of h3) (kept (fun c => (c.natAbs : Int)) (fun c => decide (1000000000000000000 ≤ c)) ns) rfl ?_ ?_
      · intro A i x H4 nA hx hi sA hA
        obtain ⟨c, hc, rfl⟩ : ∃ c, ns[i]? = some c ∧ V.int c = x := by simpa using hx
        have hlen := kept_len (fun c => (c.natAbs : Int)) (fun c => decide (1000000000000000000 ≤ c)) ns i
        wtm_at "v"
        refine ⟨rfl, ?_⟩
        wtm_at "v"
        with_reducible refine ite_d (fun c1 => ?_) (fun c1 => ?_)
        · wtm_at "v"
          exact lc_yes nA hA (kept_yes hc (decide_eq_true c1)) (by omega) sA
        · exact lc_no hA (kept_no hc (decide_eq_false c1)) sA
      intro p4 H4 n4 s4 h4
      wtm_at "v"
      refine i_slL (by wtm_at "lkL") ?_
      intro p5 H5 n5 s5 h5
      rw [cut63 (by simpa using hl)] at h5
      refine i_itL (SqL.of h5) ?_
      refine i_lcL (xs := ns.map V.int) (SqL.of h5) (kept (fun c => (c.natAbs : Int)) (fun c => decide (c < 1000000000000000000)) ns) rfl ?_ ?_
      · intro A i x H4 nA hx hi sA hA
        obtain ⟨c, hc, rfl⟩ : ∃ c, ns[i]? = some c ∧ V.int c = x := by simpa using hx
        have hlen := kept_len (fun c => (c.natAbs : Int)) (fun c => decide (c < 1000000000000000000)) ns i
        wtm_at "v"
        refine ⟨rfl, ?_⟩
        wtm_at "v"
        with_reducible refine ite_d (fun c1 => ?_) (fun c1 => ?_)
        · wtm_at "v"
          exact lc_yes nA hA (kept_yes hc (decide_eq_true c1)) (by omega) sA
        · exact lc_no hA (kept_no hc (decide_eq_false c1)) sA
      intro p6 H6 n6 s6 h6
      wtm_at "v"
      have l4 := kept_len (fun c => (c.natAbs : Int)) (fun c => decide (1000000000000000000 ≤ c)) ns ns.length
      have l6 := kept_len (fun c => (c.natAbs : Int)) (fun c => decide (c < 1000000000000000000)) ns ns.length
      simp only [List.length_map] at h4 h6
      refine i_addL (by wtm_at "lk") (by wtm_at "lk") (by simp; omega) ?_
      intro p8 H8 n8 s8 h8
      wtm_at "v"
      rename_i p9 H9 n9 s9 h9
      refine k p9 p4 _ (by wtm_at "sm") ((by wtm_at "sm" : Same H H8).free n9) ⟨p8, ((ns.take ns.length).map (fun c => (c.natAbs : Int))).filter (fun c => decide (1000000000000000000 ≤ c)), b, 0,
        ((ns.take ns.length).map (fun c => (c.natAbs : Int))).filter (fun c => decide (c < 1000000000000000000)) ++ [17], ?_, by decide⟩
      have l4' : (((ns.take ns.length).map (fun c => (c.natAbs : Int))).filter (fun c => decide (1000000000000000000 ≤ c))).length ≤ ns.length := by simpa [kept] using l4
      have l6' : (((ns.take ns.length).map (fun c => (c.natAbs : Int))).filter (fun c => decide (c < 1000000000000000000))).length ≤ ns.length := by simpa [kept] using l6
      refine { hst := h9, hgl := (by wtm_at "lk" : H9 p4 = some (.lst (kept (fun c => (c.natAbs : Int)) (fun c => decide (1000000000000000000 ≤ c)) ns ns.length))), hsm := ?_, ne := ?_, gn := ?_, sn := ?_, s0 := ?_, sl := ?_, gl_ := ?_, b0 := hb0, b1 := hb1, t0 := by decide }
      · rw [List.map_append]
        exact (by wtm_at "lk" : H9 p8 = some (.lst (kept (fun c => (c.natAbs : Int)) (fun c => decide (c < 1000000000000000000)) ns ns.length ++ [V.int 17])))
      · exact (new_ne n8 (by wtm_at "lk" : _ = some (.lst (kept (fun c => (c.natAbs : Int)) (fun c => decide (1000000000000000000 ≤ c)) ns ns.length)))).symm
      · intro g hg
        obtain ⟨c, _, rfl⟩ := List.mem_map.mp (List.mem_filter.mp hg).1
        omega
      · intro c hc
        rcases List.mem_append.mp hc with hc | hc
        · obtain ⟨h1, h2⟩ := List.mem_filter.mp hc
          obtain ⟨d, _, rfl⟩ := List.mem_map.mp h1
          exact ⟨by omega, of_decide_eq_true h2⟩
        · obtain rfl := List.mem_singleton.mp hc
          exact ⟨by decide, by decide⟩
      · simp
      · simp only [List.length_append, List.length_cons, List.length_nil]
        omega
      · omega
abbrev s_law_draw : Stmt := topS 15
theorem sc_law_draw : FnScope ["store", "many", "digit", "found", "turn", "step", "primes", "cell", "one", "two"] ["store", "many"] (defScope s_law_draw) := ⟨rfl, rfl, rfl, by decide +kernel, rfl, by decide +kernel, by decide +kernel⟩
/-- the first part of a draw: the noughts ahead are thrown away -/
def DrawW (st gl sm : Addr) (b s : Int) (ss : List Int) (H : Hp) (vs : List (Option V)) : Nat → L2.St → Hp → Prop := fun m σ' H' => ∃ gs, StoreIn H' st gl sm gs b s ss ∧ Fx st gl H H' ∧ σ' = vs ∧ m = gs.length
theorem ne_nil {gs : List Int} (h : (!gs.isEmpty) = true) : ∃ g r, gs = g :: r := by
  cases gs with
  | nil => cases h
  | cons g r => exact ⟨g, r, rfl⟩
theorem is_nil {gs : List Int} (h : (!gs.isEmpty) = false) : gs = [] := by
  cases gs with
  | nil => rfl
  | cons g r => cases h
theorem ok_law_draw1 {f : Addr} {fd : FuncData} (F : FunD K "_law_draw" "_law_draw" (defArgs s_law_draw) (defBody s_law_draw) (defScope s_law_draw) [] [] f fd) (n_len : mg "len" = none) (n_str : mg "str" = none) (n_range : mg "range" = none) : FnG P w K mg base CX0 1 f fd ["store", "many"] spDraw1 := by
  refine okG (k := 0) F sc_law_draw (fun vs H Q E h => ?_) (fun cdv A hG outer s H vs Q E hr h => ?_)
  · obtain ⟨a, b, c, d, rfl, _⟩ := h
    rfl
  · obtain ⟨st, gl, n, m, rfl, ⟨sm, gs0, b, sp, ss, S0, hsp⟩, hm, hm2, hn, k⟩ := h
    refine ⟨_, (pss_cons (ps_while PassesOwn.never ((pw_and (pt_cmpR (k_ne K hr) (pe_ix (k_ix K) (pv 0) pe_int (fun _ _ => rfl)) (pe_lst pa_nil) (nomark _)) (pw_and1 (pt_cmpR (k_eq K hr) (pe_ix (k_ix K) (pe_ix (k_ix K) (pv 0) pe_int (fun _ _ => rfl)) pe_int (fun _ _ => rfl)) pe_int (nomark _))))).pt (pss_one (ps_expr (pe_bm PySem.F.plainAttrs_list PySem.F.slot_list_pop PySem.F.type_list_pop (mt_popAt) (pe_ix (k_ix K) (pv 0) pe_int (fun _ _ => rfl)) (pa_cons pe_int pa_nil))))) (pss_cons (ps_if (pt_cmpR (k_ne K hr) (pe_ix (k_ix K) (pv 0) pe_int (fun _ _ => rfl)) (pe_lst pa_nil) (nomark _)) (pss_cons (ps_set (i := 2) sc_law_draw.nd rfl (Or.inl rfl) (pe_op op_modN (pe_ix (k_ix K) (pe_ix (k_ix K) (pv 0) pe_int (fun _ _ => rfl)) pe_int (fun _ _ => rfl)) (pv 1))) (pss_cons (ps_asg (pe_op op_fdivV (pe_ix (k_ix K) (pe_ix (k_ix K) (pv 0) pe_int (fun _ _ => rfl)) pe_int (fun _ _ => rfl)) (pv 1)) (pg_sub (pe_ix (k_ix K) (pv 0) pe_int (fun _ _ => rfl)) pe_int set_list)) (pss_one (ps_ret (pv 2))))) pss_nil) (pss_cons (ps_if (pt_cmpR op_gt (pv 1) (pe_op op_pow pe_int pe_int) (nomark _)) (pss_cons (ps_set (i := 3) sc_law_draw.nd rfl (Or.inl rfl) pe_int) (pss_cons ps_never (pss_one (ps_ret (pe_op op_modN (pv 3) (pv 1)))))) pss_nil) (pss_cons (ps_set (i := 5) sc_law_draw.nd rfl (Or.inl rfl) (pe_op (k_add K) (pe_ix (k_ix K) (pv 0) pe_int (fun _ _ => rfl)) pe_int)) (pss_cons (ps_asg (pv 5) (pg_sub (pv 0) pe_int set_list)) (pss_cons (ps_set (i := 6) sc_law_draw.nd rfl (Or.inl rfl) (pe_lst (pa_cons pe_int (pa_cons pe_int (pa_cons pe_int (pa_cons pe_int (pa_cons pe_int pa_nil))))))) (pss_cons (ps_set (i := 7) sc_law_draw.nd rfl (Or.inl rfl) (pe_ix (k_ix K) (pe_ix (k_ix K) (pv 0) pe_int (fun _ _ => rfl)) (pe_op op_modN (pv 5) (pe_callB (k_len K) (by rfl) n_len bt_len (pa_cons (pe_ix (k_ix K) (pv 0) pe_int (fun _ _ => rfl)) pa_nil))) (fun _ _ => rfl))) (pss_cons (ps_set (i := 8) sc_law_draw.nd rfl (Or.inl rfl) (pe_op op_modN (pe_op op_pow (pe_op (k_add K) (pe_op (k_add K) (pe_op (k_add K) (pe_ix (k_ix K) (pv 0) pe_int (fun _ _ => rfl)) (pv 7)) (pe_op op_mulU pe_int (pv 5))) pe_int) pe_int) (pe_ix (k_ix K) (pv 6) (pe_op op_modN (pv 5) pe_int) (fun _ _ => rfl)))) (pss_cons (ps_set (i := 9) sc_law_draw.nd rfl (Or.inl rfl) (pe_op (k_add K) (pe_op (k_add K) (pe_op op_mulU (pv 8) (pv 8)) (pe_op op_modN (pe_ix (k_ix K) (pv 0) pe_int (fun _ _ => rfl)) pe_int)) (pv 5))) (pss_one (ps_ret (pe_op op_modN (pe_op op_fdivV (pe_op op_modN (pe_op op_pow (pv 9) pe_int) (pe_ix (k_ix K) (pv 6) (pe_op op_modN (pe_op (k_add K) (pv 5) pe_int) pe_int) (fun _ _ => rfl))) pe_int) (pv 1))))))))))))), ?_⟩
    refine i_seq ?_
    refine i_cut (fun σ' H' => ∃ gs, StoreIn H' st gl sm gs b sp ss ∧ Fx st gl H H' ∧ (∀ r, gs ≠ 0 :: r) ∧ σ' = [some (.ref st), some (.int m), none, none, none, none, none, none, none, none]) ?_ ?_
    · intro N hN
      refine i_while (DrawW st gl sm b sp ss H _) _ ⟨gs0, S0, Fx.same (Same.refl _), rfl, rfl⟩ ?_
      rintro m' σ' H1 ⟨gs, S, F1, rfl, rfl⟩
      obtain ⟨hst, hgl, hsm, hne, hgn, hsn, hs0, hsl, hgl2, hb0, hb1, ht0⟩ := id S
      wtm_at "v"
      refine i_neD (.lst (SqL.of (by wtm_at "lk")) (dp_ints gs)) (.lst (SqL.of (by wtm_at "lk")) .nil) ((Sh.lst (ShAll.ints gs) : Sh 1 _).shaped (by decide)) ((Sh.lst .nil : Sh 1 _).shaped (by decide)) ?_
      rw [eqv_ints_nil]
      wtm_at "v"
      refine ite_b (fun c => ?_) (fun c => ?_)
      · obtain ⟨g, r, rfl⟩ := ne_nil c
        wtm_at "v"
        refine i_ixL (SqL.of (by wtm_at "lk")) (atI_nat (j := 0) rfl) ?_
        wtm_at "v"
        with_reducible refine ite_d (fun c2 => ?_) (fun c2 => ?_)
        · wtm_at "v"
          rename_i p2 H2 n2 s2 h2
          have S2 := S.same s2
          refine i_bmL S2.hgl ?_
          wtm_at "v"
          refine i_pop0 S2.hgl ?_
          wtm_at "v"
          refine ⟨r.length, by simp, r, ?_, F1.trans ((Fx.same s2).trans (fx_upd2 S2.hgl)), rfl, rfl⟩
          exact { S2 with hst := by rw [upd_ne S2.st_gl]; exact S2.hst, hgl := upd_same, hsm := by rw [upd_ne (Ne.symm hne)]; exact S2.hsm, gn := fun x hx => hgn x (List.mem_cons_of_mem _ hx), gl_ := by simp at hgl2; omega }
        · rename_i p2 H2 n2 s2 h2
          exact hN _ _ ⟨g :: r, S.same s2, F1.trans (Fx.same s2), (fun r' e => c2 (by injection e)), rfl⟩
      · rename_i p2 H2 n2 s2 h2
        obtain rfl := is_nil c
        exact hN _ _ ⟨[], S.same s2, F1.trans (Fx.same s2), (fun r' e => by cases e), rfl⟩
    rintro σ' H1 ⟨gs, S, F1, hz, rfl⟩
    obtain ⟨hst, hgl, hsm, hne, hgn, hsn, hs0, hsl, hgl2, hb0, hb1, ht0⟩ := id S
    wtm_at "v"
    refine i_neD (.lst (SqL.of (by wtm_at "lk")) (dp_ints gs)) (.lst (SqL.of (by wtm_at "lk")) .nil) ((Sh.lst (ShAll.ints gs) : Sh 1 _).shaped (by decide)) ((Sh.lst .nil : Sh 1 _).shaped (by decide)) ?_
    rw [eqv_ints_nil]
    wtm_at "v"
    rename_i p2 H2 n2 s2 h2
    have S2 := S.same s2
    refine ite_b (fun c => ?_) (fun c => ?_)
    · obtain ⟨g, r, rfl⟩ := ne_nil c
      wtm_at "v"
      refine i_ixL (SqL.of (by wtm_at "lk")) (atI_nat (j := 0) rfl) ?_
      wtm_at "v"
      refine i_mod (by omega) (fun d hd0 hd1 _ => ?_)
      wtm_at "v"
      refine i_ixL (SqL.of (by wtm_at "lk")) (atI_nat (j := 0) rfl) ?_
      wtm_at "v"
      refine i_I ⟨by omega, lg_of (n := 200) (by omega) (by decide) (by decide)⟩ ?_
      wtm_at "v"
      refine i_setL S2.hgl (ixN_at (j := 0) (by simp)) ?_
      wtm_at "v"
      refine k _ _ hd0 hd1 ⟨sm, g.fdiv m :: r, b, sp, ss, ?_, by omega⟩ (F1.trans ((Fx.same s2).trans (fx_upd2 S2.hgl)))
      refine { S2 with hst := by rw [upd_ne S2.st_gl]; exact S2.hst, hgl := upd_same, hsm := by rw [upd_ne (Ne.symm hne)]; exact S2.hsm, gn := fun x hx => ?_, gl_ := by simpa using hgl2 }
      rcases List.mem_cons.mp hx with e | hx
      · rw [e]
        exact cut_more (by omega) (hgn g (List.mem_cons_self ..))
      · exact hgn x (List.mem_cons_of_mem _ hx)
    · obtain rfl := is_nil c
      wtm_at "v"
      with_reducible refine ite_d (fun c2 => absurd c2 (by omega)) (fun c2 => ?_)
      wtm_at "v"
      refine i_setL S2.hst (ixN_at (j := 2) (by simp)) ?_
      have hst3 : (upd H2 st (.lst [.ref gl, .int b, .int (sp + 1), .ref sm])) st = some (.lst [.ref gl, .int b, .int (sp + 1), .ref sm]) := upd_same
      have hgl3 : (upd H2 st (.lst [.ref gl, .int b, .int (sp + 1), .ref sm])) gl = some (.lst (([] : List Int).map V.int)) := by rw [upd_ne (Ne.symm S2.st_gl)]; exact S2.hgl
      have hsm3 : (upd H2 st (.lst [.ref gl, .int b, .int (sp + 1), .ref sm])) sm = some (.lst (ss.map V.int)) := by rw [upd_ne (Ne.symm S2.st_sm)]; exact S2.hsm
      have F3 : Fx st gl H (upd H2 st (.lst [.ref gl, .int b, .int (sp + 1), .ref sm])) := F1.trans ((Fx.same s2).trans (fx_upd S2.hst))
      have S3 : StoreIn (upd H2 st (.lst [.ref gl, .int b, .int (sp + 1), .ref sm])) st gl sm [] b (sp + 1) ss := { S2 with hst := hst3, hgl := hgl3, hsm := hsm3, t0 := by omega }
      have hlist : [V.ref gl, V.int b, V.int sp, V.ref sm].set 2 (V.int (sp + 1)) = [.ref gl, .int b, .int (sp + 1), .ref sm] := rfl
      rw [hlist]
      generalize upd H2 st (.lst [.ref gl, .int b, .int (sp + 1), .ref sm]) = H3 at *
      wtm_at "v"
      rename_i p9 H9 n9 s9 h9
      refine i_mod (by rw [List.length_map]; omega) (fun j hj0 hj1 _ => ?_)
      rw [List.length_map] at hj1
      wtm_at "v"
      refine i_ixN (SqL.of (by wtm_at "lk")) rfl hj0 hj1 (fun cell hcell => ?_)
      obtain ⟨hc0, hc1⟩ := hsn cell hcell
      wtm_at "v"
      have m0 : CMulW 104729 (sp + 1) := wide_mul (a := 64) (b := 64) (by decide) (by omega) (by decide) (by decide) (by decide)
      refine i_mulI m0 ?_
      wtm_at "v"
      refine i_powV ⟨by decide, by decide, by omega⟩ (fun q _ => ?_)
      wtm_at "v"
      refine i_mod (by decide) (fun j1 hj10 hj11 _ => ?_)
      wtm_at "v"
      refine i_ixN (ns := [2147483563, 2147483549, 2147483543, 2147483497, 2147483489]) (SqL.of (by wtm_at "lk")) rfl hj10 hj11 (fun p1 hp1 => ?_)
      have hp1' : 0 < p1 ∧ p1 < 2147483648 := (by decide : ∀ p ∈ [(2147483563 : Int), 2147483549, 2147483543, 2147483497, 2147483489], 0 < p ∧ p < 2147483648) p1 hp1
      refine i_mod hp1'.1 (fun one ho0 ho1 _ => ?_)
      wtm_at "v"
      have m1 : CMulW one one := wide_mul (a := 32) (b := 32) (by omega) (by omega) (by decide) (by decide) (by decide)
      refine i_mulI m1 ?_
      have hoo : one * one ≤ 2147483647 * 2147483647 := Int.mul_le_mul (by omega) (by omega) ho0 (by decide)
      have hoo0 : 0 ≤ one * one := Int.mul_nonneg ho0 ho0
      generalize one * one = oo at *
      wtm_at "v"
      refine i_mod (by decide) (fun e1 he10 he11 _ => ?_)
      wtm_at "v"
      refine i_powV ⟨by decide, by decide, by omega⟩ (fun q5 _ => ?_)
      wtm_at "v"
      refine i_mod (by decide) (fun j2 hj20 hj21 _ => ?_)
      wtm_at "v"
      refine i_ixN (ns := [2147483563, 2147483549, 2147483543, 2147483497, 2147483489]) (SqL.of (by wtm_at "lk")) rfl hj20 hj21 (fun p2 hp2 => ?_)
      have hp2' : 0 < p2 ∧ p2 < 2147483648 := (by decide : ∀ p ∈ [(2147483563 : Int), 2147483549, 2147483543, 2147483497, 2147483489], 0 < p ∧ p < 2147483648) p2 hp2
      refine i_mod hp2'.1 (fun one2 ho20 ho21 _ => ?_)
      wtm_at "v"
      refine i_I ⟨by decide, by decide⟩ ?_
      wtm_at "v"
      refine i_mod (by omega) (fun d hd0 hd1 _ => ?_)
      exact k _ _ hd0 hd1 ⟨sm, [], b, sp + 1, ss, S3.same s9, by omega⟩ (F3.trans (Fx.same s9))
def spDrawB : Sp := fun vs H Q _ => ∃ (st gl : Addr) (n : Nat) (m : Int), vs = [.ref st, .int m] ∧ StoreAt H st gl n ∧ 1000000 < m ∧ m.natAbs < 2 ^ 200 ∧ n ≤ 100000000 ∧ ∀ (d : Int) H', 0 ≤ d → d < m → StoreAt H' st gl (n + 100) → Fx st gl H H' → Q (.int d) H'
theorem found_more {i : Nat} {f d : Int} (h0 : 0 ≤ f) (h1 : f < 2 ^ (20 * i)) (hd : 0 ≤ d) (hd1 : d < 1000000) : 0 ≤ f * 1000000 + d ∧ f * 1000000 + d < 2 ^ (20 * (i + 1)) := by
  have e : (2 : Int) ^ (20 * (i + 1)) = 2 ^ (20 * i) * 1048576 := by
    rw [Nat.mul_add, Int.pow_add]
    rfl
  rw [e]
  omega
theorem ok_law_drawB {f : Addr} {fd : FuncData} (F : FunD K "_law_draw" "_law_draw" (defArgs s_law_draw) (defBody s_law_draw) (defScope s_law_draw) [] [] f fd) (O_law_draw : Own P w K mg base CX0 1 "_law_draw" ["store", "many"] [] spDraw1) (n_len : mg "len" = none) (n_str : mg "str" = none) (n_range : mg "range" = none) : FnG P w K mg base CX0 2 f fd ["store", "many"] spDrawB := by
  refine okG (k := 1) F sc_law_draw (fun vs H Q E h => ?_) (fun cdv A hG outer s H vs Q E hr h => ?_)
  · obtain ⟨a, b, c, d, rfl, _⟩ := h
    rfl
  · obtain ⟨st, gl, n, m, rfl, ⟨sm, gs0, b, sp, ss, S0, hsp⟩, hm, hm2, hn, k⟩ := h
    refine ⟨_, (pss_cons (ps_while PassesOwn.never ((pw_and (pt_cmpR (k_ne K hr) (pe_ix (k_ix K) (pv 0) pe_int (fun _ _ => rfl)) (pe_lst pa_nil) (nomark _)) (pw_and1 (pt_cmpR (k_eq K hr) (pe_ix (k_ix K) (pe_ix (k_ix K) (pv 0) pe_int (fun _ _ => rfl)) pe_int (fun _ _ => rfl)) pe_int (nomark _))))).pt (pss_one (ps_expr (pe_bm PySem.F.plainAttrs_list PySem.F.slot_list_pop PySem.F.type_list_pop (mt_popAt) (pe_ix (k_ix K) (pv 0) pe_int (fun _ _ => rfl)) (pa_cons pe_int pa_nil))))) (pss_cons (ps_if (pt_cmpR (k_ne K hr) (pe_ix (k_ix K) (pv 0) pe_int (fun _ _ => rfl)) (pe_lst pa_nil) (nomark _)) (pss_cons (ps_set (i := 2) sc_law_draw.nd rfl (Or.inl rfl) (pe_op op_modN (pe_ix (k_ix K) (pe_ix (k_ix K) (pv 0) pe_int (fun _ _ => rfl)) pe_int (fun _ _ => rfl)) (pv 1))) (pss_cons (ps_asg (pe_op op_fdivV (pe_ix (k_ix K) (pe_ix (k_ix K) (pv 0) pe_int (fun _ _ => rfl)) pe_int (fun _ _ => rfl)) (pv 1)) (pg_sub (pe_ix (k_ix K) (pv 0) pe_int (fun _ _ => rfl)) pe_int set_list)) (pss_one (ps_ret (pv 2))))) pss_nil) (pss_cons (ps_if (pt_cmpR op_gt (pv 1) (pe_op op_pow pe_int pe_int) (nomark _)) (pss_cons (ps_set (i := 3) sc_law_draw.nd rfl (Or.inl rfl) pe_int) (pss_cons (ps_for PassesOwn.never rfl (pi_range1 (by rfl) n_range (pa_cons (pe_op (k_add K) pe_int (pe_op op_fdivV (pe_callB (call_lenStr) (by rfl) n_len bt_len (pa_cons (pe_callTy (call_strI) (by rfl) n_str bt_str (pa_cons (pv 1) pa_nil)) pa_nil)) pe_int)) pa_nil)) (pg_name (i := 4) sc_law_draw.nd rfl (Or.inl rfl)) (pss_one (ps_set (i := 3) sc_law_draw.nd rfl (Or.inl rfl) (pe_op (k_add K) (pe_op op_mulU (pv 3) (pe_op op_pow pe_int pe_int)) (pe_own O_law_draw hG (hr.mono (by decide)) pass0 (pa_cons (pv 0) (pa_cons (pe_op op_pow pe_int pe_int) pa_nil))))))) (pss_one (ps_ret (pe_op op_modN (pv 3) (pv 1)))))) pss_nil) (pss_cons ps_never (pss_cons (ps_asg (pv 5) (pg_sub (pv 0) pe_int set_list)) (pss_cons (ps_set (i := 6) sc_law_draw.nd rfl (Or.inl rfl) (pe_lst (pa_cons pe_int (pa_cons pe_int (pa_cons pe_int (pa_cons pe_int (pa_cons pe_int pa_nil))))))) (pss_cons (ps_set (i := 7) sc_law_draw.nd rfl (Or.inl rfl) (pe_ix (k_ix K) (pe_ix (k_ix K) (pv 0) pe_int (fun _ _ => rfl)) (pe_op op_modN (pv 5) (pe_callB (k_len K) (by rfl) n_len bt_len (pa_cons (pe_ix (k_ix K) (pv 0) pe_int (fun _ _ => rfl)) pa_nil))) (fun _ _ => rfl))) (pss_cons (ps_set (i := 8) sc_law_draw.nd rfl (Or.inl rfl) (pe_op op_modN (pe_op op_pow (pe_op (k_add K) (pe_op (k_add K) (pe_op (k_add K) (pe_ix (k_ix K) (pv 0) pe_int (fun _ _ => rfl)) (pv 7)) (pe_op op_mulU pe_int (pv 5))) pe_int) pe_int) (pe_ix (k_ix K) (pv 6) (pe_op op_modN (pv 5) pe_int) (fun _ _ => rfl)))) (pss_cons (ps_set (i := 9) sc_law_draw.nd rfl (Or.inl rfl) (pe_op (k_add K) (pe_op (k_add K) (pe_op op_mulU (pv 8) (pv 8)) (pe_op op_modN (pe_ix (k_ix K) (pv 0) pe_int (fun _ _ => rfl)) pe_int)) (pv 5))) (pss_one (ps_ret (pe_op op_modN (pe_op op_fdivV (pe_op op_modN (pe_op op_pow (pv 9) pe_int) (pe_ix (k_ix K) (pv 6) (pe_op op_modN (pe_op (k_add K) (pv 5) pe_int) pe_int) (fun _ _ => rfl))) pe_int) (pv 1))))))))))))), ?_⟩
    refine i_seq ?_
    refine i_cut (fun σ' H' => ∃ gs, StoreIn H' st gl sm gs b sp ss ∧ Fx st gl H H' ∧ (∀ r, gs ≠ 0 :: r) ∧ σ' = [some (.ref st), some (.int m), none, none, none, none, none, none, none, none]) ?_ ?_
    · intro N hN
      refine i_while (DrawW st gl sm b sp ss H _) _ ⟨gs0, S0, Fx.same (Same.refl _), rfl, rfl⟩ ?_
      rintro m' σ' H1 ⟨gs, S, F1, rfl, rfl⟩
      obtain ⟨hst, hgl, hsm, hne, hgn, hsn, hs0, hsl, hgl2, hb0, hb1, ht0⟩ := id S
      wtm_at "v"
      refine i_neD (.lst (SqL.of (by wtm_at "lk")) (dp_ints gs)) (.lst (SqL.of (by wtm_at "lk")) .nil) ((Sh.lst (ShAll.ints gs) : Sh 1 _).shaped (by decide)) ((Sh.lst .nil : Sh 1 _).shaped (by decide)) ?_
      rw [eqv_ints_nil]
      wtm_at "v"
      refine ite_b (fun c => ?_) (fun c => ?_)
      · obtain ⟨g, r, rfl⟩ := ne_nil c
        wtm_at "v"
        refine i_ixL (SqL.of (by wtm_at "lk")) (atI_nat (j := 0) rfl) ?_
        wtm_at "v"
        with_reducible refine ite_d (fun c2 => ?_) (fun c2 => ?_)
        · wtm_at "v"
          rename_i p2 H2 n2 s2 h2
          have S2 := S.same s2
          refine i_bmL S2.hgl ?_
          wtm_at "v"
          refine i_pop0 S2.hgl ?_
          wtm_at "v"
          refine ⟨r.length, by simp, r, ?_, F1.trans ((Fx.same s2).trans (fx_upd2 S2.hgl)), rfl, rfl⟩
          exact { S2 with hst := by rw [upd_ne S2.st_gl]; exact S2.hst, hgl := upd_same, hsm := by rw [upd_ne (Ne.symm hne)]; exact S2.hsm, gn := fun x hx => hgn x (List.mem_cons_of_mem _ hx), gl_ := by simp at hgl2; omega }
        · rename_i p2 H2 n2 s2 h2
          exact hN _ _ ⟨g :: r, S.same s2, F1.trans (Fx.same s2), (fun r' e => c2 (by injection e)), rfl⟩
      · rename_i p2 H2 n2 s2 h2
        obtain rfl := is_nil c
        exact hN _ _ ⟨[], S.same s2, F1.trans (Fx.same s2), (fun r' e => by cases e), rfl⟩
    rintro σ' H1 ⟨gs, S, F1, hz, rfl⟩
    obtain ⟨hst, hgl, hsm, hne, hgn, hsn, hs0, hsl, hgl2, hb0, hb1, ht0⟩ := id S
    wtm_at "v"
    refine i_neD (.lst (SqL.of (by wtm_at "lk")) (dp_ints gs)) (.lst (SqL.of (by wtm_at "lk")) .nil) ((Sh.lst (ShAll.ints gs) : Sh 1 _).shaped (by decide)) ((Sh.lst .nil : Sh 1 _).shaped (by decide)) ?_
    rw [eqv_ints_nil]
    wtm_at "v"
    rename_i p2 H2 n2 s2 h2
    have S2 := S.same s2
    refine ite_b (fun c => ?_) (fun c => ?_)
    · obtain ⟨g, r, rfl⟩ := ne_nil c
      wtm_at "v"
      refine i_ixL (SqL.of (by wtm_at "lk")) (atI_nat (j := 0) rfl) ?_
      wtm_at "v"
      refine i_mod (by omega) (fun d hd0 hd1 _ => ?_)
      wtm_at "v"
      refine i_ixL (SqL.of (by wtm_at "lk")) (atI_nat (j := 0) rfl) ?_
      wtm_at "v"
      refine i_I ⟨by omega, lg_of (n := 200) (by omega) (by decide) (by decide)⟩ ?_
      wtm_at "v"
      refine i_setL S2.hgl (ixN_at (j := 0) (by simp)) ?_
      wtm_at "v"
      refine k _ _ hd0 hd1 ⟨sm, g.fdiv m :: r, b, sp, ss, ?_, by omega⟩ (F1.trans ((Fx.same s2).trans (fx_upd2 S2.hgl)))
      refine { S2 with hst := by rw [upd_ne S2.st_gl]; exact S2.hst, hgl := upd_same, hsm := by rw [upd_ne (Ne.symm hne)]; exact S2.hsm, gn := fun x hx => ?_, gl_ := by simpa using hgl2 }
      rcases List.mem_cons.mp hx with e | hx
      · rw [e]
        exact cut_more (by omega) (hgn g (List.mem_cons_self ..))
      · exact hgn x (List.mem_cons_of_mem _ hx)
    · obtain rfl := is_nil c
      wtm_at "v"
      with_reducible refine ite_d (fun c2 => ?_) (fun c2 => absurd hm (by omega))
      wtm_at "v"
      refine i_strI (Nat.lt_of_lt_of_le (PySem.Flt.log2_lt_of (by decide) hm2) (by decide)) ?_
      wtm_at "v"
      have hlen : (Str.ofString (toString m)).length ≤ 202 := by
        rw [PySem.ofString_length]
        exact int_text_length_le (k := 201) (by decide) (Nat.lt_of_lt_of_le (PySem.Flt.log2_lt_of (by decide) hm2) (by decide))
      refine i_lenS (Nat.le_trans hlen (by decide)) ?_
      wtm_at "v"
      refine i_I ⟨by decide, by decide⟩ ?_
      wtm_at "v"
      have hdiv : ((Str.ofString (toString m)).length : Int).fdiv 6 ≤ 34 ∧ 0 ≤ ((Str.ofString (toString m)).length : Int).fdiv 6 := by
        rw [Int.fdiv_eq_ediv_of_nonneg _ (by decide)]
        omega
      generalize ((Str.ofString (toString m)).length : Int).fdiv 6 = turns at *
      refine i_rng1 (by omega) (by omega) ?_
      refine i_forR (fun i σ' H' => ∃ (fo : Int) (v4 : Option V), σ' = [some (.ref st), some (.int m), none, some (.int fo), v4, none, none, none, none, none] ∧ 0 ≤ fo ∧ fo < 2 ^ (20 * i) ∧ StoreAt H' st gl (n + i) ∧ Fx st gl H H') ⟨0, none, rfl, by decide, by decide, ⟨sm, [], b, sp, ss, S2, by omega⟩, F1.trans (Fx.same s2)⟩ ?_ ?_
      · rintro i σ' H' hi ⟨fo, v4, rfl, h0, h1, S', F'⟩
        wtm_at "v"
        have m1 : CMulW fo 1000000 := by
          refine wide_mul (a := 20 * i + 1) (b := 20) ?_ (by decide) (by omega) (by decide) (by omega)
          have e : (2 : Nat) ^ (20 * i + 1) = 2 ^ (20 * i) * 2 := Nat.pow_succ ..
          have e2 : ((2 : Nat) ^ (20 * i) : Nat) = ((2 : Int) ^ (20 * i)).toNat := by
            have : ((2 ^ (20 * i) : Nat) : Int) = (2 : Int) ^ (20 * i) := by simp
            omega
          omega
        refine i_mulI m1 ?_
        wtm_at "v"
        refine c_draw1 S' (by decide) (by decide) (by omega) (fun d H2 hd0 hd1 S3 F3 => ?_)
        wtm_at "v"
        obtain ⟨a1, a2⟩ := found_more h0 h1 hd0 hd1
        exact ⟨_, _, rfl, a1, a2, S3, F'.trans F3⟩
      · rintro σ' H' ⟨fo, v4, rfl, h0, h1, S', F'⟩
        wtm_at "v"
        refine i_mod (by omega) (fun d hd0 hd1 _ => ?_)
        exact k _ _ hd0 hd1 (S'.mono (by omega)) F'
theorem FnG.or {CX : CXT} {k : Nat} {f : Addr} {fd : FuncData} {ps : List Str} {sp sp' sp2 : Sp} (a : FnG P w K mg base CX k f fd ps sp) (b : FnG P w K mg base CX k f fd ps sp') (h : ∀ vs H Q E, sp2 vs H Q E → sp vs H Q E ∨ sp' vs H Q E) : FnG P w K mg base CX k f fd ps sp2 := by
  refine ⟨fun vs H Q E z => (h vs H Q E z).elim (a.len _ _ _ _) (b.len _ _ _ _), fun A g o s H args us vs Q E r e bb v z => ?_⟩
  rcases h _ _ _ _ z with z | z
  · exact a.run A g o s H args us vs Q E r e bb v z
  · exact b.run A g o s H args us vs Q E r e bb v z
theorem FnG.up {CX : CXT} {j k : Nat} {f : Addr} {fd : FuncData} {ps : List Str} {sp : Sp} (a : FnG P w K mg base CX j f fd ps sp) (h : j ≤ k) : FnG P w K mg base CX k f fd ps sp := ⟨a.len, fun A g o s H args us vs Q E r => a.run A g o s H args us vs Q E (r.mono h)⟩
theorem ok_law_draw {f : Addr} {fd : FuncData} (F : FunD K "_law_draw" "_law_draw" (defArgs s_law_draw) (defBody s_law_draw) (defScope s_law_draw) [] [] f fd) (gf : mg "_law_draw" = some (.ref f)) (kf : PySem.W.keepIn K (.ref f) = true) (bf : Binds K fd ["store", "many"] []) (n_len : mg "len" = none) (n_str : mg "str" = none) (n_range : mg "range" = none) :
    FnG P w K mg base CX0 2 f fd ["store", "many"] spDraw := by
  have a := ok_law_draw1 (P := P) (w := w) (base := base) F n_len n_str n_range
  have b := ok_law_drawB (P := P) (w := w) (base := base) F ⟨f, fd, [], a, gf, kf, bf, .nil⟩ n_len n_str n_range
  refine FnG.or (a.up (by decide)) b fun vs H Q E z => ?_
  obtain ⟨st, gl, n, m, rfl, S, hm, hm2, hn, k⟩ := z
  by_cases c : m ≤ 1000000
  · exact .inl ⟨st, gl, n, m, rfl, S, hm, c, by omega, fun d H' h0 h1 S' F' => k d H' h0 h1 (S'.mono (by omega)) F'⟩
  · exact .inr ⟨st, gl, n, m, rfl, S, by omega, hm2, hn, k⟩
end
section
local macro_rules | `(tactic| wtm_at "lkP") => `(tactic| first
  | with_reducible assumption
  | exact PartK.pt (by with_reducible assumption)
  | exact PartAt.tm (by with_reducible assumption) (by wtm_at "tm") | fail)
/-! ### the steps as one word: wtm_at "v1" a step, wtm_at "v" as many as go -/
local macro_rules | `(tactic| wtm_at "tm") => `(tactic| first
  | exact Tm.refl _
  | exact Tm.same (by with_reducible assumption)
  | exact Tm.fx (by with_reducible assumption)
  | (refine Tm.trans ?_ (Tm.same (by with_reducible assumption)); wtm_at "tm")
  | (refine Tm.trans ?_ (Tm.fx (by with_reducible assumption)); wtm_at "tm") | fail)
local macro_rules | `(tactic| wtm_at "lkT1") => `(tactic| first
  | with_reducible assumption
  | exact TpK.tp (by with_reducible assumption)
  | exact TpH.tm (by with_reducible assumption) (by wtm_at "tm")
  | exact Tp.tm (by with_reducible assumption) (by wtm_at "tm")
  | exact Tp.of (by with_reducible assumption) | fail)
local macro_rules | `(tactic| wtm_at "lkT") => `(tactic| first
  | wtm_at "lkT1"
  | exact PartAt.tpe (by wtm_at "lkP") (by rfl)
  | fail)
local macro_rules | `(tactic| wtm_at "lk") => `(tactic| first
  | assumption
  | exact b_get (by assumption) (by wtm_at "lk")
  | exact b_lst (by assumption) (by wtm_at "ne") (by wtm_at "ne") (by wtm_at "lk") | fail)
local macro_rules | `(tactic| wtm_at "lkL") => `(tactic| first
  | assumption
  | exact SqL.of (by wtm_at "lk")
  | exact b_L (by assumption) (by wtm_at "lkL") | fail)
local macro_rules | `(tactic| wtm_at "intL") => `(tactic| first | exact IntL.nil | exact IntL.cons (by wtm_at "intL") | fail)
local macro_rules | `(tactic| wtm_at "lkS0") => `(tactic| first
  | with_reducible assumption
  | exact StoreAt.same (by with_reducible assumption) (by wtm_at "lkS0") | fail)
local macro_rules | `(tactic| wtm_at "lkS") => `(tactic| first
  | with_reducible assumption
  | exact StoreAt.from (by with_reducible assumption) (by wtm_at "sm") | fail)
local macro_rules | `(tactic| wtm_at "ne") => `(tactic| first
  | assumption
  | exact Ne.symm (by assumption)
  | exact st_ne1 (by with_reducible assumption) (by wtm_at "lkS0")
  | exact st_ne2 (by with_reducible assumption) (by wtm_at "lkS0")
  | exact new_ne (by assumption) (by wtm_at "lk")
  | exact new_ne' (by assumption) (by wtm_at "lk") | fail)
local macro_rules | `(tactic| wtm_at "sm") => `(tactic| first
  | with_reducible assumption
  | exact Same.refl _
  | (refine Same.trans ?_ (by with_reducible assumption); wtm_at "sm") | fail)
local macro_rules | `(tactic| wtm_at "fx") => `(tactic| first
  | with_reducible assumption
  | exact Fx.same (Same.refl _)
  | exact Fx.same (by with_reducible assumption)
  | (refine Fx.trans ?_ (by with_reducible assumption); wtm_at "fx")
  | (refine Fx.trans ?_ (Fx.same (by with_reducible assumption)); wtm_at "fx") | fail)
local macro_rules | `(tactic| wtm_at "v0") => `(tactic| first
  | with_reducible refine i_seq ?_ | with_reducible refine i_asg ?_ | with_reducible refine i_var rfl ?_ | with_reducible refine i_c ?_ | with_reducible refine i_name ?_
  | with_reducible refine i_op ?_ | with_reducible refine i_ifS ?_ | with_reducible refine i_test ?_ | with_reducible refine i_tB ?_
  | with_reducible refine i_cons ?_ | with_reducible refine i_nil ?_ | with_reducible refine i_call ?_ | with_reducible refine i_callN ?_ | with_reducible refine i_callX ?_ | with_reducible refine i_callNX ?_ | with_reducible refine i_cb ?_
  | with_reducible refine i_tup ?_ | with_reducible refine i_lst ?_ | with_reducible refine i_ret ?_ | with_reducible refine i_retN ?_ | with_reducible refine i_drop ?_
  | with_reducible refine i_next ?_ | with_reducible refine i_par ?_ | with_reducible refine i_par2 ?_ | with_reducible refine i_ifE ?_ | with_reducible refine i_un ?_
  | with_reducible refine i_and ?_ | with_reducible refine i_or ?_ | with_reducible refine i_not ?_ | with_reducible refine i_andV ?_ | with_reducible refine i_orV ?_ | with_reducible refine i_notV ?_
  | with_reducible refine i_notV2 ?_ | with_reducible refine i_bif (A := fun _ => _) ?_ | with_reducible refine i_brk ?_ | with_reducible refine i_ctn ?_
  | with_reducible refine i_abs ?_ | with_reducible refine i_min ?_ | with_reducible refine i_max ?_ | with_reducible refine i_for ?_ | with_reducible refine i_iR1 ?_ | with_reducible refine i_iR2 ?_ | with_reducible refine i_iL ?_ | with_reducible refine i_iT ?_ | with_reducible refine i_wb ?_
  | with_reducible refine i_sl ?_ | with_reducible refine i_no ?_ | with_reducible refine i_so ?_ | with_reducible refine i_exI ?_ | with_reducible refine i_exB ?_ | with_reducible refine i_gcons ?_ | with_reducible refine i_gnil ?_ | with_reducible refine i_bm ?_ | with_reducible refine i_gsub ?_ | with_reducible refine i_lc ?_ | with_reducible refine i_yes ?_ | with_reducible refine i_iE ?_
  | with_reducible refine ite_1 ?_ | with_reducible refine i_pow6 ?_ | with_reducible refine i_pow18 ?_ | with_reducible refine i_pow30 ?_
  | with_reducible refine i_addI ?_ | with_reducible refine i_I0 ?_ | with_reducible refine i_U ?_ | with_reducible refine i_eqI ?_ | with_reducible refine i_neI ?_ | fail)
local macro_rules | `(tactic| wtm_at "v1") => `(tactic| first
  | wtm_at "v0"
  | ((with_reducible show rIx _ _ _ _ _); first | refine i_ixT (by wtm_at "lkT") rfl ?_ | refine i_ixL (by wtm_at "lkL") rfl ?_)
  | ((with_reducible show rLenU _ _ _ _); first | refine i_lenT (by wtm_at "lkT") ?_ | refine i_lenL (by wtm_at "lkL") ?_)
  | ((with_reducible show spDraw _ _ _ _); refine c_draw (by wtm_at "lkS") (by first | decide | omega) (by first | decide | omega) (by omega) ?_; intro _ _ _ _ _ _)
  | (with_reducible refine i_newTH (by first | decide | (simp; done)) ?_; intro _ _ _ _ _)
  | (with_reducible refine i_newL (by first | decide | (simp; done)) ?_; intro _ _ _ _ _) | fail)
local macro_rules | `(tactic| wtm_at "v") => `(tactic| repeat wtm_at "v1")
local macro_rules | `(tactic| wtm_at "vi") => `(tactic| repeat ((fail_if_success (with_reducible show tIfS _ _ _ _ _ _)); wtm_at "v1"))
local macro_rules | `(tactic| wtm_at "v1") => `(tactic| first
  | ((with_reducible refine i_mulI ?hm ?_); (case hm => exact wide_mul (a := 128) (b := 128) (by omega) (by omega) (by decide) (by decide) (by decide)))
  | ((with_reducible refine i_mod ?hm ?_); (case hm => first | decide | omega); intro _ _ _ _) | fail)
variable {P : Program} {w : World} {K : PySem.W.Frag} {mg : Str → Option Value} {base : Heap}
abbrev s_divisor : Stmt := topS 4
theorem sc_divisor : FnScope ["one", "other"] ["one", "other"] (defScope s_divisor) := ⟨rfl, rfl, rfl, by decide +kernel, rfl, by decide +kernel, by decide +kernel⟩
theorem ok_divisor {f : Addr} {fd : FuncData} (F : FunD K "divisor" "divisor" (defArgs s_divisor) (defBody s_divisor) (defScope s_divisor) [] [] f fd) (n_abs : mg "abs" = none) : FnG P w K mg base CX0 1 f fd ["one", "other"] spDiv := by
  refine okG (k := 0) F sc_divisor (fun vs H Q E h => ?_) (fun cdv A hG outer s H vs Q E hr h => ?_)
  · obtain ⟨a, b, rfl, _⟩ := h
    rfl
  · obtain ⟨a, b, rfl, k⟩ := h
    refine ⟨_, (pss_cons (ps_par (i := 0) (j := 1) rfl sc_divisor.nd rfl rfl (by decide) rfl rfl (pa_cons (pe_callB (call_absU) (by rfl) n_abs bt_abs (pa_cons (pv 0) pa_nil)) (pa_cons (pe_callB (call_absU) (by rfl) n_abs bt_abs (pa_cons (pv 1) pa_nil)) pa_nil)) rfl) (pss_cons (ps_while PassesOwn.never (pt_cmpR op_gt (pv 1) pe_int (nomark _)) (pss_one (ps_par (i := 0) (j := 1) rfl sc_divisor.nd rfl rfl (by decide) rfl rfl (pa_cons (pv 1) (pa_cons (pe_op op_modN (pv 0) (pv 1)) pa_nil)) rfl))) (pss_one (ps_ret (pv 0))))), ?_⟩
    wtm_at "v"
    refine i_while (fun m σ' H' => H' = H ∧ ∃ x y : Int, σ' = [some (.int x), some (.int y)] ∧ 0 ≤ x ∧ 0 ≤ y ∧ Int.gcd x y = Int.gcd a b ∧ m = y.toNat) _ ⟨rfl, _, _, rfl, by omega, by omega, gcd_abs a b, rfl⟩ ?_
    rintro m σ' H' ⟨rfl, x, y, rfl, hx, hy, hg, rfl⟩
    wtm_at "v"
    with_reducible refine ite_d (fun c => ?_) (fun c => ?_)
    · wtm_at "v"
      rename_i d hd0 hd1 hd
      exact ⟨_, by omega, rfl, _, _, rfl, hy, by omega, (by rw [hd]; exact gcd_turn' x y c : Int.gcd y d = Int.gcd x y).trans hg, rfl⟩
    · wtm_at "v"
      have e : y = 0 := by omega
      subst e
      have e2 : x = (Int.gcd a b : Int) := by rw [← hg, Int.gcd_zero_right]; omega
      rw [e2]
      exact k
abbrev s_part : Stmt := topS 5
theorem sc_part : FnScope ["a", "b", "by"] ["a", "b"] (defScope s_part) := ⟨rfl, rfl, rfl, by decide +kernel, rfl, by decide +kernel, by decide +kernel⟩
theorem ok_part {f : Addr} {fd : FuncData} {dvs : List V} {kws : List (Str × V)} (F : FunD K "part" "part" (defArgs s_part) (defBody s_part) (defScope s_part) dvs kws f fd) (O_divisor : Own P w K mg base CX0 1 "divisor" ["one", "other"] [] spDiv) : FnG P w K mg base CX0 2 f fd ["a", "b"] (spPart K) := by
  refine okG (k := 1) F sc_part (fun vs H Q E h => ?_) (fun cdv A hG outer s H vs Q E hr h => ?_)
  · obtain ⟨a, b, rfl, _⟩ := h
    rfl
  · obtain ⟨a, b, rfl, hb, hb2, ha2, k⟩ := h
    have hg := gcd_pos (a := a) hb
    have hg2 : (Int.gcd a b) ≤ b.natAbs := Nat.le_of_dvd (by omega) (Int.ofNat_dvd_left.mp (Int.gcd_dvd_right a b))
    refine ⟨_, (pss_cons (ps_if (pt_cmpR (k_eq K hr) (pv 1) pe_int (nomark _)) (pss_one ps_never) pss_nil) (pss_cons (ps_set (i := 2) sc_part.nd rfl (Or.inl rfl) (pe_ifExp (pt_cmpR op_gt (pv 1) pe_int (nomark _)) (pe_own O_divisor hG (hr.mono (by decide)) pass0 (pa_cons (pv 0) (pa_cons (pv 1) pa_nil))) (pe_op op_sub pe_int (pe_own O_divisor hG (hr.mono (by decide)) pass0 (pa_cons (pv 0) (pa_cons (pv 1) pa_nil)))))) (pss_one (ps_ret (pe_tup (pa_cons (pe_op op_fdivV (pv 0) (pv 2)) (pa_cons (pe_op op_fdivV (pv 1) (pv 2)) pa_nil))))))), ?_⟩
    wtm_at "v"
    with_reducible refine ite_d (fun c => absurd c hb) (fun _ => ?_)
    wtm_at "v"
    with_reducible refine ite_d (fun c => ?_) (fun c => ?_)
    · wtm_at "v"
      refine c_div ?_
      wtm_at "v"
      have hl : (Int.gcd a b : Int) ≠ 0 ∧ (Int.gcd a b : Int).natAbs.log2 < 9000 := ⟨by omega, lg9 (Nat.lt_of_le_of_lt (by omega) hb2)⟩
      refine i_I hl ?_
      wtm_at "v"
      refine i_I hl ?_
      wtm_at "v"
      refine k _ _ (by wtm_at "sm") ?_
      refine ⟨?_⟩
      rw [num_pos c, den_pos c]
      wtm_at "lkT"
    · wtm_at "v"
      refine c_div ?_
      wtm_at "v"
      have hl : (0 - (Int.gcd a b : Int)) ≠ 0 ∧ (0 - (Int.gcd a b : Int)).natAbs.log2 < 9000 := ⟨by omega, lg9 (Nat.lt_of_le_of_lt (by omega) hb2)⟩
      refine i_I hl ?_
      wtm_at "v"
      refine i_I hl ?_
      wtm_at "v"
      have c' : b < 0 := by omega
      refine k _ _ (by wtm_at "sm") ?_
      refine ⟨?_⟩
      rw [num_neg c', den_neg c']
      wtm_at "lkT"
abbrev s_law_part : Stmt := topS 16
theorem sc_law_part : FnScope ["above", "below", "one", "other", "sign"] ["above", "below"] (defScope s_law_part) := ⟨rfl, rfl, rfl, by decide +kernel, rfl, by decide +kernel, by decide +kernel⟩
theorem ok_law_part {f : Addr} {fd : FuncData} {dvs : List V} {kws : List (Str × V)} (F : FunD K "_law_part" "_law_part" (defArgs s_law_part) (defBody s_law_part) (defScope s_law_part) dvs kws f fd) (n_abs : mg "abs" = none) : FnG P w K mg base CX0 1 f fd ["above", "below"] (spPart K) := by
  refine okG (k := 0) F sc_law_part (fun vs H Q E h => ?_) (fun cdv A hG outer s H vs Q E hr h => ?_)
  · obtain ⟨a, b, rfl, _⟩ := h
    rfl
  · obtain ⟨a, b, rfl, hb, hb2, ha2, k⟩ := h
    have hg := gcd_pos (a := a) hb
    have hg2 : (Int.gcd a b) ≤ b.natAbs := Nat.le_of_dvd (by omega) (Int.ofNat_dvd_left.mp (Int.gcd_dvd_right a b))
    refine ⟨_, (pss_cons (ps_par (i := 2) (j := 3) rfl sc_law_part.nd rfl rfl (by decide) rfl rfl (pa_cons (pe_callB (call_absU) (by rfl) n_abs bt_abs (pa_cons (pv 0) pa_nil)) (pa_cons (pe_callB (call_absU) (by rfl) n_abs bt_abs (pa_cons (pv 1) pa_nil)) pa_nil)) rfl) (pss_cons (ps_while PassesOwn.never (pt_cmpR op_gt (pv 3) pe_int (nomark _)) (pss_one (ps_par (i := 2) (j := 3) rfl sc_law_part.nd rfl rfl (by decide) rfl rfl (pa_cons (pv 3) (pa_cons (pe_op op_modN (pv 2) (pv 3)) pa_nil)) rfl))) (pss_cons (ps_set (i := 4) sc_law_part.nd rfl (Or.inl rfl) (pe_ifExp (pt_cmpR op_gt (pv 1) pe_int (nomark _)) pe_int (pe_un un_neg pe_int))) (pss_one (ps_ret (pe_tup (pa_cons (pe_op op_fdivV (pe_op op_mulU (pv 4) (pv 0)) (pv 2)) (pa_cons (pe_op op_fdivV (pe_callB (call_absU) (by rfl) n_abs bt_abs (pa_cons (pv 1) pa_nil)) (pv 2)) pa_nil)))))))), ?_⟩
    wtm_at "v"
    refine i_while (fun m σ' H' => H = H' ∧ ∃ x y : Int, σ' = [some (.int a), some (.int b), some (.int x), some (.int y), none] ∧ 0 ≤ x ∧ 0 ≤ y ∧ Int.gcd x y = Int.gcd a b ∧ m = y.toNat) _ ⟨rfl, _, _, rfl, by omega, by omega, gcd_abs a b, rfl⟩ ?_
    rintro m σ' H' ⟨rfl, x, y, rfl, hx, hy, hgc, rfl⟩
    wtm_at "v"
    with_reducible refine ite_d (fun c => ?_) (fun c => ?_)
    · wtm_at "v"
      rename_i d hd0 hd1 hd
      exact ⟨_, by omega, rfl, _, _, rfl, hy, by omega, (by rw [hd]; exact gcd_turn' x y c : Int.gcd y d = Int.gcd x y).trans hgc, rfl⟩
    · have e : y = 0 := by omega
      subst e
      have e2 : x = (Int.gcd a b : Int) := by rw [← hgc, Int.gcd_zero_right]; omega
      subst e2
      have hl : (Int.gcd a b : Int) ≠ 0 ∧ (Int.gcd a b : Int).natAbs.log2 < 9000 := ⟨by omega, lg9 (Nat.lt_of_le_of_lt (by omega) hb2)⟩
      with_reducible refine i_seq ?_
      with_reducible refine i_asg ?_
      refine i_cutE (fun v H' => v = .int (if 0 < b then 1 else -1) ∧ H = H') (fun Q' hQ => ?_) ?_
      · with_reducible refine i_ifE ?_
        wtm_at "v"
        with_reducible refine ite_d (fun c3 => ?_) (fun c3 => ?_)
        · wtm_at "v"
          exact hQ _ _ ⟨by rw [if_pos c3], rfl⟩
        · wtm_at "v"
          exact hQ _ _ ⟨by rw [if_neg c3], rfl⟩
      rintro v H' ⟨rfl, rfl⟩
      wtm_at "v"
      have m1 : CMulW (if 0 < b then 1 else -1) a := wide_mul (a := 1) (b := 400000) (by split <;> decide) ha2 (by decide) (by decide) (by decide)
      refine i_mulI m1 ?_
      wtm_at "v"
      refine i_I hl ?_
      wtm_at "v"
      refine i_I hl ?_
      wtm_at "v"
      refine k _ _ (by wtm_at "sm") ?_
      refine ⟨?_⟩
      rw [num_law hb, den_law hb]
      wtm_at "lkT"
end
section
local macro_rules | `(tactic| wtm_at "lkP") => `(tactic| first
  | with_reducible assumption
  | exact PartK.pt (by with_reducible assumption)
  | exact PartAt.tm (by with_reducible assumption) (by wtm_at "tm") | fail)
/-! ### the steps as one word: wtm_at "v1" a step, wtm_at "v" as many as go -/
local macro_rules | `(tactic| wtm_at "tm") => `(tactic| first
  | exact Tm.refl _
  | exact Tm.same (by with_reducible assumption)
  | exact Tm.fx (by with_reducible assumption)
  | (refine Tm.trans ?_ (Tm.same (by with_reducible assumption)); wtm_at "tm")
  | (refine Tm.trans ?_ (Tm.fx (by with_reducible assumption)); wtm_at "tm") | fail)
local macro_rules | `(tactic| wtm_at "lkT1") => `(tactic| first
  | with_reducible assumption
  | exact TpK.tp (by with_reducible assumption)
  | exact TpH.tm (by with_reducible assumption) (by wtm_at "tm")
  | exact Tp.tm (by with_reducible assumption) (by wtm_at "tm")
  | exact Tp.of (by with_reducible assumption) | fail)
local macro_rules | `(tactic| wtm_at "lkT") => `(tactic| first
  | wtm_at "lkT1"
  | exact PartAt.tpe (by wtm_at "lkP") (by rfl)
  | fail)
local macro_rules | `(tactic| wtm_at "lk") => `(tactic| first
  | assumption
  | exact b_get (by assumption) (by wtm_at "lk")
  | exact b_lst (by assumption) (by wtm_at "ne") (by wtm_at "ne") (by wtm_at "lk") | fail)
local macro_rules | `(tactic| wtm_at "lkL") => `(tactic| first
  | assumption
  | exact SqL.of (by wtm_at "lk")
  | exact b_L (by assumption) (by wtm_at "lkL") | fail)
local macro_rules | `(tactic| wtm_at "intL") => `(tactic| first | exact IntL.nil | exact IntL.cons (by wtm_at "intL") | fail)
local macro_rules | `(tactic| wtm_at "lkS0") => `(tactic| first
  | with_reducible assumption
  | exact StoreAt.same (by with_reducible assumption) (by wtm_at "lkS0") | fail)
local macro_rules | `(tactic| wtm_at "lkS") => `(tactic| first
  | with_reducible assumption
  | exact StoreAt.from (by with_reducible assumption) (by wtm_at "sm") | fail)
local macro_rules | `(tactic| wtm_at "ne") => `(tactic| first
  | assumption
  | exact Ne.symm (by assumption)
  | exact st_ne1 (by with_reducible assumption) (by wtm_at "lkS0")
  | exact st_ne2 (by with_reducible assumption) (by wtm_at "lkS0")
  | exact new_ne (by assumption) (by wtm_at "lk")
  | exact new_ne' (by assumption) (by wtm_at "lk") | fail)
local macro_rules | `(tactic| wtm_at "sm") => `(tactic| first
  | with_reducible assumption
  | exact Same.refl _
  | (refine Same.trans ?_ (by with_reducible assumption); wtm_at "sm") | fail)
local macro_rules | `(tactic| wtm_at "fx") => `(tactic| first
  | with_reducible assumption
  | exact Fx.same (Same.refl _)
  | exact Fx.same (by with_reducible assumption)
  | (refine Fx.trans ?_ (by with_reducible assumption); wtm_at "fx")
  | (refine Fx.trans ?_ (Fx.same (by with_reducible assumption)); wtm_at "fx") | fail)
local macro_rules | `(tactic| wtm_at "v0") => `(tactic| first
  | with_reducible refine i_seq ?_ | with_reducible refine i_asg ?_ | with_reducible refine i_var rfl ?_ | with_reducible refine i_c ?_ | with_reducible refine i_name ?_
  | with_reducible refine i_op ?_ | with_reducible refine i_ifS ?_ | with_reducible refine i_test ?_ | with_reducible refine i_tB ?_
  | with_reducible refine i_cons ?_ | with_reducible refine i_nil ?_ | with_reducible refine i_call ?_ | with_reducible refine i_callN ?_ | with_reducible refine i_callX ?_ | with_reducible refine i_callNX ?_ | with_reducible refine i_cb ?_
  | with_reducible refine i_tup ?_ | with_reducible refine i_lst ?_ | with_reducible refine i_ret ?_ | with_reducible refine i_retN ?_ | with_reducible refine i_drop ?_
  | with_reducible refine i_next ?_ | with_reducible refine i_par ?_ | with_reducible refine i_par2 ?_ | with_reducible refine i_ifE ?_ | with_reducible refine i_un ?_
  | with_reducible refine i_and ?_ | with_reducible refine i_or ?_ | with_reducible refine i_not ?_ | with_reducible refine i_andV ?_ | with_reducible refine i_orV ?_ | with_reducible refine i_notV ?_
  | with_reducible refine i_notV2 ?_ | with_reducible refine i_bif (A := fun _ => _) ?_ | with_reducible refine i_brk ?_ | with_reducible refine i_ctn ?_
  | with_reducible refine i_abs ?_ | with_reducible refine i_min ?_ | with_reducible refine i_max ?_ | with_reducible refine i_for ?_ | with_reducible refine i_iR1 ?_ | with_reducible refine i_iR2 ?_ | with_reducible refine i_iL ?_ | with_reducible refine i_iT ?_ | with_reducible refine i_wb ?_
  | with_reducible refine i_sl ?_ | with_reducible refine i_no ?_ | with_reducible refine i_so ?_ | with_reducible refine i_exI ?_ | with_reducible refine i_exB ?_ | with_reducible refine i_gcons ?_ | with_reducible refine i_gnil ?_ | with_reducible refine i_bm ?_ | with_reducible refine i_gsub ?_ | with_reducible refine i_lc ?_ | with_reducible refine i_yes ?_ | with_reducible refine i_iE ?_
  | with_reducible refine ite_1 ?_ | with_reducible refine i_pow6 ?_ | with_reducible refine i_pow18 ?_ | with_reducible refine i_pow30 ?_
  | with_reducible refine i_addI ?_ | with_reducible refine i_I0 ?_ | with_reducible refine i_U ?_ | with_reducible refine i_eqI ?_ | with_reducible refine i_neI ?_ | fail)
local macro_rules | `(tactic| wtm_at "v1") => `(tactic| first
  | wtm_at "v0"
  | ((with_reducible show rIx _ _ _ _ _); first | refine i_ixT (by wtm_at "lkT") rfl ?_ | refine i_ixL (by wtm_at "lkL") rfl ?_)
  | ((with_reducible show rLenU _ _ _ _); first | refine i_lenT (by wtm_at "lkT") ?_ | refine i_lenL (by wtm_at "lkL") ?_)
  | ((with_reducible show spDraw _ _ _ _); refine c_draw (by wtm_at "lkS") (by first | decide | omega) (by first | decide | omega) (by omega) ?_; intro _ _ _ _ _ _)
  | (with_reducible refine i_newTH (by first | decide | (simp; done)) ?_; intro _ _ _ _ _)
  | (with_reducible refine i_newL (by first | decide | (simp; done)) ?_; intro _ _ _ _ _) | fail)
local macro_rules | `(tactic| wtm_at "v") => `(tactic| repeat wtm_at "v1")
local macro_rules | `(tactic| wtm_at "vi") => `(tactic| repeat ((fail_if_success (with_reducible show tIfS _ _ _ _ _ _)); wtm_at "v1"))
local macro_rules | `(tactic| wtm_at "nz") => `(tactic| first | assumption | decide | omega | fail)
local macro_rules | `(tactic| wtm_at "bi") => `(tactic| first | exact natAbs_up (by assumption) (by decide) | exact natAbs_up (n := 64) (by decide) (by decide) | exact natAbs_up (n := 64) (by omega) (by decide) | fail)
local macro_rules | `(tactic| wtm_at "v0") => `(tactic| first
  | ((with_reducible show spPart _ _ _ _ _); refine c_part (by wtm_at "nz") (by wtm_at "bi") (by wtm_at "bi") ?_; intro _ _ _ _) | fail)
/-! products of parts' numbers, known by their bits -/
local macro_rules | `(tactic| wtm_at "nb") => `(tactic| first | exact Bd.n (by assumption) | exact Bd.d (by assumption) | fail)
local macro_rules | `(tactic| wtm_at "nz") => `(tactic| first | exact den_ne _ | exact num_ne (by assumption) | exact mul_ne (by wtm_at "nz") (by wtm_at "nz") | fail)
local macro_rules | `(tactic| wtm_at "bi") => `(tactic| first
  | exact natAbs_up (mul_lt2 (by wtm_at "nb") (by wtm_at "nb")) (by decide)
  | exact natAbs_up (lt_add2 (mul_lt2 (by wtm_at "nb") (by wtm_at "nb")) (mul_lt2 (by wtm_at "nb") (by wtm_at "nb"))) (by decide)
  | exact natAbs_up (lt_sub2 (mul_lt2 (by wtm_at "nb") (by wtm_at "nb")) (mul_lt2 (by wtm_at "nb") (by wtm_at "nb"))) (by decide)
  | fail)
local macro_rules | `(tactic| wtm_at "v1") => `(tactic| first
  | ((with_reducible refine i_mulI ?hm ?_); (case hm => exact mulBd (by wtm_at "nb") (by wtm_at "nb"))) | fail)
variable {P : Program} {w : World} {K : PySem.W.Frag} {mg : Str → Option Value} {base : Heap}
abbrev s_plus : Stmt := topS 6
theorem sc_plus : FnScope ["one", "other"] ["one", "other"] (defScope s_plus) := ⟨rfl, rfl, rfl, by decide +kernel, rfl, by decide +kernel, by decide +kernel⟩
theorem ok_plus {f : Addr} {fd : FuncData} (F : FunD K "plus" "plus" (defArgs s_plus) (defBody s_plus) (defScope s_plus) [] [] f fd) (O_part : Own P w K mg base CX0 2 "part" ["a", "b"] [] (spPart K)) : FnG P w K mg base CX0 3 f fd ["one", "other"] (spPP K CT (· + ·)) := by
  refine okG (k := 2) F sc_plus (fun vs H Q E h => ?_) (fun cdv A hG outer s H vs Q E hr h => ?_)
  · obtain ⟨a, b, x, y, rfl, _⟩ := h
    rfl
  · obtain ⟨p, q, x, y, rfl, h1, h2, b1, b2, hy, k⟩ := h
    have k' : ∀ r H', Same H H' → PartAt K H' r (Rat.divInt (x.num * y.den + y.num * x.den) (x.den * y.den)) → Q (.ref r) H' := by rw [← add_eq]; exact k
    refine ⟨_, (pss_one (ps_ret (pe_own O_part hG (hr.mono (by decide)) pass0 (pa_cons (pe_op (k_add K) (pe_op op_mulU (pe_ix (k_ix K) (pv 0) pe_int (fun _ _ => rfl)) (pe_ix (k_ix K) (pv 1) pe_int (fun _ _ => rfl))) (pe_op op_mulU (pe_ix (k_ix K) (pv 1) pe_int (fun _ _ => rfl)) (pe_ix (k_ix K) (pv 0) pe_int (fun _ _ => rfl)))) (pa_cons (pe_op op_mulU (pe_ix (k_ix K) (pv 0) pe_int (fun _ _ => rfl)) (pe_ix (k_ix K) (pv 1) pe_int (fun _ _ => rfl))) pa_nil))))), ?_⟩
    wtm_at "v"
    exact k' _ _ (by assumption) (by assumption)
abbrev s_less : Stmt := topS 7
theorem sc_less : FnScope ["one", "other"] ["one", "other"] (defScope s_less) := ⟨rfl, rfl, rfl, by decide +kernel, rfl, by decide +kernel, by decide +kernel⟩
theorem ok_less {f : Addr} {fd : FuncData} (F : FunD K "less" "less" (defArgs s_less) (defBody s_less) (defScope s_less) [] [] f fd) (O_part : Own P w K mg base CX0 2 "part" ["a", "b"] [] (spPart K)) : FnG P w K mg base CX0 3 f fd ["one", "other"] (spPP K CT (· - ·)) := by
  refine okG (k := 2) F sc_less (fun vs H Q E h => ?_) (fun cdv A hG outer s H vs Q E hr h => ?_)
  · obtain ⟨a, b, x, y, rfl, _⟩ := h
    rfl
  · obtain ⟨p, q, x, y, rfl, h1, h2, b1, b2, hy, k⟩ := h
    have k' : ∀ r H', Same H H' → PartAt K H' r (Rat.divInt (x.num * y.den - y.num * x.den) (x.den * y.den)) → Q (.ref r) H' := by rw [← sub_eq]; exact k
    refine ⟨_, (pss_one (ps_ret (pe_own O_part hG (hr.mono (by decide)) pass0 (pa_cons (pe_op op_sub (pe_op op_mulU (pe_ix (k_ix K) (pv 0) pe_int (fun _ _ => rfl)) (pe_ix (k_ix K) (pv 1) pe_int (fun _ _ => rfl))) (pe_op op_mulU (pe_ix (k_ix K) (pv 1) pe_int (fun _ _ => rfl)) (pe_ix (k_ix K) (pv 0) pe_int (fun _ _ => rfl)))) (pa_cons (pe_op op_mulU (pe_ix (k_ix K) (pv 0) pe_int (fun _ _ => rfl)) (pe_ix (k_ix K) (pv 1) pe_int (fun _ _ => rfl))) pa_nil))))), ?_⟩
    wtm_at "v"
    exact k' _ _ (by assumption) (by assumption)
abbrev s_times : Stmt := topS 8
theorem sc_times : FnScope ["one", "other"] ["one", "other"] (defScope s_times) := ⟨rfl, rfl, rfl, by decide +kernel, rfl, by decide +kernel, by decide +kernel⟩
theorem ok_times {f : Addr} {fd : FuncData} (F : FunD K "times" "times" (defArgs s_times) (defBody s_times) (defScope s_times) [] [] f fd) (O_part : Own P w K mg base CX0 2 "part" ["a", "b"] [] (spPart K)) : FnG P w K mg base CX0 3 f fd ["one", "other"] (spPP K CT (· * ·)) := by
  refine okG (k := 2) F sc_times (fun vs H Q E h => ?_) (fun cdv A hG outer s H vs Q E hr h => ?_)
  · obtain ⟨a, b, x, y, rfl, _⟩ := h
    rfl
  · obtain ⟨p, q, x, y, rfl, h1, h2, b1, b2, hy, k⟩ := h
    have k' : ∀ r H', Same H H' → PartAt K H' r (Rat.divInt (x.num * y.num) (x.den * y.den)) → Q (.ref r) H' := by rw [← mul_eq]; exact k
    refine ⟨_, (pss_one (ps_ret (pe_own O_part hG (hr.mono (by decide)) pass0 (pa_cons (pe_op op_mulU (pe_ix (k_ix K) (pv 0) pe_int (fun _ _ => rfl)) (pe_ix (k_ix K) (pv 1) pe_int (fun _ _ => rfl))) (pa_cons (pe_op op_mulU (pe_ix (k_ix K) (pv 0) pe_int (fun _ _ => rfl)) (pe_ix (k_ix K) (pv 1) pe_int (fun _ _ => rfl))) pa_nil))))), ?_⟩
    wtm_at "v"
    exact k' _ _ (by assumption) (by assumption)
abbrev s_is_less : Stmt := topS 9
theorem sc_is_less : FnScope ["one", "other"] ["one", "other"] (defScope s_is_less) := ⟨rfl, rfl, rfl, by decide +kernel, rfl, by decide +kernel, by decide +kernel⟩
theorem ok_is_less {f : Addr} {fd : FuncData} (F : FunD K "is_less" "is_less" (defArgs s_is_less) (defBody s_is_less) (defScope s_is_less) [] [] f fd) : FnG P w K mg base CX0 1 f fd ["one", "other"] (spLess K) := by
  refine okG (k := 0) F sc_is_less (fun vs H Q E h => ?_) (fun cdv A hG outer s H vs Q E hr h => ?_)
  · obtain ⟨a, b, x, y, rfl, _⟩ := h
    rfl
  · obtain ⟨p, q, x, y, rfl, h1, h2, b1, b2, k⟩ := h
    rw [show decide (x < y) = decide (x.num * y.den < y.num * x.den) from decide_eq_decide.mpr (lt_eq x y)] at k
    refine ⟨_, (pss_one (ps_ret (pe_cmpR op_lt (pe_op op_mulU (pe_ix (k_ix K) (pv 0) pe_int (fun _ _ => rfl)) (pe_ix (k_ix K) (pv 1) pe_int (fun _ _ => rfl))) (pe_op op_mulU (pe_ix (k_ix K) (pv 1) pe_int (fun _ _ => rfl)) (pe_ix (k_ix K) (pv 0) pe_int (fun _ _ => rfl))) (nomark _)))), ?_⟩
    wtm_at "v"
    exact k
abbrev s_law_sum : Stmt := topS 17
theorem sc_law_sum : FnScope ["one", "other"] ["one", "other"] (defScope s_law_sum) := ⟨rfl, rfl, rfl, by decide +kernel, rfl, by decide +kernel, by decide +kernel⟩
theorem ok_law_sum {f : Addr} {fd : FuncData} (F : FunD K "_law_sum" "_law_sum" (defArgs s_law_sum) (defBody s_law_sum) (defScope s_law_sum) [] [] f fd) (O_law_part : Own P w K mg base CX0 1 "_law_part" ["above", "below"] [] (spPart K)) : FnG P w K mg base CX0 2 f fd ["one", "other"] (spPP K CT (· + ·)) := by
  refine okG (k := 1) F sc_law_sum (fun vs H Q E h => ?_) (fun cdv A hG outer s H vs Q E hr h => ?_)
  · obtain ⟨a, b, x, y, rfl, _⟩ := h
    rfl
  · obtain ⟨p, q, x, y, rfl, h1, h2, b1, b2, hy, k⟩ := h
    have k' : ∀ r H', Same H H' → PartAt K H' r (Rat.divInt (x.num * y.den + y.num * x.den) (x.den * y.den)) → Q (.ref r) H' := by rw [← add_eq]; exact k
    refine ⟨_, (pss_one (ps_ret (pe_own O_law_part hG (hr.mono (by decide)) pass0 (pa_cons (pe_op (k_add K) (pe_op op_mulU (pe_ix (k_ix K) (pv 0) pe_int (fun _ _ => rfl)) (pe_ix (k_ix K) (pv 1) pe_int (fun _ _ => rfl))) (pe_op op_mulU (pe_ix (k_ix K) (pv 1) pe_int (fun _ _ => rfl)) (pe_ix (k_ix K) (pv 0) pe_int (fun _ _ => rfl)))) (pa_cons (pe_op op_mulU (pe_ix (k_ix K) (pv 0) pe_int (fun _ _ => rfl)) (pe_ix (k_ix K) (pv 1) pe_int (fun _ _ => rfl))) pa_nil))))), ?_⟩
    wtm_at "v"
    exact k' _ _ (by assumption) (by assumption)
abbrev s_law_rest : Stmt := topS 18
theorem sc_law_rest : FnScope ["one", "other"] ["one", "other"] (defScope s_law_rest) := ⟨rfl, rfl, rfl, by decide +kernel, rfl, by decide +kernel, by decide +kernel⟩
theorem ok_law_rest {f : Addr} {fd : FuncData} (F : FunD K "_law_rest" "_law_rest" (defArgs s_law_rest) (defBody s_law_rest) (defScope s_law_rest) [] [] f fd) (O_law_part : Own P w K mg base CX0 1 "_law_part" ["above", "below"] [] (spPart K)) : FnG P w K mg base CX0 2 f fd ["one", "other"] (spPP K CT (· - ·)) := by
  refine okG (k := 1) F sc_law_rest (fun vs H Q E h => ?_) (fun cdv A hG outer s H vs Q E hr h => ?_)
  · obtain ⟨a, b, x, y, rfl, _⟩ := h
    rfl
  · obtain ⟨p, q, x, y, rfl, h1, h2, b1, b2, hy, k⟩ := h
    have k' : ∀ r H', Same H H' → PartAt K H' r (Rat.divInt (x.num * y.den - y.num * x.den) (x.den * y.den)) → Q (.ref r) H' := by rw [← sub_eq]; exact k
    refine ⟨_, (pss_one (ps_ret (pe_own O_law_part hG (hr.mono (by decide)) pass0 (pa_cons (pe_op op_sub (pe_op op_mulU (pe_ix (k_ix K) (pv 0) pe_int (fun _ _ => rfl)) (pe_ix (k_ix K) (pv 1) pe_int (fun _ _ => rfl))) (pe_op op_mulU (pe_ix (k_ix K) (pv 1) pe_int (fun _ _ => rfl)) (pe_ix (k_ix K) (pv 0) pe_int (fun _ _ => rfl)))) (pa_cons (pe_op op_mulU (pe_ix (k_ix K) (pv 0) pe_int (fun _ _ => rfl)) (pe_ix (k_ix K) (pv 1) pe_int (fun _ _ => rfl))) pa_nil))))), ?_⟩
    wtm_at "v"
    exact k' _ _ (by assumption) (by assumption)
abbrev s_law_fold : Stmt := topS 19
theorem sc_law_fold : FnScope ["one", "other"] ["one", "other"] (defScope s_law_fold) := ⟨rfl, rfl, rfl, by decide +kernel, rfl, by decide +kernel, by decide +kernel⟩
theorem ok_law_fold {f : Addr} {fd : FuncData} (F : FunD K "_law_fold" "_law_fold" (defArgs s_law_fold) (defBody s_law_fold) (defScope s_law_fold) [] [] f fd) (O_law_part : Own P w K mg base CX0 1 "_law_part" ["above", "below"] [] (spPart K)) : FnG P w K mg base CX0 2 f fd ["one", "other"] (spPP K CT (· * ·)) := by
  refine okG (k := 1) F sc_law_fold (fun vs H Q E h => ?_) (fun cdv A hG outer s H vs Q E hr h => ?_)
  · obtain ⟨a, b, x, y, rfl, _⟩ := h
    rfl
  · obtain ⟨p, q, x, y, rfl, h1, h2, b1, b2, hy, k⟩ := h
    have k' : ∀ r H', Same H H' → PartAt K H' r (Rat.divInt (x.num * y.num) (x.den * y.den)) → Q (.ref r) H' := by rw [← mul_eq]; exact k
    refine ⟨_, (pss_one (ps_ret (pe_own O_law_part hG (hr.mono (by decide)) pass0 (pa_cons (pe_op op_mulU (pe_ix (k_ix K) (pv 0) pe_int (fun _ _ => rfl)) (pe_ix (k_ix K) (pv 1) pe_int (fun _ _ => rfl))) (pa_cons (pe_op op_mulU (pe_ix (k_ix K) (pv 0) pe_int (fun _ _ => rfl)) (pe_ix (k_ix K) (pv 1) pe_int (fun _ _ => rfl))) pa_nil))))), ?_⟩
    wtm_at "v"
    exact k' _ _ (by assumption) (by assumption)
abbrev s_law_under : Stmt := topS 20
theorem sc_law_under : FnScope ["one", "other"] ["one", "other"] (defScope s_law_under) := ⟨rfl, rfl, rfl, by decide +kernel, rfl, by decide +kernel, by decide +kernel⟩
theorem ok_law_under {f : Addr} {fd : FuncData} (F : FunD K "_law_under" "_law_under" (defArgs s_law_under) (defBody s_law_under) (defScope s_law_under) [] [] f fd) : FnG P w K mg base CX0 1 f fd ["one", "other"] (spLess K) := by
  refine okG (k := 0) F sc_law_under (fun vs H Q E h => ?_) (fun cdv A hG outer s H vs Q E hr h => ?_)
  · obtain ⟨a, b, x, y, rfl, _⟩ := h
    rfl
  · obtain ⟨p, q, x, y, rfl, h1, h2, b1, b2, k⟩ := h
    rw [show decide (x < y) = decide (x.num * y.den < y.num * x.den) from decide_eq_decide.mpr (lt_eq x y)] at k
    refine ⟨_, (pss_one (ps_ret (pe_cmpR op_lt (pe_op op_mulU (pe_ix (k_ix K) (pv 0) pe_int (fun _ _ => rfl)) (pe_ix (k_ix K) (pv 1) pe_int (fun _ _ => rfl))) (pe_op op_mulU (pe_ix (k_ix K) (pv 1) pe_int (fun _ _ => rfl)) (pe_ix (k_ix K) (pv 0) pe_int (fun _ _ => rfl))) (nomark _)))), ?_⟩
    wtm_at "v"
    exact k
end
section
local macro_rules | `(tactic| wtm_at "lkP") => `(tactic| first
  | with_reducible assumption
  | exact PartK.pt (by with_reducible assumption)
  | exact PartAt.tm (by with_reducible assumption) (by wtm_at "tm") | fail)
/-! ### the steps as one word: wtm_at "v1" a step, wtm_at "v" as many as go -/
local macro_rules | `(tactic| wtm_at "tm") => `(tactic| first
  | exact Tm.refl _
  | exact Tm.same (by with_reducible assumption)
  | exact Tm.fx (by with_reducible assumption)
  | (refine Tm.trans ?_ (Tm.same (by with_reducible assumption)); wtm_at "tm")
  | (refine Tm.trans ?_ (Tm.fx (by with_reducible assumption)); wtm_at "tm") | fail)
local macro_rules | `(tactic| wtm_at "lkT1") => `(tactic| first
  | with_reducible assumption
  | exact TpK.tp (by with_reducible assumption)
  | exact TpH.tm (by with_reducible assumption) (by wtm_at "tm")
  | exact Tp.tm (by with_reducible assumption) (by wtm_at "tm")
  | exact Tp.of (by with_reducible assumption) | fail)
local macro_rules | `(tactic| wtm_at "lkT") => `(tactic| first
  | wtm_at "lkT1"
  | exact PartAt.tpe (by wtm_at "lkP") (by rfl)
  | fail)
local macro_rules | `(tactic| wtm_at "lk") => `(tactic| first
  | assumption
  | exact b_get (by assumption) (by wtm_at "lk")
  | exact b_lst (by assumption) (by wtm_at "ne") (by wtm_at "ne") (by wtm_at "lk") | fail)
local macro_rules | `(tactic| wtm_at "lkL") => `(tactic| first
  | assumption
  | exact SqL.of (by wtm_at "lk")
  | exact b_L (by assumption) (by wtm_at "lkL") | fail)
local macro_rules | `(tactic| wtm_at "intL") => `(tactic| first | exact IntL.nil | exact IntL.cons (by wtm_at "intL") | fail)
local macro_rules | `(tactic| wtm_at "lkS0") => `(tactic| first
  | with_reducible assumption
  | exact StoreAt.same (by with_reducible assumption) (by wtm_at "lkS0") | fail)
local macro_rules | `(tactic| wtm_at "lkS") => `(tactic| first
  | with_reducible assumption
  | exact StoreAt.from (by with_reducible assumption) (by wtm_at "sm") | fail)
local macro_rules | `(tactic| wtm_at "ne") => `(tactic| first
  | assumption
  | exact Ne.symm (by assumption)
  | exact st_ne1 (by with_reducible assumption) (by wtm_at "lkS0")
  | exact st_ne2 (by with_reducible assumption) (by wtm_at "lkS0")
  | exact new_ne (by assumption) (by wtm_at "lk")
  | exact new_ne' (by assumption) (by wtm_at "lk") | fail)
local macro_rules | `(tactic| wtm_at "sm") => `(tactic| first
  | with_reducible assumption
  | exact Same.refl _
  | (refine Same.trans ?_ (by with_reducible assumption); wtm_at "sm") | fail)
local macro_rules | `(tactic| wtm_at "fx") => `(tactic| first
  | with_reducible assumption
  | exact Fx.same (Same.refl _)
  | exact Fx.same (by with_reducible assumption)
  | (refine Fx.trans ?_ (by with_reducible assumption); wtm_at "fx")
  | (refine Fx.trans ?_ (Fx.same (by with_reducible assumption)); wtm_at "fx") | fail)
local macro_rules | `(tactic| wtm_at "v0") => `(tactic| first
  | with_reducible refine i_seq ?_ | with_reducible refine i_asg ?_ | with_reducible refine i_var rfl ?_ | with_reducible refine i_c ?_ | with_reducible refine i_name ?_
  | with_reducible refine i_op ?_ | with_reducible refine i_ifS ?_ | with_reducible refine i_test ?_ | with_reducible refine i_tB ?_
  | with_reducible refine i_cons ?_ | with_reducible refine i_nil ?_ | with_reducible refine i_call ?_ | with_reducible refine i_callN ?_ | with_reducible refine i_callX ?_ | with_reducible refine i_callNX ?_ | with_reducible refine i_cb ?_
  | with_reducible refine i_tup ?_ | with_reducible refine i_lst ?_ | with_reducible refine i_ret ?_ | with_reducible refine i_retN ?_ | with_reducible refine i_drop ?_
  | with_reducible refine i_next ?_ | with_reducible refine i_par ?_ | with_reducible refine i_par2 ?_ | with_reducible refine i_ifE ?_ | with_reducible refine i_un ?_
  | with_reducible refine i_and ?_ | with_reducible refine i_or ?_ | with_reducible refine i_not ?_ | with_reducible refine i_andV ?_ | with_reducible refine i_orV ?_ | with_reducible refine i_notV ?_
  | with_reducible refine i_notV2 ?_ | with_reducible refine i_bif (A := fun _ => _) ?_ | with_reducible refine i_brk ?_ | with_reducible refine i_ctn ?_
  | with_reducible refine i_abs ?_ | with_reducible refine i_min ?_ | with_reducible refine i_max ?_ | with_reducible refine i_for ?_ | with_reducible refine i_iR1 ?_ | with_reducible refine i_iR2 ?_ | with_reducible refine i_iL ?_ | with_reducible refine i_iT ?_ | with_reducible refine i_wb ?_
  | with_reducible refine i_sl ?_ | with_reducible refine i_no ?_ | with_reducible refine i_so ?_ | with_reducible refine i_exI ?_ | with_reducible refine i_exB ?_ | with_reducible refine i_gcons ?_ | with_reducible refine i_gnil ?_ | with_reducible refine i_bm ?_ | with_reducible refine i_gsub ?_ | with_reducible refine i_lc ?_ | with_reducible refine i_yes ?_ | with_reducible refine i_iE ?_
  | with_reducible refine ite_1 ?_ | with_reducible refine i_pow6 ?_ | with_reducible refine i_pow18 ?_ | with_reducible refine i_pow30 ?_
  | with_reducible refine i_addI ?_ | with_reducible refine i_I0 ?_ | with_reducible refine i_U ?_ | with_reducible refine i_eqI ?_ | with_reducible refine i_neI ?_ | fail)
local macro_rules | `(tactic| wtm_at "v1") => `(tactic| first
  | wtm_at "v0"
  | ((with_reducible show rIx _ _ _ _ _); first | refine i_ixT (by wtm_at "lkT") rfl ?_ | refine i_ixL (by wtm_at "lkL") rfl ?_)
  | ((with_reducible show rLenU _ _ _ _); first | refine i_lenT (by wtm_at "lkT") ?_ | refine i_lenL (by wtm_at "lkL") ?_)
  | ((with_reducible show spDraw _ _ _ _); refine c_draw (by wtm_at "lkS") (by first | decide | omega) (by first | decide | omega) (by omega) ?_; intro _ _ _ _ _ _)
  | (with_reducible refine i_newTH (by first | decide | (simp; done)) ?_; intro _ _ _ _ _)
  | (with_reducible refine i_newL (by first | decide | (simp; done)) ?_; intro _ _ _ _ _) | fail)
local macro_rules | `(tactic| wtm_at "v") => `(tactic| repeat wtm_at "v1")
local macro_rules | `(tactic| wtm_at "vi") => `(tactic| repeat ((fail_if_success (with_reducible show tIfS _ _ _ _ _ _)); wtm_at "v1"))
variable {P : Program} {w : World} {K : PySem.W.Frag} {mg : Str → Option Value} {base : Heap}
abbrev s_law_small : Stmt := topS 21
theorem sc_law_small : FnScope ["store", "size", "below", "above"] ["store"] (defScope s_law_small) := ⟨rfl, rfl, rfl, by decide +kernel, rfl, by decide +kernel, by decide +kernel⟩
theorem ok_law_small {f : Addr} {fd : FuncData} (F : FunD K "_law_small" "_law_small" (defArgs s_law_small) (defBody s_law_small) (defScope s_law_small) [] [] f fd) (O_law_draw : Own P w K mg base CX0 2 "_law_draw" ["store", "many"] [] spDraw) (O_law_part : Own P w K mg base CX0 1 "_law_part" ["above", "below"] [] (spPart K)) : FnG P w K mg base CX0 3 f fd ["store"] (spSmallD K) := by
  refine okG (k := 2) F sc_law_small (fun vs H Q E h => ?_) (fun cdv A hG outer s H vs Q E hr h => ?_)
  · obtain ⟨a, b, c, rfl, _⟩ := h
    rfl
  · obtain ⟨st, gl, n, rfl, S, hn, k⟩ := h
    refine ⟨_, (pss_cons (ps_set (i := 1) sc_law_small.nd rfl (Or.inl rfl) (pe_own O_law_draw hG (hr.mono (by decide)) pass0 (pa_cons (pv 0) (pa_cons pe_int pa_nil)))) (pss_cons (ps_set (i := 2) sc_law_small.nd rfl (Or.inl rfl) (pe_ix (k_ix K) (pe_lst (pa_cons pe_int (pa_cons pe_int (pa_cons pe_int (pa_cons pe_int (pa_cons pe_int (pa_cons pe_int (pa_cons pe_int (pa_cons pe_int (pa_cons pe_int (pa_cons pe_int (pa_cons (pe_op (k_add K) pe_int (pe_own O_law_draw hG (hr.mono (by decide)) pass0 (pa_cons (pv 0) (pa_cons pe_int pa_nil)))) pa_nil)))))))))))) (pe_own O_law_draw hG (hr.mono (by decide)) pass0 (pa_cons (pv 0) (pa_cons pe_int pa_nil))) (fun _ _ => rfl))) (pss_cons (ps_set (i := 3) sc_law_small.nd rfl (Or.inl rfl) (pe_lst (pa_cons pe_int (pa_cons pe_int (pa_cons (pe_op (k_add K) pe_int (pe_own O_law_draw hG (hr.mono (by decide)) pass0 (pa_cons (pv 0) (pa_cons pe_int pa_nil)))) (pa_cons (pe_own O_law_draw hG (hr.mono (by decide)) pass0 (pa_cons (pv 0) (pa_cons pe_int pa_nil))) (pa_cons (pe_op op_sub (pe_op op_pow pe_int pe_int) (pe_own O_law_draw hG (hr.mono (by decide)) pass0 (pa_cons (pv 0) (pa_cons pe_int pa_nil)))) pa_nil))))))) (pss_cons (ps_set (i := 3) sc_law_small.nd rfl (Or.inl rfl) (pe_ix (k_ix K) (pe_op (k_add K) (pv 3) (pe_lst (pa_cons (pe_own O_law_draw hG (hr.mono (by decide)) pass0 (pa_cons (pv 0) (pa_cons (pe_op op_pow pe_int pe_int) pa_nil))) pa_nil))) (pv 1) (fun _ _ => rfl))) (pss_one (ps_ret (pe_own O_law_part hG (hr.mono (by decide)) pass0 (pa_cons (pe_op op_mulU (pv 3) (pe_ix (k_ix K) (pe_lst (pa_cons pe_int (pa_cons (pe_un un_neg pe_int) pa_nil))) (pe_own O_law_draw hG (hr.mono (by decide)) pass0 (pa_cons (pv 0) (pa_cons pe_int pa_nil))) (fun _ _ => rfl))) (pa_cons (pv 2) pa_nil))))))))), ?_⟩
    wtm_at "v"
    refine i_ixM (SqL.of (by wtm_at "lk")) (by wtm_at "intL") (by omega) (by simp; omega) (fun c hc => ?_)
    have b0 : 1 ≤ c ∧ c ≤ 1000 := by
      simp only [List.mem_cons, List.not_mem_nil, or_false] at hc
      omega
    wtm_at "v"
    refine i_addL (by wtm_at "lk") (by wtm_at "lk") (by simp) ?_
    intro p1 H1 n1 s1 h1
    wtm_at "v"
    refine i_ixM (SqL.of (by wtm_at "lk")) (by wtm_at "intL") (by omega) (by simp; omega) (fun c1 hc1 => ?_)
    have b1 : c1.natAbs < 2 ^ 22 := by
      simp only [List.mem_cons, List.mem_append, List.cons_append, List.nil_append, List.not_mem_nil, or_false] at hc1
      omega
    wtm_at "v"
    refine i_ixM (SqL.of (by wtm_at "lk")) (by wtm_at "intL") (by omega) (by simp; omega) (fun c2 hc2 => ?_)
    have b2 : c2 = 1 ∨ c2 = -1 := by simpa using hc2
    have m1 : CMulW c1 c2 := wide_mul (a := 64) (b := 64) (by omega) (by omega) (by decide) (by decide) (by decide)
    refine i_mulI m1 ?_
    have b3 : (c1 * c2).natAbs < 2 ^ 22 := by rcases b2 with rfl | rfl <;> omega
    generalize c1 * c2 = c3 at *
    wtm_at "v"
    refine c_part (by omega) (natAbs_up (n := 22) (by omega) (by decide)) (natAbs_up (n := 22) (by omega) (by decide)) (fun p H9 s9 h9 => ?_)
    exact k _ p H9 (bd_divInt (by omega) (by omega) (by omega)) (Nat.le_trans (den_le (by omega)) (by omega)) h9 (StoreAt.mono (by wtm_at "lkS") (by omega)) (by wtm_at "fx")
end
section
local macro_rules | `(tactic| wtm_at "lkP") => `(tactic| first
  | with_reducible assumption
  | exact PartK.pt (by with_reducible assumption)
  | exact PartAt.tm (by with_reducible assumption) (by wtm_at "tm") | fail)
/-! ### the steps as one word: wtm_at "v1" a step, wtm_at "v" as many as go -/
local macro_rules | `(tactic| wtm_at "tm") => `(tactic| first
  | exact Tm.refl _
  | exact Tm.same (by with_reducible assumption)
  | exact Tm.fx (by with_reducible assumption)
  | (refine Tm.trans ?_ (Tm.same (by with_reducible assumption)); wtm_at "tm")
  | (refine Tm.trans ?_ (Tm.fx (by with_reducible assumption)); wtm_at "tm") | fail)
local macro_rules | `(tactic| wtm_at "lkT1") => `(tactic| first
  | with_reducible assumption
  | exact TpK.tp (by with_reducible assumption)
  | exact TpH.tm (by with_reducible assumption) (by wtm_at "tm")
  | exact Tp.tm (by with_reducible assumption) (by wtm_at "tm")
  | exact Tp.of (by with_reducible assumption) | fail)
local macro_rules | `(tactic| wtm_at "lkT") => `(tactic| first
  | wtm_at "lkT1"
  | exact PartAt.tpe (by wtm_at "lkP") (by rfl)
  | fail)
local macro_rules | `(tactic| wtm_at "lk") => `(tactic| first
  | assumption
  | exact b_get (by assumption) (by wtm_at "lk")
  | exact b_lst (by assumption) (by wtm_at "ne") (by wtm_at "ne") (by wtm_at "lk") | fail)
local macro_rules | `(tactic| wtm_at "lkL") => `(tactic| first
  | assumption
  | exact SqL.of (by wtm_at "lk")
  | exact b_L (by assumption) (by wtm_at "lkL") | fail)
local macro_rules | `(tactic| wtm_at "intL") => `(tactic| first | exact IntL.nil | exact IntL.cons (by wtm_at "intL") | fail)
local macro_rules | `(tactic| wtm_at "lkS0") => `(tactic| first
  | with_reducible assumption
  | exact StoreAt.same (by with_reducible assumption) (by wtm_at "lkS0") | fail)
local macro_rules | `(tactic| wtm_at "lkS") => `(tactic| first
  | with_reducible assumption
  | exact StoreAt.from (by with_reducible assumption) (by wtm_at "sm") | fail)
local macro_rules | `(tactic| wtm_at "ne") => `(tactic| first
  | assumption
  | exact Ne.symm (by assumption)
  | exact st_ne1 (by with_reducible assumption) (by wtm_at "lkS0")
  | exact st_ne2 (by with_reducible assumption) (by wtm_at "lkS0")
  | exact new_ne (by assumption) (by wtm_at "lk")
  | exact new_ne' (by assumption) (by wtm_at "lk") | fail)
local macro_rules | `(tactic| wtm_at "sm") => `(tactic| first
  | with_reducible assumption
  | exact Same.refl _
  | (refine Same.trans ?_ (by with_reducible assumption); wtm_at "sm") | fail)
local macro_rules | `(tactic| wtm_at "fx") => `(tactic| first
  | with_reducible assumption
  | exact Fx.same (Same.refl _)
  | exact Fx.same (by with_reducible assumption)
  | (refine Fx.trans ?_ (by with_reducible assumption); wtm_at "fx")
  | (refine Fx.trans ?_ (Fx.same (by with_reducible assumption)); wtm_at "fx") | fail)
local macro_rules | `(tactic| wtm_at "v0") => `(tactic| first
  | with_reducible refine i_seq ?_ | with_reducible refine i_asg ?_ | with_reducible refine i_var rfl ?_ | with_reducible refine i_c ?_ | with_reducible refine i_name ?_
  | with_reducible refine i_op ?_ | with_reducible refine i_ifS ?_ | with_reducible refine i_test ?_ | with_reducible refine i_tB ?_
  | with_reducible refine i_cons ?_ | with_reducible refine i_nil ?_ | with_reducible refine i_call ?_ | with_reducible refine i_callN ?_ | with_reducible refine i_callX ?_ | with_reducible refine i_callNX ?_ | with_reducible refine i_cb ?_
  | with_reducible refine i_tup ?_ | with_reducible refine i_lst ?_ | with_reducible refine i_ret ?_ | with_reducible refine i_retN ?_ | with_reducible refine i_drop ?_
  | with_reducible refine i_next ?_ | with_reducible refine i_par ?_ | with_reducible refine i_par2 ?_ | with_reducible refine i_ifE ?_ | with_reducible refine i_un ?_
  | with_reducible refine i_and ?_ | with_reducible refine i_or ?_ | with_reducible refine i_not ?_ | with_reducible refine i_andV ?_ | with_reducible refine i_orV ?_ | with_reducible refine i_notV ?_
  | with_reducible refine i_notV2 ?_ | with_reducible refine i_bif (A := fun _ => _) ?_ | with_reducible refine i_brk ?_ | with_reducible refine i_ctn ?_
  | with_reducible refine i_abs ?_ | with_reducible refine i_min ?_ | with_reducible refine i_max ?_ | with_reducible refine i_for ?_ | with_reducible refine i_iR1 ?_ | with_reducible refine i_iR2 ?_ | with_reducible refine i_iL ?_ | with_reducible refine i_iT ?_ | with_reducible refine i_wb ?_
  | with_reducible refine i_sl ?_ | with_reducible refine i_no ?_ | with_reducible refine i_so ?_ | with_reducible refine i_exI ?_ | with_reducible refine i_exB ?_ | with_reducible refine i_gcons ?_ | with_reducible refine i_gnil ?_ | with_reducible refine i_bm ?_ | with_reducible refine i_gsub ?_ | with_reducible refine i_lc ?_ | with_reducible refine i_yes ?_ | with_reducible refine i_iE ?_
  | with_reducible refine ite_1 ?_ | with_reducible refine i_pow6 ?_ | with_reducible refine i_pow18 ?_ | with_reducible refine i_pow30 ?_
  | with_reducible refine i_addI ?_ | with_reducible refine i_I0 ?_ | with_reducible refine i_U ?_ | with_reducible refine i_eqI ?_ | with_reducible refine i_neI ?_ | fail)
local macro_rules | `(tactic| wtm_at "v1") => `(tactic| first
  | wtm_at "v0"
  | ((with_reducible show rIx _ _ _ _ _); first | refine i_ixT (by wtm_at "lkT") rfl ?_ | refine i_ixL (by wtm_at "lkL") rfl ?_)
  | ((with_reducible show rLenU _ _ _ _); first | refine i_lenT (by wtm_at "lkT") ?_ | refine i_lenL (by wtm_at "lkL") ?_)
  | ((with_reducible show spDraw _ _ _ _); refine c_draw (by wtm_at "lkS") (by first | decide | omega) (by first | decide | omega) (by omega) ?_; intro _ _ _ _ _ _)
  | (with_reducible refine i_newTH (by first | decide | (simp; done)) ?_; intro _ _ _ _ _)
  | (with_reducible refine i_newL (by first | decide | (simp; done)) ?_; intro _ _ _ _ _) | fail)
local macro_rules | `(tactic| wtm_at "v") => `(tactic| repeat wtm_at "v1")
local macro_rules | `(tactic| wtm_at "vi") => `(tactic| repeat ((fail_if_success (with_reducible show tIfS _ _ _ _ _ _)); wtm_at "v1"))
/-! ### data shown and compared: found by themselves -/
local macro_rules | `(tactic| wtm_at "bd") => `(tactic| first | assumption | exact Bd.mono (by assumption) (by decide) | fail)
local macro_rules | `(tactic| wtm_at "bi") => `(tactic| first | exact natAbs_up (by assumption) (by decide) | exact natAbs_up (n := 64) (by decide) (by decide) | exact natAbs_up (n := 64) (by omega) (by decide) | fail)
local macro_rules | `(tactic| wtm_at "dpA") => `(tactic| first | exact DpAll.nil | exact DpAll.cons (by wtm_at "dp") (by wtm_at "dpA") | fail)
local macro_rules | `(tactic| wtm_at "dp") => `(tactic| first
  | exact Dp.int _ | exact Dp.bl _ | exact Dp.non | exact Dp.str _
  | exact dp_PA (by wtm_at "lkP")
  | exact Dp.tup (Tp.sq (by wtm_at "lkT")) (by wtm_at "dpA")
  | exact Dp.lst (by wtm_at "lkL") (by wtm_at "dpA") | fail)
local macro_rules | `(tactic| wtm_at "okA") => `(tactic| first | exact OkAll.nil' | exact OkAll.cons' (by wtm_at "ok") (by wtm_at "okA") | fail)
local macro_rules | `(tactic| wtm_at "ok") => `(tactic| first
  | ((with_reducible show Ok _ _ (dP _)); exact ok_P (by wtm_at "bd"))
  | exact Ok.int (by wtm_at "bi") | exact Ok.bool _ | exact Ok.none
  | ((with_reducible show Ok _ _ (.list _)); exact Ok.lst' (by wtm_at "okA")) | ((with_reducible show Ok _ _ (.tuple _)); exact Ok.tup' (by wtm_at "okA")) | fail)
local macro_rules | `(tactic| wtm_at "shA") => `(tactic| first | exact ShAll.nil | (refine ShAll.cons ?ha ?hb; (case ha => wtm_at "sh"); (case hb => wtm_at "shA")) | exact ShAll.ints _ | fail)
local macro_rules | `(tactic| wtm_at "sh") => `(tactic| first
  | ((with_reducible show Sh _ (dP _)); exact sh_P _)
  | exact Sh.int _ | exact Sh.bool _ | exact Sh.none | (refine Sh.lst ?_; wtm_at "shA") | (refine Sh.tup ?_; wtm_at "shA") | fail)
local macro_rules | `(tactic| wtm_at "v0") => `(tactic| first
  | ((with_reducible refine i_lens ?ha ?hb ?_); (case ha => rfl); (case hb => rfl))
  | with_reducible refine ite_0 ?_ | with_reducible refine ite_n0 ?_ | with_reducible refine ite_n1 ?_
  | ((with_reducible show rEqU _ (.ref _) (.ref _) _ _); refine i_eqP (by wtm_at "lkP") (by wtm_at "lkP") ?_)
  | ((with_reducible show rNeU _ (.ref _) (.ref _) _ _); refine i_neP (by wtm_at "lkP") (by wtm_at "lkP") ?_)
  | ((with_reducible show rEqU _ (.ref _) (.ref _) _ _); refine i_eqD (by wtm_at "dp") (by wtm_at "dp") (Sh.shaped (n := 9) (by wtm_at "sh") (by decide)) (Sh.shaped (n := 9) (by wtm_at "sh") (by decide)) ?_)
  | ((with_reducible show rNeU _ (.ref _) (.ref _) _ _); refine i_neD (by wtm_at "dp") (by wtm_at "dp") (Sh.shaped (n := 9) (by wtm_at "sh") (by decide)) (Sh.shaped (n := 9) (by wtm_at "sh") (by decide)) ?_)
  | ((with_reducible show rReprD _ _ _ _); refine i_repr (by wtm_at "dp") (by wtm_at "ok") (Nat.le_of_ble_eq_true rfl) (Nat.le_of_ble_eq_true rfl) ?_) | fail)
/-! calls of the reckoning; what is alike is alike -/
local macro_rules | `(tactic| wtm_at "v0") => `(tactic| first
  | ((with_reducible show spPP _ CT _ _ _ _ _); refine c_PP (by wtm_at "lkP") (by wtm_at "lkP") (by wtm_at "bd") (by wtm_at "bd") True.intro ?_; intro _ _ _ _)
  | ((with_reducible show spLess _ _ _ _ _); refine c_less (by wtm_at "lkP") (by wtm_at "lkP") (by wtm_at "bd") (by wtm_at "bd") ?_)
  | with_reducible refine ite_n (fun c => absurd rfl c) (fun _ => ?_)
  | ((with_reducible show rNeU _ (.bl _) (.bl _) _ _); refine i_neB rfl ?_)
  | ((with_reducible show rEqU _ (.bl _) (.bl _) _ _); refine i_eqB rfl ?_)
  | ((with_reducible show rNeU _ (.str _) (.str _) _ _); refine i_neS rfl ?_)
  | ((with_reducible show rEqU _ (.str _) (.str _) _ _); refine i_eqS rfl ?_) | fail)
/-! deep data -/
local macro_rules | `(tactic| wtm_at "td") => `(tactic| first
  | with_reducible assumption
  | exact TD.tm (by with_reducible assumption) (by wtm_at "tm")
  | exact PartAt.td (by wtm_at "lkP") | fail)
local macro_rules | `(tactic| wtm_at "tl") => `(tactic| first
  | with_reducible assumption
  | exact TL.tm (by with_reducible assumption) (by wtm_at "tm") | fail)
local macro_rules | `(tactic| wtm_at "vq") => `(tactic| repeat ((fail_if_success (with_reducible show rEqU _ (.ref _) (.ref _) _ _)); (fail_if_success (with_reducible show rNeU _ (.ref _) (.ref _) _ _)); wtm_at "v1"))
variable {P : Program} {w : World} {K : PySem.W.Frag} {mg : Str → Option Value} {base : Heap}
abbrev s_summed : Stmt := topS 10
theorem sc_summed : FnScope ["some", "start", "found", "one"] ["some", "start"] (defScope s_summed) := ⟨rfl, rfl, rfl, by decide +kernel, rfl, by decide +kernel, by decide +kernel⟩
theorem ok_summed {f : Addr} {fd : FuncData} {dvs : List V} {kws : List (Str × V)} (F : FunD K "summed" "summed" (defArgs s_summed) (defBody s_summed) (defScope s_summed) dvs kws f fd) (O_plus : Own P w K mg base CX0 3 "plus" ["one", "other"] [] (spPP K CT (· + ·))) : FnG P w K mg base CX0 4 f fd ["some", "start"] (spSum K) := by
  refine okG (k := 3) F sc_summed (fun vs H Q E h => ?_) (fun cdv A hG outer s H vs Q E hr h => ?_)
  · obtain ⟨a, b, c, d, e, g, i, rfl, _⟩ := h
    rfl
  · obtain ⟨p, ps, t, qs, x, D, B, rfl, ⟨xs, h1, h2⟩, hx, dx, dq, D0, D1, hB, hl, k⟩ := h
    have el : xs.length = qs.length := by simpa using h2.len
    refine ⟨_, (pss_cons (ps_set (i := 2) sc_summed.nd rfl (Or.inl rfl) (pv 1)) (pss_cons (ps_for PassesOwn.never rfl (k_piS K (pv 0)) (pg_name (i := 3) sc_summed.nd rfl (Or.inl rfl)) (pss_one (ps_set (i := 2) sc_summed.nd rfl (Or.inl rfl) (pe_own O_plus hG (hr.mono (by decide)) pass0 (pa_cons (pv 2) (pa_cons (pv 3) pa_nil)))))) (pss_one (ps_ret (pv 2))))), ?_⟩
    wtm_at "v"
    refine i_iS ?_
    wtm_at "v"
    refine i_forS h1 (fun i σ' H' => ∃ (pf : Addr) (v3 : Option V), σ' = [some (.ref p), some (.ref ps), some (.ref pf), v3] ∧ PartAt K H' pf (sumTo x qs i) ∧ Same H H') ⟨ps, none, rfl, by rw [sumTo_zero]; exact hx, Same.refl _⟩ ?_ ?_ ?_
    · rintro i σ' H' _ ⟨pf, v3, rfl, hf, sm⟩
      exact h1.same sm
    · rintro i y σ' H4 hy ⟨pf, v3, rfl, hf, sm⟩
      obtain ⟨pt, q, rfl, hqi, hp⟩ := (h2.tm (Tm.same sm)).part hy
      have hi : i < qs.length := (List.getElem?_eq_some_iff.mp hqi).1
      have b0 : B * (i + 1) ≤ 2 ^ 50 := by
        have := Nat.mul_le_mul hB (show i + 1 ≤ 2 ^ 10 by omega)
        exact this
      have b1 : Bd 4000 (sumTo x qs i) := Bd.mono ((sumTo_dv dx dq i (by omega)).bd (n := 1300) D0 (Nat.lt_of_lt_of_le D1 (Nat.pow_le_pow_right (by decide) (by decide))) (sum_room b0 D1)) (by decide)
      have b2 : Bd 4000 q := Bd.mono ((dq q (List.mem_of_getElem? hqi)).bd (n := 1300) D0 (Nat.lt_of_lt_of_le D1 (Nat.pow_le_pow_right (by decide) (by decide))) (sum_room (Nat.le_trans hB (by decide)) D1)) (by decide)
      wtm_at "v"
      refine ⟨_, _, rfl, by rw [sumTo_succ hqi]; assumption, by wtm_at "sm"⟩
    · rintro σ' H4 ⟨pf, v3, rfl, hf, sm⟩
      wtm_at "v"
      exact k _ _ sm (by rw [← el]; exact hf)
abbrev s_least : Stmt := topS 11
theorem sc_least : FnScope ["some", "none", "first", "rest", "found", "one"] ["some", "none"] (defScope s_least) := ⟨rfl, rfl, rfl, by decide +kernel, rfl, by decide +kernel, by decide +kernel⟩
theorem ok_least {f : Addr} {fd : FuncData} {dvs : List V} {kws : List (Str × V)} (F : FunD K "least" "least" (defArgs s_least) (defBody s_least) (defScope s_least) dvs kws f fd) (O_is_less : Own P w K mg base CX0 1 "is_less" ["one", "other"] [] (spLess K)) (n_len : mg "len" = none) : FnG P w K mg base CX0 2 f fd ["some", "none"] (spEnd K Lo) := by
  refine okG (k := 1) F sc_least (fun vs H Q E h => ?_) (fun cdv A hG outer s H vs Q E hr h => ?_)
  · obtain ⟨a, b, c, d, e, rfl, _⟩ := h
    rfl
  · obtain ⟨p, v, d0, t, qs, rfl, ⟨xs, h1, h2⟩, hv, hb, hl, k⟩ := h
    have el : xs.length = qs.length := by simpa using h2.len
    refine ⟨_, (pss_cons (ps_if (pt_cmpR (k_eq K hr) (pe_callB (k_len K) (by rfl) n_len bt_len (pa_cons (pv 0) pa_nil)) pe_int (nomark _)) (pss_one (ps_ret (pv 1))) pss_nil) (pss_cons (ps_asg (pv 0) (k_gstar K rfl (pgs_cons (pg_name (i := 2) sc_least.nd rfl (Or.inl rfl)) (pgs_cons (pg_name (i := 3) sc_least.nd rfl (Or.inl rfl)) pgs_nil)))) (pss_cons (ps_set (i := 4) sc_least.nd rfl (Or.inl rfl) (pv 2)) (pss_cons (ps_for PassesOwn.never rfl (k_piL K (pv 3)) (pg_name (i := 5) sc_least.nd rfl (Or.inl rfl)) (pss_one (ps_set (i := 4) sc_least.nd rfl (Or.inl rfl) (pe_ifExp (pt_val (pe_own O_is_less hG (hr.mono (by decide)) pass0 (pa_cons (pv 5) (pa_cons (pv 4) pa_nil)))) (pv 5) (pv 4))))) (pss_one (ps_ret (pv 4))))))), ?_⟩
    wtm_at "v"
    refine i_lenV h1 ?_
    wtm_at "v"
    with_reducible refine ite_d (fun c => ?_) (fun c => ?_)
    · wtm_at "v"
      exact k _ _ _ (Same.refl _) (.inl ⟨List.eq_nil_of_length_eq_zero (by omega), rfl⟩) hv
    · obtain ⟨q, qs, rfl⟩ : ∃ q r, qs = q :: r := by
        cases qs with
        | nil => exact absurd (by rw [el]; rfl) c
        | cons q r => exact ⟨q, r, rfl⟩
      obtain ⟨z, xs, rfl⟩ : ∃ z r, xs = z :: r := by
        cases xs with
        | nil => exact absurd rfl c
        | cons q r => exact ⟨q, r, rfl⟩
      obtain ⟨pz, q', rfl, hq', hz⟩ := h2.part (i := 0) rfl
      obtain rfl : q = q' := by simpa using hq'
      have el2 : xs.length = qs.length := by simpa using el
      wtm_at "v"
      refine i_gstar h1.or (by simp at hl; omega) (fun pr H1 n1 s1 hr1 => ?_)
      have t1 := h2.tm (Tm.same s1)
      have z1 : PartAt K H1 pz q := hz.mono s1
      wtm_at "v"
      refine i_itL (SqL.of hr1) ?_
      refine i_forL (xs := xs) (fun i σ' H' => ∃ (pf : Addr) (m : Rat) (v5 : Option V), σ' = [some (.ref p), some v, some (.ref pz), some (.ref pr), some (.ref pf), v5] ∧ PartAt K H' pf m ∧ LoT (q :: qs) (i + 1) m ∧ H' pr = some (.lst xs) ∧ Same H1 H') ⟨pz, q, none, rfl, z1, LoT.first, hr1, Same.refl _⟩ ?_ ?_ ?_
      · rintro i σ' H' _ ⟨pf, m, v5, rfl, hf, lo, hr, sm⟩
        exact SqL.of hr
      · rintro i y σ' H4 hy ⟨pf, m, v5, rfl, hf, lo, hr, sm⟩
        obtain ⟨pt, q2, rfl, hqi, hp⟩ := (t1.tm (Tm.same sm)).part (i := i + 1) (by simpa using hy)
        have b1 : Bd 4000 m := (hb m lo.1).mono (by decide)
        have b2 : Bd 4000 q2 := (hb q2 (List.mem_of_getElem? hqi)).mono (by decide)
        wtm_at "v"
        with_reducible refine ite_d (fun c1 => ?_) (fun c1 => ?_)
        · wtm_at "v"
          exact ⟨_, _, _, rfl, by wtm_at "lkP", lo.yes hqi c1, by wtm_at "lk", by wtm_at "sm"⟩
        · wtm_at "v"
          exact ⟨_, _, _, rfl, by wtm_at "lkP", lo.no hqi c1, by wtm_at "lk", by wtm_at "sm"⟩
      · rintro σ' H4 ⟨pf, m, v5, rfl, hf, lo, hr, sm⟩
        wtm_at "v"
        have lo' : LoT (q :: qs) (q :: qs).length m := by rw [el2] at lo; exact lo
        exact k _ _ _ (by wtm_at "sm") (.inr ⟨by simp, m, lo'.all, rfl⟩) hf.td
abbrev s_greatest : Stmt := topS 12
theorem sc_greatest : FnScope ["some", "none", "first", "rest", "found", "one"] ["some", "none"] (defScope s_greatest) := ⟨rfl, rfl, rfl, by decide +kernel, rfl, by decide +kernel, by decide +kernel⟩
theorem ok_greatest {f : Addr} {fd : FuncData} {dvs : List V} {kws : List (Str × V)} (F : FunD K "greatest" "greatest" (defArgs s_greatest) (defBody s_greatest) (defScope s_greatest) dvs kws f fd) (O_is_less : Own P w K mg base CX0 1 "is_less" ["one", "other"] [] (spLess K)) (n_len : mg "len" = none) : FnG P w K mg base CX0 2 f fd ["some", "none"] (spEnd K Hi) := by
  refine okG (k := 1) F sc_greatest (fun vs H Q E h => ?_) (fun cdv A hG outer s H vs Q E hr h => ?_)
  · obtain ⟨a, b, c, d, e, rfl, _⟩ := h
    rfl
  · obtain ⟨p, v, d0, t, qs, rfl, ⟨xs, h1, h2⟩, hv, hb, hl, k⟩ := h
    have el : xs.length = qs.length := by simpa using h2.len
    refine ⟨_, (pss_cons (ps_if (pt_cmpR (k_eq K hr) (pe_callB (k_len K) (by rfl) n_len bt_len (pa_cons (pv 0) pa_nil)) pe_int (nomark _)) (pss_one (ps_ret (pv 1))) pss_nil) (pss_cons (ps_asg (pv 0) (k_gstar K rfl (pgs_cons (pg_name (i := 2) sc_greatest.nd rfl (Or.inl rfl)) (pgs_cons (pg_name (i := 3) sc_greatest.nd rfl (Or.inl rfl)) pgs_nil)))) (pss_cons (ps_set (i := 4) sc_greatest.nd rfl (Or.inl rfl) (pv 2)) (pss_cons (ps_for PassesOwn.never rfl (k_piL K (pv 3)) (pg_name (i := 5) sc_greatest.nd rfl (Or.inl rfl)) (pss_one (ps_set (i := 4) sc_greatest.nd rfl (Or.inl rfl) (pe_ifExp (pt_val (pe_own O_is_less hG (hr.mono (by decide)) pass0 (pa_cons (pv 4) (pa_cons (pv 5) pa_nil)))) (pv 5) (pv 4))))) (pss_one (ps_ret (pv 4))))))), ?_⟩
    wtm_at "v"
    refine i_lenV h1 ?_
    wtm_at "v"
    with_reducible refine ite_d (fun c => ?_) (fun c => ?_)
    · wtm_at "v"
      exact k _ _ _ (Same.refl _) (.inl ⟨List.eq_nil_of_length_eq_zero (by omega), rfl⟩) hv
    · obtain ⟨q, qs, rfl⟩ : ∃ q r, qs = q :: r := by
        cases qs with
        | nil => exact absurd (by rw [el]; rfl) c
        | cons q r => exact ⟨q, r, rfl⟩
      obtain ⟨z, xs, rfl⟩ : ∃ z r, xs = z :: r := by
        cases xs with
        | nil => exact absurd rfl c
        | cons q r => exact ⟨q, r, rfl⟩
      obtain ⟨pz, q', rfl, hq', hz⟩ := h2.part (i := 0) rfl
      obtain rfl : q = q' := by simpa using hq'
      have el2 : xs.length = qs.length := by simpa using el
      wtm_at "v"
      refine i_gstar h1.or (by simp at hl; omega) (fun pr H1 n1 s1 hr1 => ?_)
      have t1 := h2.tm (Tm.same s1)
      have z1 : PartAt K H1 pz q := hz.mono s1
      wtm_at "v"
      refine i_itL (SqL.of hr1) ?_
      refine i_forL (xs := xs) (fun i σ' H' => ∃ (pf : Addr) (m : Rat) (v5 : Option V), σ' = [some (.ref p), some v, some (.ref pz), some (.ref pr), some (.ref pf), v5] ∧ PartAt K H' pf m ∧ HiT (q :: qs) (i + 1) m ∧ H' pr = some (.lst xs) ∧ Same H1 H') ⟨pz, q, none, rfl, z1, HiT.first, hr1, Same.refl _⟩ ?_ ?_ ?_
      · rintro i σ' H' _ ⟨pf, m, v5, rfl, hf, lo, hr, sm⟩
        exact SqL.of hr
      · rintro i y σ' H4 hy ⟨pf, m, v5, rfl, hf, lo, hr, sm⟩
        obtain ⟨pt, q2, rfl, hqi, hp⟩ := (t1.tm (Tm.same sm)).part (i := i + 1) (by simpa using hy)
        have b1 : Bd 4000 m := (hb m lo.1).mono (by decide)
        have b2 : Bd 4000 q2 := (hb q2 (List.mem_of_getElem? hqi)).mono (by decide)
        wtm_at "v"
        with_reducible refine ite_d (fun c1 => ?_) (fun c1 => ?_)
        · wtm_at "v"
          exact ⟨_, _, _, rfl, by wtm_at "lkP", lo.yes hqi c1, by wtm_at "lk", by wtm_at "sm"⟩
        · wtm_at "v"
          exact ⟨_, _, _, rfl, by wtm_at "lkP", lo.no hqi c1, by wtm_at "lk", by wtm_at "sm"⟩
      · rintro σ' H4 ⟨pf, m, v5, rfl, hf, lo, hr, sm⟩
        wtm_at "v"
        have lo' : HiT (q :: qs) (q :: qs).length m := by rw [el2] at lo; exact lo
        exact k _ _ _ (by wtm_at "sm") (.inr ⟨by simp, m, lo'.all, rfl⟩) hf.td
abbrev s_law_total : Stmt := topS 26
theorem sc_law_total : FnScope ["row", "first", "found", "one"] ["row", "first"] (defScope s_law_total) := ⟨rfl, rfl, rfl, by decide +kernel, rfl, by decide +kernel, by decide +kernel⟩
theorem ok_law_total {f : Addr} {fd : FuncData} (F : FunD K "_law_total" "_law_total" (defArgs s_law_total) (defBody s_law_total) (defScope s_law_total) [] [] f fd) (O_law_sum : Own P w K mg base CX0 2 "_law_sum" ["one", "other"] [] (spPP K CT (· + ·))) : FnG P w K mg base CX0 3 f fd ["row", "first"] (spSumL K) := by
  refine okG (k := 2) F sc_law_total (fun vs H Q E h => ?_) (fun cdv A hG outer s H vs Q E hr h => ?_)
  · obtain ⟨a, b, c, e, g, i, rfl, _⟩ := h
    rfl
  · obtain ⟨p, ps, qs, x, D, B, rfl, ⟨xs, h1, h2⟩, hx, dx, dq, D0, D1, hB, hl, k⟩ := h
    have h1 : SqL K H p xs := h1
    have el : xs.length = qs.length := by simpa using h2.len
    refine ⟨_, (pss_cons (ps_set (i := 2) sc_law_total.nd rfl (Or.inl rfl) (pv 1)) (pss_cons (ps_for PassesOwn.never rfl (k_piL K (pv 0)) (pg_name (i := 3) sc_law_total.nd rfl (Or.inl rfl)) (pss_one (ps_set (i := 2) sc_law_total.nd rfl (Or.inl rfl) (pe_own O_law_sum hG (hr.mono (by decide)) pass0 (pa_cons (pv 2) (pa_cons (pv 3) pa_nil)))))) (pss_one (ps_ret (pv 2))))), ?_⟩
    wtm_at "v"
    refine i_itL h1 ?_
    refine i_forL (xs := xs) (fun i σ' H' => ∃ (pf : Addr) (v3 : Option V), σ' = [some (.ref p), some (.ref ps), some (.ref pf), v3] ∧ PartAt K H' pf (sumTo x qs i) ∧ Same H H') ⟨ps, none, rfl, by rw [sumTo_zero]; exact hx, Same.refl _⟩ ?_ ?_ ?_
    · rintro i σ' H' _ ⟨pf, v3, rfl, hf, sm⟩
      exact b_L sm h1
    · rintro i y σ' H4 hy ⟨pf, v3, rfl, hf, sm⟩
      obtain ⟨pt, q, rfl, hqi, hp⟩ := (h2.tm (Tm.same sm)).part hy
      have hi : i < qs.length := (List.getElem?_eq_some_iff.mp hqi).1
      have b0 : B * (i + 1) ≤ 2 ^ 50 := by
        have := Nat.mul_le_mul hB (show i + 1 ≤ 2 ^ 10 by omega)
        exact this
      have b1 : Bd 4000 (sumTo x qs i) := Bd.mono ((sumTo_dv dx dq i (by omega)).bd (n := 1300) D0 (Nat.lt_of_lt_of_le D1 (Nat.pow_le_pow_right (by decide) (by decide))) (sum_room b0 D1)) (by decide)
      have b2 : Bd 4000 q := Bd.mono ((dq q (List.mem_of_getElem? hqi)).bd (n := 1300) D0 (Nat.lt_of_lt_of_le D1 (Nat.pow_le_pow_right (by decide) (by decide))) (sum_room (Nat.le_trans hB (by decide)) D1)) (by decide)
      wtm_at "v"
      refine ⟨_, _, rfl, by rw [sumTo_succ hqi]; assumption, by wtm_at "sm"⟩
    · rintro σ' H4 ⟨pf, v3, rfl, hf, sm⟩
      wtm_at "v"
      exact k _ _ sm (by rw [← el]; exact hf)
abbrev s_law_end : Stmt := topS 27
theorem sc_law_end : FnScope ["row", "other", "sign", "found", "one"] ["row", "other", "sign"] (defScope s_law_end) := ⟨rfl, rfl, rfl, by decide +kernel, rfl, by decide +kernel, by decide +kernel⟩
theorem ok_law_end {f : Addr} {fd : FuncData} (F : FunD K "_law_end" "_law_end" (defArgs s_law_end) (defBody s_law_end) (defScope s_law_end) [] [] f fd) (O_law_under : Own P w K mg base CX0 1 "_law_under" ["one", "other"] [] (spLess K)) : FnG P w K mg base CX0 2 f fd ["row", "other", "sign"] (spEndS K) := by
  refine okG (k := 1) F sc_law_end (fun vs H Q E h => ?_) (fun cdv A hG outer s H vs Q E hr h => ?_)
  · obtain ⟨a, b, c, d, e, rfl, _⟩ := h
    rfl
  · obtain ⟨p, v, d0, qs, sg, rfl, ⟨xs, h1, h2⟩, hv, hb, hl, hsg, k⟩ := h
    have h1 : SqL K H p xs := h1
    have el : xs.length = qs.length := by simpa using h2.len
    refine ⟨_, (pss_cons (ps_if (pt_cmpR (k_eq K hr) (pv 0) (pe_lst pa_nil) (nomark _)) (pss_one (ps_ret (pv 1))) pss_nil) (pss_cons (ps_set (i := 3) sc_law_end.nd rfl (Or.inl rfl) (pe_ix (k_ix K) (pv 0) pe_int (fun _ _ => rfl))) (pss_cons (ps_for PassesOwn.never rfl (k_piL K (pv 0)) (pg_name (i := 4) sc_law_end.nd rfl (Or.inl rfl)) (pss_one (ps_if ((pw_or ((pw_and (pt_cmpR op_gt (pv 2) pe_int (nomark _)) (pw_and1 (pt_val (pe_own O_law_under hG (hr.mono (by decide)) pass0 (pa_cons (pv 4) (pa_cons (pv 3) pa_nil))))))).pt (pw_or1 ((pw_and (pt_cmpR op_lt (pv 2) pe_int (nomark _)) (pw_and1 (pt_val (pe_own O_law_under hG (hr.mono (by decide)) pass0 (pa_cons (pv 3) (pa_cons (pv 4) pa_nil))))))).pt))).pt (pss_one (ps_set (i := 3) sc_law_end.nd rfl (Or.inl rfl) (pv 4))) pss_nil))) (pss_one (ps_ret (pv 3)))))), ?_⟩
    wtm_at "vq"
    rename_i pn H1 nn s1 hn
    refine i_eqD (.lst (b_L (by wtm_at "sm") h1) (h2.tm (by wtm_at "tm")).dp) (.lst (SqL.of (by wtm_at "lk")) .nil) (Sh.shaped (sh_parts qs) (by decide)) (Sh.shaped (n := 1) (.lst .nil) (by decide)) ?_
    rw [eqv_parts_nil]
    wtm_at "v"
    with_reducible refine ite_d (fun c => ?_) (fun c => ?_)
    · wtm_at "v"
      exact k _ _ _ (by wtm_at "sm") (.inl ⟨c, rfl⟩) (hv.tm (by wtm_at "tm"))
    · obtain ⟨q, qs, rfl⟩ : ∃ q r, qs = q :: r := by
        cases qs with
        | nil => exact absurd rfl c
        | cons q r => exact ⟨q, r, rfl⟩
      obtain ⟨z, xs, rfl⟩ : ∃ z r, xs = z :: r := by
        cases xs with
        | nil => simp at el
        | cons q r => exact ⟨q, r, rfl⟩
      obtain ⟨pz, q', rfl, hq', hz⟩ := h2.part (i := 0) rfl
      obtain rfl : q = q' := by simpa using hq'
      wtm_at "v"
      have h1' : SqL K H1 p (.ref pz :: xs) := b_L s1 h1
      have t1 := h2.tm (Tm.same s1)
      have z1 : PartAt K H1 pz q := hz.mono s1
      refine i_ixL h1' (v := .ref pz) (show atI (.ref pz :: xs) ((0 : Nat) : Int) = some (.ref pz) from atI_nat rfl) ?_
      wtm_at "v"
      refine i_itL h1' ?_
      have fst : (if sg = 1 then LoT else HiT) (q :: qs) 0 q := by
        split
        · exact ⟨List.mem_cons_self .., by simp⟩
        · exact ⟨List.mem_cons_self .., by simp⟩
      refine i_forL (xs := .ref pz :: xs) (fun i σ' H' => ∃ (pf : Addr) (m : Rat) (v5 : Option V), σ' = [some (.ref p), some v, some (.int sg), some (.ref pf), v5] ∧ PartAt K H' pf m ∧ (if sg = 1 then LoT else HiT) (q :: qs) i m ∧ Same H1 H') ⟨pz, q, none, rfl, z1, fst, Same.refl _⟩ ?_ ?_ ?_
      · rintro i σ' H' _ ⟨pf, m, v5, rfl, hf, lo, sm⟩
        exact b_L sm h1'
      · rintro i y σ' H4 hy ⟨pf, m, v5, rfl, hf, lo, sm⟩
        obtain ⟨pt, q2, rfl, hqi, hp⟩ := (t1.tm (Tm.same sm)).part hy
        have mm : m ∈ q :: qs := by
          rcases hsg with rfl | rfl
          · exact lo.1
          · exact lo.1
        have b1 : Bd 4000 m := (hb m mm).mono (by decide)
        have b2 : Bd 4000 q2 := (hb q2 (List.mem_of_getElem? hqi)).mono (by decide)
        rcases hsg with rfl | rfl
        · have lo : LoT (q :: qs) i m := lo
          wtm_at "v"
          with_reducible refine ite_d (fun c1 => ?_) (fun c1 => absurd c1 (by decide))
          wtm_at "v"
          with_reducible refine ite_d (fun c1 => ?_) (fun c1 => ?_)
          · wtm_at "v"
            exact ⟨_, _, _, rfl, by wtm_at "lkP", lo.yes hqi c1, by wtm_at "sm"⟩
          · wtm_at "v"
            with_reducible refine ite_d (fun c2 => absurd c2 (by decide)) (fun c2 => ?_)
            wtm_at "v"
            exact ⟨_, _, _, rfl, by wtm_at "lkP", lo.no hqi c1, by wtm_at "sm"⟩
        · have lo : HiT (q :: qs) i m := lo
          wtm_at "v"
          with_reducible refine ite_d (fun c1 => absurd c1 (by decide)) (fun c1 => ?_)
          wtm_at "v"
          with_reducible refine ite_d (fun c1 => ?_) (fun c1 => absurd c1 (by decide))
          wtm_at "v"
          with_reducible refine ite_d (fun c1 => ?_) (fun c1 => ?_)
          · wtm_at "v"
            exact ⟨_, _, _, rfl, by wtm_at "lkP", lo.yes hqi c1, by wtm_at "sm"⟩
          · wtm_at "v"
            exact ⟨_, _, _, rfl, by wtm_at "lkP", lo.no hqi c1, by wtm_at "sm"⟩
      · rintro σ' H4 ⟨pf, m, v5, rfl, hf, lo, sm⟩
        wtm_at "v"
        rw [show (V.ref pz :: xs).length = (q :: qs).length by simpa using el] at lo
        refine k _ _ _ (by wtm_at "sm") (.inr ⟨by simp, m, ?_, rfl⟩) hf.td
        rcases hsg with rfl | rfl
        · exact LoT.all lo
        · exact HiT.all lo
end
section
local macro_rules | `(tactic| wtm_at "lkP") => `(tactic| first
  | with_reducible assumption
  | exact PartK.pt (by with_reducible assumption)
  | exact PartAt.tm (by with_reducible assumption) (by wtm_at "tm") | fail)
/-! ### the steps as one word: wtm_at "v1" a step, wtm_at "v" as many as go -/
local macro_rules | `(tactic| wtm_at "tm") => `(tactic| first
  | exact Tm.refl _
  | exact Tm.same (by with_reducible assumption)
  | exact Tm.fx (by with_reducible assumption)
  | (refine Tm.trans ?_ (Tm.same (by with_reducible assumption)); wtm_at "tm")
  | (refine Tm.trans ?_ (Tm.fx (by with_reducible assumption)); wtm_at "tm") | fail)
local macro_rules | `(tactic| wtm_at "lkT1") => `(tactic| first
  | with_reducible assumption
  | exact TpK.tp (by with_reducible assumption)
  | exact TpH.tm (by with_reducible assumption) (by wtm_at "tm")
  | exact Tp.tm (by with_reducible assumption) (by wtm_at "tm")
  | exact Tp.of (by with_reducible assumption) | fail)
local macro_rules | `(tactic| wtm_at "lkT") => `(tactic| first
  | wtm_at "lkT1"
  | exact PartAt.tpe (by wtm_at "lkP") (by rfl)
  | fail)
local macro_rules | `(tactic| wtm_at "lk") => `(tactic| first
  | assumption
  | exact b_get (by assumption) (by wtm_at "lk")
  | exact b_lst (by assumption) (by wtm_at "ne") (by wtm_at "ne") (by wtm_at "lk") | fail)
local macro_rules | `(tactic| wtm_at "lkL") => `(tactic| first
  | assumption
  | exact SqL.of (by wtm_at "lk")
  | exact b_L (by assumption) (by wtm_at "lkL") | fail)
local macro_rules | `(tactic| wtm_at "intL") => `(tactic| first | exact IntL.nil | exact IntL.cons (by wtm_at "intL") | fail)
local macro_rules | `(tactic| wtm_at "lkS0") => `(tactic| first
  | with_reducible assumption
  | exact StoreAt.same (by with_reducible assumption) (by wtm_at "lkS0") | fail)
local macro_rules | `(tactic| wtm_at "lkS") => `(tactic| first
  | with_reducible assumption
  | exact StoreAt.from (by with_reducible assumption) (by wtm_at "sm") | fail)
local macro_rules | `(tactic| wtm_at "ne") => `(tactic| first
  | assumption
  | exact Ne.symm (by assumption)
  | exact st_ne1 (by with_reducible assumption) (by wtm_at "lkS0")
  | exact st_ne2 (by with_reducible assumption) (by wtm_at "lkS0")
  | exact new_ne (by assumption) (by wtm_at "lk")
  | exact new_ne' (by assumption) (by wtm_at "lk") | fail)
local macro_rules | `(tactic| wtm_at "sm") => `(tactic| first
  | with_reducible assumption
  | exact Same.refl _
  | (refine Same.trans ?_ (by with_reducible assumption); wtm_at "sm") | fail)
local macro_rules | `(tactic| wtm_at "fx") => `(tactic| first
  | with_reducible assumption
  | exact Fx.same (Same.refl _)
  | exact Fx.same (by with_reducible assumption)
  | (refine Fx.trans ?_ (by with_reducible assumption); wtm_at "fx")
  | (refine Fx.trans ?_ (Fx.same (by with_reducible assumption)); wtm_at "fx") | fail)
local macro_rules | `(tactic| wtm_at "v0") => `(tactic| first
  | with_reducible refine i_seq ?_ | with_reducible refine i_asg ?_ | with_reducible refine i_var rfl ?_ | with_reducible refine i_c ?_ | with_reducible refine i_name ?_
  | with_reducible refine i_op ?_ | with_reducible refine i_ifS ?_ | with_reducible refine i_test ?_ | with_reducible refine i_tB ?_
  | with_reducible refine i_cons ?_ | with_reducible refine i_nil ?_ | with_reducible refine i_call ?_ | with_reducible refine i_callN ?_ | with_reducible refine i_callX ?_ | with_reducible refine i_callNX ?_ | with_reducible refine i_cb ?_
  | with_reducible refine i_tup ?_ | with_reducible refine i_lst ?_ | with_reducible refine i_ret ?_ | with_reducible refine i_retN ?_ | with_reducible refine i_drop ?_
  | with_reducible refine i_next ?_ | with_reducible refine i_par ?_ | with_reducible refine i_par2 ?_ | with_reducible refine i_ifE ?_ | with_reducible refine i_un ?_
  | with_reducible refine i_and ?_ | with_reducible refine i_or ?_ | with_reducible refine i_not ?_ | with_reducible refine i_andV ?_ | with_reducible refine i_orV ?_ | with_reducible refine i_notV ?_
  | with_reducible refine i_notV2 ?_ | with_reducible refine i_bif (A := fun _ => _) ?_ | with_reducible refine i_brk ?_ | with_reducible refine i_ctn ?_
  | with_reducible refine i_abs ?_ | with_reducible refine i_min ?_ | with_reducible refine i_max ?_ | with_reducible refine i_for ?_ | with_reducible refine i_iR1 ?_ | with_reducible refine i_iR2 ?_ | with_reducible refine i_iL ?_ | with_reducible refine i_iT ?_ | with_reducible refine i_wb ?_
  | with_reducible refine i_sl ?_ | with_reducible refine i_no ?_ | with_reducible refine i_so ?_ | with_reducible refine i_exI ?_ | with_reducible refine i_exB ?_ | with_reducible refine i_gcons ?_ | with_reducible refine i_gnil ?_ | with_reducible refine i_bm ?_ | with_reducible refine i_gsub ?_ | with_reducible refine i_lc ?_ | with_reducible refine i_yes ?_ | with_reducible refine i_iE ?_
  | with_reducible refine ite_1 ?_ | with_reducible refine i_pow6 ?_ | with_reducible refine i_pow18 ?_ | with_reducible refine i_pow30 ?_
  | with_reducible refine i_addI ?_ | with_reducible refine i_I0 ?_ | with_reducible refine i_U ?_ | with_reducible refine i_eqI ?_ | with_reducible refine i_neI ?_ | fail)
local macro_rules | `(tactic| wtm_at "v1") => `(tactic| first
  | wtm_at "v0"
  | ((with_reducible show rIx _ _ _ _ _); first | refine i_ixT (by wtm_at "lkT") rfl ?_ | refine i_ixL (by wtm_at "lkL") rfl ?_)
  | ((with_reducible show rLenU _ _ _ _); first | refine i_lenT (by wtm_at "lkT") ?_ | refine i_lenL (by wtm_at "lkL") ?_)
  | ((with_reducible show spDraw _ _ _ _); refine c_draw (by wtm_at "lkS") (by first | decide | omega) (by first | decide | omega) (by omega) ?_; intro _ _ _ _ _ _)
  | (with_reducible refine i_newTH (by first | decide | (simp; done)) ?_; intro _ _ _ _ _)
  | (with_reducible refine i_newL (by first | decide | (simp; done)) ?_; intro _ _ _ _ _) | fail)
local macro_rules | `(tactic| wtm_at "v") => `(tactic| repeat wtm_at "v1")
local macro_rules | `(tactic| wtm_at "vi") => `(tactic| repeat ((fail_if_success (with_reducible show tIfS _ _ _ _ _ _)); wtm_at "v1"))
local macro_rules | `(tactic| wtm_at "v1") => `(tactic| first
  | ((with_reducible refine i_mulI ?hm ?_); (case hm => exact wide_mul (a := 128) (b := 128) (by omega) (by omega) (by decide) (by decide) (by decide)))
  | ((with_reducible refine i_mod ?hm ?_); (case hm => first | decide | omega); intro _ _ _ _) | fail)
/-! ### data shown and compared: found by themselves -/
local macro_rules | `(tactic| wtm_at "bd") => `(tactic| first | assumption | exact Bd.mono (by assumption) (by decide) | fail)
local macro_rules | `(tactic| wtm_at "bi") => `(tactic| first | exact natAbs_up (by assumption) (by decide) | exact natAbs_up (n := 64) (by decide) (by decide) | exact natAbs_up (n := 64) (by omega) (by decide) | fail)
local macro_rules | `(tactic| wtm_at "dpA") => `(tactic| first | exact DpAll.nil | exact DpAll.cons (by wtm_at "dp") (by wtm_at "dpA") | fail)
local macro_rules | `(tactic| wtm_at "dp") => `(tactic| first
  | exact Dp.int _ | exact Dp.bl _ | exact Dp.non | exact Dp.str _
  | exact dp_PA (by wtm_at "lkP")
  | exact Dp.tup (Tp.sq (by wtm_at "lkT")) (by wtm_at "dpA")
  | exact Dp.lst (by wtm_at "lkL") (by wtm_at "dpA") | fail)
local macro_rules | `(tactic| wtm_at "okA") => `(tactic| first | exact OkAll.nil' | exact OkAll.cons' (by wtm_at "ok") (by wtm_at "okA") | fail)
local macro_rules | `(tactic| wtm_at "ok") => `(tactic| first
  | ((with_reducible show Ok _ _ (dP _)); exact ok_P (by wtm_at "bd"))
  | exact Ok.int (by wtm_at "bi") | exact Ok.bool _ | exact Ok.none
  | ((with_reducible show Ok _ _ (.list _)); exact Ok.lst' (by wtm_at "okA")) | ((with_reducible show Ok _ _ (.tuple _)); exact Ok.tup' (by wtm_at "okA")) | fail)
local macro_rules | `(tactic| wtm_at "shA") => `(tactic| first | exact ShAll.nil | (refine ShAll.cons ?ha ?hb; (case ha => wtm_at "sh"); (case hb => wtm_at "shA")) | exact ShAll.ints _ | fail)
local macro_rules | `(tactic| wtm_at "sh") => `(tactic| first
  | ((with_reducible show Sh _ (dP _)); exact sh_P _)
  | exact Sh.int _ | exact Sh.bool _ | exact Sh.none | (refine Sh.lst ?_; wtm_at "shA") | (refine Sh.tup ?_; wtm_at "shA") | fail)
local macro_rules | `(tactic| wtm_at "v0") => `(tactic| first
  | ((with_reducible refine i_lens ?ha ?hb ?_); (case ha => rfl); (case hb => rfl))
  | with_reducible refine ite_0 ?_ | with_reducible refine ite_n0 ?_ | with_reducible refine ite_n1 ?_
  | ((with_reducible show rEqU _ (.ref _) (.ref _) _ _); refine i_eqP (by wtm_at "lkP") (by wtm_at "lkP") ?_)
  | ((with_reducible show rNeU _ (.ref _) (.ref _) _ _); refine i_neP (by wtm_at "lkP") (by wtm_at "lkP") ?_)
  | ((with_reducible show rEqU _ (.ref _) (.ref _) _ _); refine i_eqD (by wtm_at "dp") (by wtm_at "dp") (Sh.shaped (n := 9) (by wtm_at "sh") (by decide)) (Sh.shaped (n := 9) (by wtm_at "sh") (by decide)) ?_)
  | ((with_reducible show rNeU _ (.ref _) (.ref _) _ _); refine i_neD (by wtm_at "dp") (by wtm_at "dp") (Sh.shaped (n := 9) (by wtm_at "sh") (by decide)) (Sh.shaped (n := 9) (by wtm_at "sh") (by decide)) ?_)
  | ((with_reducible show rReprD _ _ _ _); refine i_repr (by wtm_at "dp") (by wtm_at "ok") (Nat.le_of_ble_eq_true rfl) (Nat.le_of_ble_eq_true rfl) ?_) | fail)
/-! calls of the reckoning; what is alike is alike -/
local macro_rules | `(tactic| wtm_at "v0") => `(tactic| first
  | ((with_reducible show spPP _ CT _ _ _ _ _); refine c_PP (by wtm_at "lkP") (by wtm_at "lkP") (by wtm_at "bd") (by wtm_at "bd") True.intro ?_; intro _ _ _ _)
  | ((with_reducible show spLess _ _ _ _ _); refine c_less (by wtm_at "lkP") (by wtm_at "lkP") (by wtm_at "bd") (by wtm_at "bd") ?_)
  | with_reducible refine ite_n (fun c => absurd rfl c) (fun _ => ?_)
  | ((with_reducible show rNeU _ (.bl _) (.bl _) _ _); refine i_neB rfl ?_)
  | ((with_reducible show rEqU _ (.bl _) (.bl _) _ _); refine i_eqB rfl ?_)
  | ((with_reducible show rNeU _ (.str _) (.str _) _ _); refine i_neS rfl ?_)
  | ((with_reducible show rEqU _ (.str _) (.str _) _ _); refine i_eqS rfl ?_) | fail)
/-! deep data -/
local macro_rules | `(tactic| wtm_at "td") => `(tactic| first
  | with_reducible assumption
  | exact TD.tm (by with_reducible assumption) (by wtm_at "tm")
  | exact PartAt.td (by wtm_at "lkP") | fail)
local macro_rules | `(tactic| wtm_at "tl") => `(tactic| first
  | with_reducible assumption
  | exact TL.tm (by with_reducible assumption) (by wtm_at "tm") | fail)
/-! pairs that are written -/
local macro_rules | `(tactic| wtm_at "lkP") => `(tactic| first
  | exact part01 (by wtm_at "lkT1")
  | exact part11 (by wtm_at "lkT1")
  | exact partI (by wtm_at "lkT1")
  | exact partLit (by wtm_at "lkT1") (by decide) (by decide) | fail)
local macro_rules | `(tactic| wtm_at "vq") => `(tactic| repeat ((fail_if_success (with_reducible show rEqU _ (.ref _) (.ref _) _ _)); (fail_if_success (with_reducible show rNeU _ (.ref _) (.ref _) _ _)); wtm_at "v1"))
variable {P : Program} {w : World} {K : PySem.W.Frag} {mg : Str → Option Value} {base : Heap}
abbrev s_law_row : Stmt := topS 24
theorem sc_law_row : FnScope ["store", "hair", "size", "found", "k", "one"] ["store"] (defScope s_law_row) := ⟨rfl, rfl, rfl, by decide +kernel, rfl, by decide +kernel, by decide +kernel⟩
theorem ok_law_row {f : Addr} {fd : FuncData} (F : FunD K "_law_row" "_law_row" (defArgs s_law_row) (defBody s_law_row) (defScope s_law_row) [] [] f fd) (O_law_draw : Own P w K mg base CX0 2 "_law_draw" ["store", "many"] [] spDraw) (O_law_small : Own P w K mg base CX0 3 "_law_small" ["store"] [] (spSmallD K))
    (O_plus : Own P w K mg base CX0 3 "plus" ["one", "other"] [] (spPP K CT (· + ·))) (O_times : Own P w K mg base CX0 3 "times" ["one", "other"] [] (spPP K CT (· * ·))) (n_range : mg "range" = none) (n_len : mg "len" = none) : FnG P w K mg base CX0 4 f fd ["store"] (spRow K) := by
  refine okG (k := 3) F sc_law_row (fun vs H Q E h => ?_) (fun cdv A hG outer s H vs Q E hr h => ?_)
  · obtain ⟨a, b, c, rfl, _⟩ := h
    rfl
  · obtain ⟨st, gl, n, rfl, S, hn, k⟩ := h
    have c1 : Bd 20 (Rat.divInt 1 997) := bd_divInt (by decide) (by decide) (by decide)
    have c2 : Bd 20 (Rat.divInt 1 1000) := bd_divInt (by decide) (by decide) (by decide)
    have c3 : Bd 20 (Rat.divInt 1 991) := bd_divInt (by decide) (by decide) (by decide)
    have c4 : Bd 40 (Rat.divInt 1 997 * Rat.divInt 1 1000) := bd_mul c1 c2
    have c6 : Bd 40 (Rat.divInt 1 991 * Rat.divInt 1 1000) := bd_mul c3 c2
    have c5 : Dv 988027000000 1 (Rat.divInt 1 997 * Rat.divInt 1 1000 * (Rat.divInt 1 991 * Rat.divInt 1 1000)) := by
      have a1 := divInt_dv (a := 1) (b := 997) (B := 1) (by decide) (by decide) (by decide)
      have a2 := divInt_dv (a := 1) (b := 1000) (B := 1) (by decide) (by decide) (by decide)
      have a3 := divInt_dv (a := 1) (b := 991) (B := 1) (by decide) (by decide) (by decide)
      exact (a1.mul a2).mul (a3.mul a2)
    have bh : Bd 60 (Rat.divInt 1 997 * Rat.divInt 1 1000 * (Rat.divInt 1 991 * Rat.divInt 1 1000)) := c5.bd (by decide) (by decide) (by decide)
    refine ⟨_, (pss_cons (ps_set (i := 1) sc_law_row.nd rfl (Or.inl rfl) (pe_own O_times hG (hr.mono (by decide)) pass0 (pa_cons (pe_own O_times hG (hr.mono (by decide)) pass0 (pa_cons (pe_tup (pa_cons pe_int (pa_cons pe_int pa_nil))) (pa_cons (pe_tup (pa_cons pe_int (pa_cons pe_int pa_nil))) pa_nil))) (pa_cons (pe_own O_times hG (hr.mono (by decide)) pass0 (pa_cons (pe_tup (pa_cons pe_int (pa_cons pe_int pa_nil))) (pa_cons (pe_tup (pa_cons pe_int (pa_cons pe_int pa_nil))) pa_nil))) pa_nil)))) (pss_cons (ps_set (i := 2) sc_law_row.nd rfl (Or.inl rfl) (pe_ix (k_ix K) (pe_lst (pa_cons pe_int (pa_cons pe_int (pa_cons pe_int (pa_cons pe_int (pa_cons pe_int pa_nil)))))) (pe_own O_law_draw hG (hr.mono (by decide)) pass0 (pa_cons (pv 0) (pa_cons pe_int pa_nil))) (fun _ _ => rfl))) (pss_cons (ps_set (i := 3) sc_law_row.nd rfl (Or.inl rfl) (pe_lst pa_nil)) (pss_cons (ps_for PassesOwn.never rfl (pi_range1 (by rfl) n_range (pa_cons (pe_own O_law_draw hG (hr.mono (by decide)) pass0 (pa_cons (pv 0) (pa_cons (pe_op (k_add K) (pv 2) pe_int) pa_nil))) pa_nil)) (pg_name (i := 4) sc_law_row.nd rfl (Or.inl rfl)) (pss_cons (ps_set (i := 5) sc_law_row.nd rfl (Or.inl rfl) (pe_own O_law_small hG (hr.mono (by decide)) pass0 (pa_cons (pv 0) pa_nil))) (pss_cons (ps_if ((pw_and (pt_cmpR (k_ne K hr) (pv 3) (pe_lst pa_nil) (nomark _)) (pw_and1 (pt_cmpR (k_eq K hr) (pe_own O_law_draw hG (hr.mono (by decide)) pass0 (pa_cons (pv 0) (pa_cons pe_int pa_nil))) pe_int (nomark _))))).pt (pss_one (ps_set (i := 5) sc_law_row.nd rfl (Or.inl rfl) (pe_ix (k_ix K) (pv 3) (pe_own O_law_draw hG (hr.mono (by decide)) pass0 (pa_cons (pv 0) (pa_cons (pe_callB (k_len K) (by rfl) n_len bt_len (pa_cons (pv 3) pa_nil)) pa_nil))) (fun _ _ => rfl)))) pss_nil) (pss_cons (ps_if (pt_cmpR (k_eq K hr) (pe_own O_law_draw hG (hr.mono (by decide)) pass0 (pa_cons (pv 0) (pa_cons pe_int pa_nil))) pe_int (nomark _)) (pss_one (ps_set (i := 5) sc_law_row.nd rfl (Or.inl rfl) (pe_own O_plus hG (hr.mono (by decide)) pass0 (pa_cons (pv 5) (pa_cons (pe_own O_times hG (hr.mono (by decide)) pass0 (pa_cons (pv 1) (pa_cons (pe_tup (pa_cons (pe_op op_sub (pe_own O_law_draw hG (hr.mono (by decide)) pass0 (pa_cons (pv 0) (pa_cons pe_int pa_nil))) pe_int) (pa_cons pe_int pa_nil))) pa_nil))) pa_nil))))) pss_nil) (pss_one (ps_expr (pe_bm PySem.F.plainAttrs_list PySem.F.slot_list_append PySem.F.type_list_append (mt_append) (pv 3) (pa_cons (pv 5) pa_nil)))))))) (pss_one (ps_ret (pv 3))))))), ?_⟩
    wtm_at "v"
    rename_i ph Hh sh hh pl Hl nl sl hl dz Hz z0 z1 Sz Fz
    refine i_ixM (SqL.of (by wtm_at "lk")) (by wtm_at "intL") (by omega) (by simp; omega) (fun size hsz => ?_)
    have hsize : 0 ≤ size ∧ size ≤ 40 := by
      simp only [List.mem_cons, List.not_mem_nil, or_false] at hsz
      omega
    generalize Rat.divInt 1 997 * Rat.divInt 1 1000 * (Rat.divInt 1 991 * Rat.divInt 1 1000) = hair at *
    wtm_at "v"
    rename_i pf H12 npf sf hf12 cn H14 cn0 cn1 S14 F14
    have n1 : pf ≠ st := by wtm_at "ne"
    have n2 : pf ≠ gl := by wtm_at "ne"
    have hf14 : H14 pf = some (.lst []) := by wtm_at "lk"
    have nH : New H pf := new_back (by wtm_at "fx") npf n1 n2
    have F014 : True ∧ Fx st gl H H14 := ⟨trivial, by wtm_at "fx"⟩
    have hh14 : PartAt K H14 ph hair := by wtm_at "lkP"
    refine i_rng1 (by omega) (by omega) ?_
    refine i_forR (fun i σ' H' => ∃ (v4 v5 : Option V) (xs : List V) (qs : List Rat) (D : Nat), σ' = [some (.ref st), some (.ref ph), some (.int size), some (.ref pf), v4, v5] ∧ H' pf = some (.lst xs) ∧ TL K H' xs (qs.map dP) ∧ qs.length = i ∧ 0 < D ∧ D < 2 ^ (40 + 10 * i) ∧ 988027000000 ∣ D ∧ (∀ q ∈ qs, Dv D (2 ^ 22 + 5 * i) q) ∧ PartAt K H' ph hair ∧ StoreAt H' st gl (n + 600 + 2000 * i) ∧ Fx st gl H H') ⟨none, none, [], [], 988027000000, rfl, hf14, TL.nil, rfl, by decide, by decide, Nat.dvd_refl _, by simp, hh14, S14.mono (by omega), F014.2⟩ ?_ ?_
    · rintro i σ' H15 hi ⟨v4, v5, xs, qs, D, rfl, hf, tl, hql, D0', D1', Dd, hqD, hh, S15, F15⟩
      have hi2 : i ≤ 40 := by omega
      have lx : xs.length = i := by rw [tl.len, List.length_map, hql]
      wtm_at "v"
      refine c_smallD S15 (by omega) (fun x p H16 bx dx hx S16 F16 => ?_)
      have hf16 : H16 pf = some (.lst xs) := b_lst F16 n1 n2 hf
      have tl16 : TL K H16 xs (qs.map dP) := tl.tm (Tm.fx F16)
      have hh16 : PartAt K H16 ph hair := hh.tm (Tm.fx F16)
      wtm_at "vi"
      have dvx : Dv (D * x.den) (2 ^ 22 + 5 * i) x := bx.dv.up (Nat.dvd_mul_left ..) (by omega)
      refine i_cut (fun σ' H' => ∃ (po : Addr) (q : Rat), σ' = [some (.ref st), some (.ref ph), some (.int size), some (.ref pf), some (.int (0 + i)), some (.ref po)] ∧ PartAt K H' po q ∧ Dv (D * x.den) (2 ^ 22 + 5 * i) q ∧ StoreAt H' st gl (n + 600 + 2000 * i + 1000) ∧ Fx st gl H16 H') ?_ ?_
      · intro N hN
        wtm_at "vq"
        refine i_neD (.lst (SqL.of (by wtm_at "lk")) (tl16.tm (by wtm_at "tm")).dp) (.lst (SqL.of (by wtm_at "lk")) .nil) (Sh.shaped (sh_parts qs) (by decide)) (Sh.shaped (n := 1) (.lst .nil) (by decide)) ?_
        rw [eqv_parts_nil]
        wtm_at "v"
        with_reducible refine ite_n (fun d5 => ?_) (fun d5 => ?_)
        · have q0 : 0 < qs.length := List.length_pos_iff.mpr d5
          wtm_at "v"
          with_reducible refine ite_d (fun c6 => ?_) (fun c6 => ?_)
          · wtm_at "v"
            refine i_ixV (SqL.of (by wtm_at "lk")) (by omega) (by omega) (fun j y hy => ?_)
            obtain ⟨py, q, rfl, hqi, hp⟩ := tl16.part hy
            wtm_at "v"
            exact hN _ _ ⟨py, q, rfl, by wtm_at "lkP", (hqD q (List.mem_of_getElem? hqi)).up (Nat.dvd_mul_right ..) (Nat.le_refl _), StoreAt.mono (by wtm_at "lkS") (by omega), by wtm_at "fx"⟩
          · wtm_at "v"
            exact hN _ _ ⟨p, x, rfl, by wtm_at "lkP", dvx, StoreAt.mono (by wtm_at "lkS") (by omega), by wtm_at "fx"⟩
        · wtm_at "v"
          exact hN _ _ ⟨p, x, rfl, by wtm_at "lkP", dvx, StoreAt.mono (by wtm_at "lkS") (by omega), by wtm_at "fx"⟩
      rintro σ' H17 ⟨po, q, rfl, hq, qD, S17, F17⟩
      have hf17 : H17 pf = some (.lst xs) := b_lst F17 n1 n2 hf16
      have tl17 : TL K H17 xs (qs.map dP) := tl16.tm (Tm.fx F17)
      have hh17 : PartAt K H17 ph hair := hh16.tm (Tm.fx F17)
      have F16' : True ∧ Fx st gl H H17 := ⟨trivial, (F15.trans F16).trans F17⟩
      clear F16 F17 F15 hf16 tl16 hh16 hf tl hh
      have Dx0 : 0 < D * x.den := Nat.mul_pos D0' x.den_pos
      have Dx1 : D * x.den < 2 ^ (40 + 10 * (i + 1)) := pow_stepR D1' (by omega)
      have bq : Bd 900 q := qD.bd Dx0 (Nat.lt_of_lt_of_le Dx1 (Nat.pow_le_pow_right (by decide) (by omega))) (by
        have h1 := Nat.mul_lt_mul'' (show 2 ^ 22 + 5 * i < 2 ^ 23 by omega) Dx1
        rw [← Nat.pow_add] at h1
        exact Nat.lt_of_lt_of_le h1 (Nat.pow_le_pow_right (by decide) (by omega)))
      wtm_at "vi"
      refine i_cut (fun σ' H' => ∃ (po : Addr) (q : Rat), σ' = [some (.ref st), some (.ref ph), some (.int size), some (.ref pf), some (.int (0 + i)), some (.ref po)] ∧ PartAt K H' po q ∧ Dv (D * x.den) (2 ^ 22 + 5 * (i + 1)) q ∧ StoreAt H' st gl (n + 600 + 2000 * i + 1500) ∧ Fx st gl H17 H') ?_ ?_
      · intro N hN
        wtm_at "v"
        with_reducible refine ite_d (fun d5 => ?_) (fun d5 => ?_)
        · wtm_at "v"
          rename_i d H25 d0 d1 S25 F25 pp H26 n26 s26 t26
          have bi : Bd 10 ((d - 4 : Int) : Rat) := ⟨by show (d - 4).natAbs < 2 ^ 10; omega, by show 1 < 2 ^ 10; decide⟩
          have b2 : Bd 200 (hair * ((d - 4 : Int) : Rat)) := (bd_mul bh bi).mono (by decide)
          wtm_at "v"
          refine hN _ _ ⟨_, _, rfl, by with_reducible assumption, ?_, StoreAt.mono (by wtm_at "lkS") (by omega), by wtm_at "fx"⟩
          have e1 : Dv (988027000000 * 1) (1 * 5) (hair * ((d - 4 : Int) : Rat)) := c5.mul (int_dv (by omega) (by omega))
          have e3 := qD.add (e1.up (by rw [Nat.mul_one]; exact Nat.dvd_trans Dd (Nat.dvd_mul_right ..)) (Nat.le_refl _))
          exact e3.up (Nat.dvd_refl _) (by omega)
        · wtm_at "v"
          exact hN _ _ ⟨po, q, rfl, by wtm_at "lkP", qD.up (Nat.dvd_refl _) (by omega), StoreAt.mono (by wtm_at "lkS") (by omega), by wtm_at "fx"⟩
      rintro σ' H23 ⟨po, q, rfl, hq, qD, S23, F23⟩
      have hf23 : H23 pf = some (.lst xs) := b_lst F23 n1 n2 hf17
      have tlr := tl17.refs
      wtm_at "v"
      refine i_bmL hf23 ?_
      wtm_at "v"
      refine i_append hf23 (by omega) (fun H24 f24 h24 => ?_)
      wtm_at "v"
      refine ⟨_, _, xs ++ [.ref po], qs ++ [q], D * x.den, rfl, h24, ?_, by simp [hql], Dx0, Dx1, Nat.dvd_trans Dd (Nat.dvd_mul_right ..), ?_, by wtm_at "lkP", StoreAt.mono (StoreAt.fx1 S23 hf23 tlr n1 n2 f24) (by omega), fx_new1 nH (F16'.2.trans F23) f24⟩
      · rw [List.map_append]
        exact TL.snoc (tl17.tm (by wtm_at "tm")) (by wtm_at "td")
      · intro q2 hq2
        rcases List.mem_append.mp hq2 with h | h
        · exact (hqD q2 h).up (Nat.dvd_mul_right ..) (by omega)
        · obtain rfl := List.mem_singleton.mp h
          exact qD
    · rintro σ' H24 ⟨v4, v5, xs, qs, D, rfl, hf, tl, hql, D0', D1', Dd, hqD, hh, S15, F15⟩
      wtm_at "v"
      exact k pf xs qs D H24 nH n1 n2 hf tl (by omega) D0' (Nat.lt_of_lt_of_le D1' (Nat.pow_le_pow_right (by decide) (by omega))) (fun q h => (hqD q h).up (Nat.dvd_refl _) (by omega)) (S15.mono (by omega)) F15
theorem map_erase {α β : Type} (g : α → β) : ∀ (l : List α) (j : Nat), (l.eraseIdx j).map g = (l.map g).eraseIdx j
  | [], _ => by simp
  | a :: l, 0 => by simp
  | a :: l, j + 1 => by simp [map_erase g l j]
abbrev s_law_turned : Stmt := topS 25
theorem sc_law_turned : FnScope ["store", "row", "batch", "one"] ["store", "row"] (defScope s_law_turned) := ⟨rfl, rfl, rfl, by decide +kernel, rfl, by decide +kernel, by decide +kernel⟩
theorem ok_law_turned {f : Addr} {fd : FuncData} (F : FunD K "_law_turned" "_law_turned" (defArgs s_law_turned) (defBody s_law_turned) (defScope s_law_turned) [] [] f fd) (O_law_draw : Own P w K mg base CX0 2 "_law_draw" ["store", "many"] [] spDraw) (n_list : mg "list" = none) (n_len : mg "len" = none) : FnG P w K mg base CX0 3 f fd ["store", "row"] (spTurned K) := by
  refine okG (k := 2) F sc_law_turned (fun vs H Q E h => ?_) (fun cdv A hG outer s H vs Q E hr h => ?_)
  · obtain ⟨a, b, c, d, e, g, rfl, _⟩ := h
    rfl
  · obtain ⟨st, gl, p, n, xs, qs, rfl, S, hn, n1, n2, hp, tl, hl, k⟩ := h
    have lx : xs.length = qs.length := by simpa using tl.len
    refine ⟨_, (pss_cons (ps_set (i := 2) sc_law_turned.nd rfl (Or.inr rfl) (pe_callTy (k_lstC K) (by rfl) n_list bt_list (pa_cons (pv 1) pa_nil))) (pss_one (ps_ret (pe_lc (own := [("one", 3)]) rfl sc_law_turned.nd (k_piL K (pv 1)) (blkOk_by (N := ["store", "row", "batch", "one"]) (sc := defScope s_law_turned) (by decide +kernel)) (fun _ _ _ _ _ => (pg_name (i := 3) sc_law_turned.nd rfl (Or.inl rfl))) (fun _ _ _ _ _ => pts_nil) (fun _ _ _ _ _ => (k_bm K PySem.F.plainAttrs_list PySem.F.slot_list_pop PySem.F.type_list_pop (mt_popAt) (pv 2) (pa_cons (pe_own O_law_draw hG (hr.mono (by decide)) pass0 (pa_cons (pv 0) (pa_cons (pe_callB (k_len K) (by rfl) n_len bt_len (pa_cons (pv 2) pa_nil)) pa_nil))) pa_nil))))))), ?_⟩
    wtm_at "v"
    refine i_lstC (.inl (SqL.of hp)) (fun pb H1 nb s1 hb => ?_)
    have m1 : pb ≠ st := st_ne1 nb S
    have m2 : pb ≠ gl := st_ne2 nb S
    have S1 := S.same s1
    have hp1 := s1 _ _ hp
    have tl1 := tl.tm (Tm.same s1)
    have np : pb ≠ p := new_ne nb hp
    wtm_at "v"
    refine i_itL (SqL.of hp1) ?_
    refine i_lcG (xs := xs) (fun A i H' => ∃ (ys : List V) (yq : List Rat) (bs : List V) (bq : List Rat), H' A = some (.lst ys) ∧ TL K H' ys (yq.map dP) ∧ H' pb = some (.lst bs) ∧ TL K H' bs (bq.map dP) ∧ (yq ++ bq).Perm qs ∧ yq.length = i ∧ StoreAt H' st gl (n + 100 * i) ∧ Fx st gl H H') (fun A nA => ?_) (fun A i H' nA ⟨ys, yq, bs, bq, a1, a2, a3, a4, a5, a6, a7, a8⟩ => ?_) (fun A i y H' nA hy hi ⟨ys, yq, bs, bq, a1, a2, a3, a4, a5, a6, a7, a8⟩ => ?_) (fun A H' nA ⟨ys, yq, bs, bq, a1, a2, a3, a4, a5, a6, a7, a8⟩ => ?_)
    · have sA := same_new (o := .lst []) nA
      exact ⟨[], [], xs, qs, upd_same, TL.nil, sA _ _ hb, tl1.tm (Tm.same sA), List.Perm.refl _, rfl, StoreAt.mono (S1.same sA) (by omega), Fx.same (s1.trans sA)⟩
    · exact SqL.of (a8.oth _ _ hp n1 n2)
    · have z1 : A ≠ st := st_ne1 nA S1
      have z2 : A ≠ gl := st_ne2 nA S1
      have z3 : A ≠ pb := new_ne nA hb
      have nAH : New H A := s1.free nA
      have lb : bs.length = bq.length := by simpa using a4.len
      have ly : ys.length = yq.length := by simpa using a2.len
      have lq : yq.length + bq.length = qs.length := by simpa using a5.length_eq
      wtm_at "v"
      refine ⟨rfl, ?_⟩
      wtm_at "v"
      refine i_bmL (by wtm_at "lk") ?_
      wtm_at "v"
      rename_i d H5 d0 d1 S5 F5
      have b5 : H5 pb = some (.lst bs) := b_lst F5 m1 m2 a3
      refine i_popAt b5 d0 (by omega) (by omega) (fun j y H6 ej hy6 f6 h6 => ?_)
      obtain ⟨py, q, rfl, hqi, hpy⟩ := (a4.tm (Tm.fx F5)).part hy6
      have hA5 : H5 A = some (.lst ys) := b_lst F5 z1 z2 a1
      have hA6 : H6 A = some (.lst ys) := f6.oth _ _ hA5 z3 z3
      refine ⟨ys, hA6, Nat.lt_of_le_of_lt (show ys.length ≤ 100000 by omega) (by decide), ?_⟩
      have f7 : Fx A A H6 (upd H6 A (.lst (ys ++ [.ref py]))) := fx_upd hA6
      have h7 : (upd H6 A (.lst (ys ++ [.ref py]))) A = some (.lst (ys ++ [.ref py])) := upd_same
      generalize upd H6 A (.lst (ys ++ [.ref py])) = H7 at *
      have tA6 : TL K H6 ys (yq.map dP) := a2.tm ((Tm.fx F5).trans (Tm.fx f6))
      have tB5 : TL K H5 bs (bq.map dP) := a4.tm (Tm.fx F5)
      have S6 := StoreAt.fx1 S5 b5 tB5.refs m1 m2 f6
      have S7 := StoreAt.fx1 S6 hA6 tA6.refs z1 z2 f7
      have e1 : Tm H5 H7 := (Tm.fx f6).trans (Tm.fx f7)
      have hj : j < bq.length := (List.getElem?_eq_some_iff.mp hqi).1
      refine ⟨ys ++ [.ref py], yq ++ [q], bs.eraseIdx j, bq.eraseIdx j, h7, ?_, f7.oth _ _ h6 (Ne.symm z3) (Ne.symm z3), ?_, ?_, by simp [a6], S7.mono (by omega), fx_new1 nAH (fx_new1 nb (a8.trans F5) f6) f7⟩
      · rw [List.map_append]
        exact TL.snoc (tA6.tm (Tm.fx f7)) (hpy.td.tm e1)
      · rw [map_erase]
        exact (tB5.tm e1).erase j
      · refine List.Perm.trans ?_ a5
        rw [List.append_assoc]
        refine List.Perm.append_left _ ?_
        have e3 : q = bq[j] := by
          have := List.getElem?_eq_getElem hj
          rw [hqi] at this
          exact Option.some.inj this
        rw [e3]
        exact erase_perm hj
    · have z1 : A ≠ st := st_ne1 nA S1
      have z2 : A ≠ gl := st_ne2 nA S1
      have lq : yq.length + bq.length = qs.length := by simpa using a5.length_eq
      have e0 : bq = [] := List.eq_nil_of_length_eq_zero (by omega)
      subst e0
      rw [List.append_nil] at a5
      exact k A ys yq H' (s1.free nA) z1 z2 a1 a2 a5 (a7.mono (by omega)) a8
end
section
local macro_rules | `(tactic| wtm_at "lkP") => `(tactic| first
  | with_reducible assumption
  | exact PartK.pt (by with_reducible assumption)
  | exact PartAt.tm (by with_reducible assumption) (by wtm_at "tm") | fail)
/-! ### the steps as one word: wtm_at "v1" a step, wtm_at "v" as many as go -/
local macro_rules | `(tactic| wtm_at "tm") => `(tactic| first
  | exact Tm.refl _
  | exact Tm.same (by with_reducible assumption)
  | exact Tm.fx (by with_reducible assumption)
  | (refine Tm.trans ?_ (Tm.same (by with_reducible assumption)); wtm_at "tm")
  | (refine Tm.trans ?_ (Tm.fx (by with_reducible assumption)); wtm_at "tm") | fail)
local macro_rules | `(tactic| wtm_at "lkT1") => `(tactic| first
  | with_reducible assumption
  | exact TpK.tp (by with_reducible assumption)
  | exact TpH.tm (by with_reducible assumption) (by wtm_at "tm")
  | exact Tp.tm (by with_reducible assumption) (by wtm_at "tm")
  | exact Tp.of (by with_reducible assumption) | fail)
local macro_rules | `(tactic| wtm_at "lkT") => `(tactic| first
  | wtm_at "lkT1"
  | exact PartAt.tpe (by wtm_at "lkP") (by rfl)
  | fail)
local macro_rules | `(tactic| wtm_at "lk") => `(tactic| first
  | assumption
  | exact b_get (by assumption) (by wtm_at "lk")
  | exact b_lst (by assumption) (by wtm_at "ne") (by wtm_at "ne") (by wtm_at "lk") | fail)
local macro_rules | `(tactic| wtm_at "lkL") => `(tactic| first
  | assumption
  | exact SqL.of (by wtm_at "lk")
  | exact b_L (by assumption) (by wtm_at "lkL") | fail)
local macro_rules | `(tactic| wtm_at "intL") => `(tactic| first | exact IntL.nil | exact IntL.cons (by wtm_at "intL") | fail)
local macro_rules | `(tactic| wtm_at "lkS0") => `(tactic| first
  | with_reducible assumption
  | exact StoreAt.same (by with_reducible assumption) (by wtm_at "lkS0") | fail)
local macro_rules | `(tactic| wtm_at "lkS") => `(tactic| first
  | with_reducible assumption
  | exact StoreAt.from (by with_reducible assumption) (by wtm_at "sm") | fail)
local macro_rules | `(tactic| wtm_at "ne") => `(tactic| first
  | assumption
  | exact Ne.symm (by assumption)
  | exact st_ne1 (by with_reducible assumption) (by wtm_at "lkS0")
  | exact st_ne2 (by with_reducible assumption) (by wtm_at "lkS0")
  | exact new_ne (by assumption) (by wtm_at "lk")
  | exact new_ne' (by assumption) (by wtm_at "lk") | fail)
local macro_rules | `(tactic| wtm_at "sm") => `(tactic| first
  | with_reducible assumption
  | exact Same.refl _
  | (refine Same.trans ?_ (by with_reducible assumption); wtm_at "sm") | fail)
local macro_rules | `(tactic| wtm_at "fx") => `(tactic| first
  | with_reducible assumption
  | exact Fx.same (Same.refl _)
  | exact Fx.same (by with_reducible assumption)
  | (refine Fx.trans ?_ (by with_reducible assumption); wtm_at "fx")
  | (refine Fx.trans ?_ (Fx.same (by with_reducible assumption)); wtm_at "fx") | fail)
local macro_rules | `(tactic| wtm_at "v0") => `(tactic| first
  | with_reducible refine i_seq ?_ | with_reducible refine i_asg ?_ | with_reducible refine i_var rfl ?_ | with_reducible refine i_c ?_ | with_reducible refine i_name ?_
  | with_reducible refine i_op ?_ | with_reducible refine i_ifS ?_ | with_reducible refine i_test ?_ | with_reducible refine i_tB ?_
  | with_reducible refine i_cons ?_ | with_reducible refine i_nil ?_ | with_reducible refine i_call ?_ | with_reducible refine i_callN ?_ | with_reducible refine i_callX ?_ | with_reducible refine i_callNX ?_ | with_reducible refine i_cb ?_
  | with_reducible refine i_tup ?_ | with_reducible refine i_lst ?_ | with_reducible refine i_ret ?_ | with_reducible refine i_retN ?_ | with_reducible refine i_drop ?_
  | with_reducible refine i_next ?_ | with_reducible refine i_par ?_ | with_reducible refine i_par2 ?_ | with_reducible refine i_ifE ?_ | with_reducible refine i_un ?_
  | with_reducible refine i_and ?_ | with_reducible refine i_or ?_ | with_reducible refine i_not ?_ | with_reducible refine i_andV ?_ | with_reducible refine i_orV ?_ | with_reducible refine i_notV ?_
  | with_reducible refine i_notV2 ?_ | with_reducible refine i_bif (A := fun _ => _) ?_ | with_reducible refine i_brk ?_ | with_reducible refine i_ctn ?_
  | with_reducible refine i_abs ?_ | with_reducible refine i_min ?_ | with_reducible refine i_max ?_ | with_reducible refine i_for ?_ | with_reducible refine i_iR1 ?_ | with_reducible refine i_iR2 ?_ | with_reducible refine i_iL ?_ | with_reducible refine i_iT ?_ | with_reducible refine i_wb ?_
  | with_reducible refine i_sl ?_ | with_reducible refine i_no ?_ | with_reducible refine i_so ?_ | with_reducible refine i_exI ?_ | with_reducible refine i_exB ?_ | with_reducible refine i_gcons ?_ | with_reducible refine i_gnil ?_ | with_reducible refine i_bm ?_ | with_reducible refine i_gsub ?_ | with_reducible refine i_lc ?_ | with_reducible refine i_yes ?_ | with_reducible refine i_iE ?_
  | with_reducible refine ite_1 ?_ | with_reducible refine i_pow6 ?_ | with_reducible refine i_pow18 ?_ | with_reducible refine i_pow30 ?_
  | with_reducible refine i_addI ?_ | with_reducible refine i_I0 ?_ | with_reducible refine i_U ?_ | with_reducible refine i_eqI ?_ | with_reducible refine i_neI ?_ | fail)
local macro_rules | `(tactic| wtm_at "v1") => `(tactic| first
  | wtm_at "v0"
  | ((with_reducible show rIx _ _ _ _ _); first | refine i_ixT (by wtm_at "lkT") rfl ?_ | refine i_ixL (by wtm_at "lkL") rfl ?_)
  | ((with_reducible show rLenU _ _ _ _); first | refine i_lenT (by wtm_at "lkT") ?_ | refine i_lenL (by wtm_at "lkL") ?_)
  | ((with_reducible show spDraw _ _ _ _); refine c_draw (by wtm_at "lkS") (by first | decide | omega) (by first | decide | omega) (by omega) ?_; intro _ _ _ _ _ _)
  | (with_reducible refine i_newTH (by first | decide | (simp; done)) ?_; intro _ _ _ _ _)
  | (with_reducible refine i_newL (by first | decide | (simp; done)) ?_; intro _ _ _ _ _) | fail)
local macro_rules | `(tactic| wtm_at "v") => `(tactic| repeat wtm_at "v1")
local macro_rules | `(tactic| wtm_at "vi") => `(tactic| repeat ((fail_if_success (with_reducible show tIfS _ _ _ _ _ _)); wtm_at "v1"))
/-! ### data shown and compared: found by themselves -/
local macro_rules | `(tactic| wtm_at "bd") => `(tactic| first | assumption | exact Bd.mono (by assumption) (by decide) | fail)
local macro_rules | `(tactic| wtm_at "bi") => `(tactic| first | exact natAbs_up (by assumption) (by decide) | exact natAbs_up (n := 64) (by decide) (by decide) | exact natAbs_up (n := 64) (by omega) (by decide) | fail)
local macro_rules | `(tactic| wtm_at "dpA") => `(tactic| first | exact DpAll.nil | exact DpAll.cons (by wtm_at "dp") (by wtm_at "dpA") | fail)
local macro_rules | `(tactic| wtm_at "dp") => `(tactic| first
  | exact Dp.int _ | exact Dp.bl _ | exact Dp.non | exact Dp.str _
  | exact dp_PA (by wtm_at "lkP")
  | exact Dp.tup (Tp.sq (by wtm_at "lkT")) (by wtm_at "dpA")
  | exact Dp.lst (by wtm_at "lkL") (by wtm_at "dpA") | fail)
local macro_rules | `(tactic| wtm_at "okA") => `(tactic| first | exact OkAll.nil' | exact OkAll.cons' (by wtm_at "ok") (by wtm_at "okA") | fail)
local macro_rules | `(tactic| wtm_at "ok") => `(tactic| first
  | ((with_reducible show Ok _ _ (dP _)); exact ok_P (by wtm_at "bd"))
  | exact Ok.int (by wtm_at "bi") | exact Ok.bool _ | exact Ok.none
  | ((with_reducible show Ok _ _ (.list _)); exact Ok.lst' (by wtm_at "okA")) | ((with_reducible show Ok _ _ (.tuple _)); exact Ok.tup' (by wtm_at "okA")) | fail)
local macro_rules | `(tactic| wtm_at "shA") => `(tactic| first | exact ShAll.nil | (refine ShAll.cons ?ha ?hb; (case ha => wtm_at "sh"); (case hb => wtm_at "shA")) | exact ShAll.ints _ | fail)
local macro_rules | `(tactic| wtm_at "sh") => `(tactic| first
  | ((with_reducible show Sh _ (dP _)); exact sh_P _)
  | exact Sh.int _ | exact Sh.bool _ | exact Sh.none | (refine Sh.lst ?_; wtm_at "shA") | (refine Sh.tup ?_; wtm_at "shA") | fail)
local macro_rules | `(tactic| wtm_at "v0") => `(tactic| first
  | ((with_reducible refine i_lens ?ha ?hb ?_); (case ha => rfl); (case hb => rfl))
  | with_reducible refine ite_0 ?_ | with_reducible refine ite_n0 ?_ | with_reducible refine ite_n1 ?_
  | ((with_reducible show rEqU _ (.ref _) (.ref _) _ _); refine i_eqP (by wtm_at "lkP") (by wtm_at "lkP") ?_)
  | ((with_reducible show rNeU _ (.ref _) (.ref _) _ _); refine i_neP (by wtm_at "lkP") (by wtm_at "lkP") ?_)
  | ((with_reducible show rEqU _ (.ref _) (.ref _) _ _); refine i_eqD (by wtm_at "dp") (by wtm_at "dp") (Sh.shaped (n := 9) (by wtm_at "sh") (by decide)) (Sh.shaped (n := 9) (by wtm_at "sh") (by decide)) ?_)
  | ((with_reducible show rNeU _ (.ref _) (.ref _) _ _); refine i_neD (by wtm_at "dp") (by wtm_at "dp") (Sh.shaped (n := 9) (by wtm_at "sh") (by decide)) (Sh.shaped (n := 9) (by wtm_at "sh") (by decide)) ?_)
  | ((with_reducible show rReprD _ _ _ _); refine i_repr (by wtm_at "dp") (by wtm_at "ok") (Nat.le_of_ble_eq_true rfl) (Nat.le_of_ble_eq_true rfl) ?_) | fail)
/-! calls of the reckoning; what is alike is alike -/
local macro_rules | `(tactic| wtm_at "v0") => `(tactic| first
  | ((with_reducible show spPP _ CT _ _ _ _ _); refine c_PP (by wtm_at "lkP") (by wtm_at "lkP") (by wtm_at "bd") (by wtm_at "bd") True.intro ?_; intro _ _ _ _)
  | ((with_reducible show spLess _ _ _ _ _); refine c_less (by wtm_at "lkP") (by wtm_at "lkP") (by wtm_at "bd") (by wtm_at "bd") ?_)
  | with_reducible refine ite_n (fun c => absurd rfl c) (fun _ => ?_)
  | ((with_reducible show rNeU _ (.bl _) (.bl _) _ _); refine i_neB rfl ?_)
  | ((with_reducible show rEqU _ (.bl _) (.bl _) _ _); refine i_eqB rfl ?_)
  | ((with_reducible show rNeU _ (.str _) (.str _) _ _); refine i_neS rfl ?_)
  | ((with_reducible show rEqU _ (.str _) (.str _) _ _); refine i_eqS rfl ?_) | fail)
/-! deep data -/
local macro_rules | `(tactic| wtm_at "td") => `(tactic| first
  | with_reducible assumption
  | exact TD.tm (by with_reducible assumption) (by wtm_at "tm")
  | exact PartAt.td (by wtm_at "lkP") | fail)
local macro_rules | `(tactic| wtm_at "tl") => `(tactic| first
  | with_reducible assumption
  | exact TL.tm (by with_reducible assumption) (by wtm_at "tm") | fail)
/-! pairs that are written -/
local macro_rules | `(tactic| wtm_at "lkP") => `(tactic| first
  | exact part01 (by wtm_at "lkT1")
  | exact part11 (by wtm_at "lkT1")
  | exact partI (by wtm_at "lkT1")
  | exact partLit (by wtm_at "lkT1") (by decide) (by decide) | fail)
/-! isinstance of values, is None -/
local macro_rules | `(tactic| wtm_at "ty") => `(tactic| first | exact .base (.int _) | exact .base (.bl _) | exact .base .non | exact .base (.str _) | exact .base (.tup (by wtm_at "lk")) | exact .base (.lst (by wtm_at "lk")) | fail)
local macro_rules | `(tactic| wtm_at "kb") => `(tactic| first | exact kb_int_int | exact kb_int_bool | exact kb_int_tuple | exact kb_int_list | exact kb_int_str | exact kb_bool_int | exact kb_bool_bool | exact kb_bool_tuple | exact kb_bool_list | exact kb_bool_str | exact kb_str_int | exact kb_str_bool | exact kb_str_tuple | exact kb_str_list | exact kb_str_str | exact kb_tuple_int | exact kb_tuple_bool | exact kb_tuple_tuple | exact kb_tuple_list | exact kb_tuple_str | exact kb_list_int | exact kb_list_bool | exact kb_list_tuple | exact kb_list_list | exact kb_list_str | exact kb_NoneType_int | exact kb_NoneType_bool | exact kb_NoneType_tuple | exact kb_NoneType_list | exact kb_NoneType_str | exact kb_dict_int | exact kb_dict_bool | exact kb_dict_tuple | exact kb_dict_list | exact kb_dict_str | fail)
local macro_rules | `(tactic| wtm_at "v0") => `(tactic| first
  | ((with_reducible show rIsi _ _ _ _); refine i_isi (by wtm_at "ty") (by wtm_at "kb") ?_)
  | with_reducible refine i_isN ?_ | with_reducible refine i_notN ?_ | fail)
local macro_rules | `(tactic| wtm_at "vq") => `(tactic| repeat ((fail_if_success (with_reducible show rEqU _ (.ref _) (.ref _) _ _)); (fail_if_success (with_reducible show rNeU _ (.ref _) (.ref _) _ _)); (fail_if_success (with_reducible show rReprD _ _ _ _)); (fail_if_success (with_reducible show rReprV _ _ _ _)); wtm_at "v1"))
variable {P : Program} {w : World} {K : PySem.W.Frag} {mg : Str → Option Value} {base : Heap}
def spLaw (K : PySem.W.Frag) : Sp := fun vs H Q _ => ∃ (a : Addr) (ns : List Int), vs = [.ref a] ∧ SqL K H a (ns.map V.int) ∧ ns.length ≤ 63 ∧ ∀ H', Q (.bl true) H'
abbrev s_law : Stmt := topS 28
theorem sc_law : FnScope ["script", "store", "turn", "row", "first", "nobody", "batch", "kept", "turned", "one"] ["script"] (defScope s_law) := ⟨rfl, rfl, rfl, by decide +kernel, rfl, by decide +kernel, by decide +kernel⟩
theorem ok_law {f c_NOUGHT : Addr} {fd : FuncData} (F : FunD K "law" "law" (defArgs s_law) (defBody s_law) (defScope s_law) [] [] f fd) (t_NOUGHT : PartK K c_NOUGHT 0)
    (O_law_store : Own P w K mg base CX0 1 "_law_store" ["script"] [] (spStore K)) (O_law_row : Own P w K mg base CX0 4 "_law_row" ["store"] [] (spRow K)) (O_law_small : Own P w K mg base CX0 3 "_law_small" ["store"] [] (spSmallD K)) (O_law_draw : Own P w K mg base CX0 2 "_law_draw" ["store", "many"] [] spDraw)
    (O_law_turned : Own P w K mg base CX0 3 "_law_turned" ["store", "row"] [] (spTurned K)) (O_law_total : Own P w K mg base CX0 3 "_law_total" ["row", "first"] [] (spSumL K)) (O_law_end : Own P w K mg base CX0 2 "_law_end" ["row", "other", "sign"] [] (spEndS K))
    (O_summed_0_start_some : OwnK P w K mg base CX0 4 "summed" ["some", "start"] 0 ["start", "some"] (fun _ zs => [zs.getD 1 .non, zs.getD 0 .non]) (spSum K)) (O_summed_1 : Own P w K mg base CX0 4 "summed" ["some", "start"] [.ref c_NOUGHT] (spSum K))
    (O_summed_1_start : OwnK P w K mg base CX0 4 "summed" ["some", "start"] 1 ["start"] (fun vs zs => [vs.getD 0 .non, zs.getD 0 .non]) (spSum K))
    (O_least_1 : Own P w K mg base CX0 2 "least" ["some", "none"] [.non] (spEnd K Lo)) (O_greatest_1 : Own P w K mg base CX0 2 "greatest" ["some", "none"] [.non] (spEnd K Hi))
    (O_least_0_none_some : OwnK P w K mg base CX0 2 "least" ["some", "none"] 0 ["none", "some"] (fun _ zs => [zs.getD 1 .non, zs.getD 0 .non]) (spEnd K Lo)) (O_greatest_0_none_some : OwnK P w K mg base CX0 2 "greatest" ["some", "none"] 0 ["none", "some"] (fun _ zs => [zs.getD 1 .non, zs.getD 0 .non]) (spEnd K Hi))
    (O_less : Own P w K mg base CX0 3 "less" ["one", "other"] [] (spPP K CT (· - ·)))
    (n_len : mg "len" = none) (n_min : mg "min" = none) (n_range : mg "range" = none) (n_repr : mg "repr" = none) (n_tuple : mg "tuple" = none) : FnG P w K mg base CX0 5 f fd ["script"] (spLaw K) := by
  refine okG (k := 4) F sc_law (fun vs H Q E h => ?_) (fun cdv A hG outer s H vs Q E hr h => ?_)
  · obtain ⟨a, b, rfl, _⟩ := h
    rfl
  · obtain ⟨a, ns, rfl, hS, hl, k⟩ := h
    refine ⟨_, (pss_cons (ps_set (i := 1) sc_law.nd rfl (Or.inl rfl) (pe_own O_law_store hG (hr.mono (by decide)) pass0 (pa_cons (pv 0) pa_nil))) (pss_cons (ps_for PassesOwn.never rfl (pi_range1 (by rfl) n_range (pa_cons (pe_op (k_add K) pe_int (pe_callB (call_minU rfl) (by rfl) n_min bt_min (pa_cons pe_int (pa_cons (pe_callB (k_len K) (by rfl) n_len bt_len (pa_cons (pv 0) pa_nil)) pa_nil)))) pa_nil)) (pg_name (i := 2) sc_law.nd rfl (Or.inl rfl)) (pss_cons (ps_set (i := 3) sc_law.nd rfl (Or.inl rfl) (pe_own O_law_row hG (hr.mono (by decide)) pass0 (pa_cons (pv 1) pa_nil))) (pss_cons (ps_set (i := 4) sc_law.nd rfl (Or.inl rfl) (pe_own O_law_small hG (hr.mono (by decide)) pass0 (pa_cons (pv 1) pa_nil))) (pss_cons (ps_set (i := 5) sc_law.nd rfl (Or.inl rfl) (pe_ix (k_ix K) (pe_lst (pa_cons pe_non (pa_cons (pe_tup (pa_cons pe_int (pa_cons pe_int pa_nil))) (pa_cons pe_int (pa_cons pe_str (pa_cons (pv 4) (pa_cons pe_int (pa_cons pe_str (pa_cons (pe_tup pa_nil) pa_nil))))))))) (pe_own O_law_draw hG (hr.mono (by decide)) pass0 (pa_cons (pv 1) (pa_cons pe_int pa_nil))) (fun _ _ => rfl))) (pss_cons (ps_for PassesOwn.never rfl (k_piT K (pe_tup (pa_cons (pv 3) (pa_cons (pe_callTy (k_tupL K) (by rfl) n_tuple bt_tuple (pa_cons (pv 3) pa_nil)) (pa_cons (pe_own O_law_turned hG (hr.mono (by decide)) pass0 (pa_cons (pv 1) (pa_cons (pv 3) pa_nil))) pa_nil))))) (pg_name (i := 6) sc_law.nd rfl (Or.inl rfl)) (pss_cons (ps_set (i := 7) sc_law.nd rfl (Or.inl rfl) (pe_callB (k_repr K hG hr) (by rfl) n_repr bt_repr (pa_cons (pv 6) pa_nil))) (pss_cons (ps_if (pt_cmpR (k_ne K hr) (pe_ownK0 O_summed_0_start_some hG (hr.mono (by decide)) pass0 (pk_cons (pv 4) (pk_cons (pv 6) pk_nil))) (pe_own O_law_total hG (hr.mono (by decide)) pass0 (pa_cons (pv 3) (pa_cons (pv 4) pa_nil))) (nomark _)) (pss_one (ps_ret pe_bl)) pss_nil) (pss_cons (ps_if ((pw_or (pt_cmpR (k_ne K hr) (pe_own O_summed_1 hG (hr.mono (by decide)) pass0 (pa_cons (pv 6) pa_nil)) (pe_own O_law_total hG (hr.mono (by decide)) pass0 (pa_cons (pv 3) (pa_cons (pe_tup (pa_cons pe_int (pa_cons pe_int pa_nil))) pa_nil))) (nomark _)) (pw_or1 (pt_cmpR (k_ne K hr) (pe_ownK O_summed_1_start hG (hr.mono (by decide)) pass0 (pa_cons (pv 6) pa_nil) (pk_cons (pv 4) pk_nil)) (pe_own O_law_total hG (hr.mono (by decide)) pass0 (pa_cons (pv 3) (pa_cons (pv 4) pa_nil))) (nomark _))))).pt (pss_one (ps_ret pe_bl)) pss_nil) (pss_cons (ps_if (pt_cmpR (k_ne K hr) (pe_callB (k_repr K hG hr) (by rfl) n_repr bt_repr (pa_cons (pe_lst (pa_cons (pe_own O_least_1 hG (hr.mono (by decide)) pass0 (pa_cons (pv 6) pa_nil)) (pa_cons (pe_own O_greatest_1 hG (hr.mono (by decide)) pass0 (pa_cons (pv 6) pa_nil)) pa_nil))) pa_nil)) (pe_callB (k_repr K hG hr) (by rfl) n_repr bt_repr (pa_cons (pe_lst (pa_cons (pe_own O_law_end hG (hr.mono (by decide)) pass0 (pa_cons (pv 3) (pa_cons pe_non (pa_cons pe_int pa_nil)))) (pa_cons (pe_own O_law_end hG (hr.mono (by decide)) pass0 (pa_cons (pv 3) (pa_cons pe_non (pa_cons (pe_un un_neg pe_int) pa_nil)))) pa_nil))) pa_nil)) (nomark _)) (pss_one (ps_ret pe_bl)) pss_nil) (pss_cons (ps_if (pt_cmpR (k_ne K hr) (pe_callB (k_reprV K hG hr) (by rfl) n_repr bt_repr (pa_cons (pe_ownK0 O_least_0_none_some hG (hr.mono (by decide)) pass0 (pk_cons (pv 5) (pk_cons (pv 6) pk_nil))) pa_nil)) (pe_callB (k_reprV K hG hr) (by rfl) n_repr bt_repr (pa_cons (pe_own O_law_end hG (hr.mono (by decide)) pass0 (pa_cons (pv 3) (pa_cons (pv 5) (pa_cons pe_int pa_nil)))) pa_nil)) (nomark _)) (pss_one (ps_ret pe_bl)) pss_nil) (pss_one (ps_if ((pw_or (pt_cmpR (k_ne K hr) (pe_callB (k_reprV K hG hr) (by rfl) n_repr bt_repr (pa_cons (pe_ownK0 O_greatest_0_none_some hG (hr.mono (by decide)) pass0 (pk_cons (pv 5) (pk_cons (pv 6) pk_nil))) pa_nil)) (pe_callB (k_reprV K hG hr) (by rfl) n_repr bt_repr (pa_cons (pe_own O_law_end hG (hr.mono (by decide)) pass0 (pa_cons (pv 3) (pa_cons (pv 5) (pa_cons (pe_un un_neg pe_int) pa_nil)))) pa_nil)) (nomark _)) (pw_or1 (pt_cmpR (k_ne K hr) (pe_callB (k_repr K hG hr) (by rfl) n_repr bt_repr (pa_cons (pv 6) pa_nil)) (pv 7) (nomark _))))).pt (pss_one (ps_ret pe_bl)) pss_nil)))))))) (pss_cons (ps_setLc (i := 8) (own := [("one", 9)]) rfl sc_law.nd rfl rfl (sw_true rfl rfl rfl (by decide +kernel)) (k_piL K (pv 3)) (blkOk_by (N := ["script", "store", "turn", "row", "first", "nobody", "batch", "kept", "turned", "one"]) (sc := defScope s_law) (by decide +kernel)) (fun _ _ _ _ _ => (pg_name (i := 9) sc_law.nd rfl (Or.inl rfl))) (fun _ _ _ _ _ => pts_nil) (fun _ _ _ _ _ => (pe_own O_less hG (hr.mono (by decide)) pass0 (pa_cons (pe_tup (pa_cons pe_int (pa_cons pe_int pa_nil))) (pa_cons (pv 9) pa_nil))))) (pss_one (ps_if ((pw_and (pt_cmpR (k_ne K hr) (pv 3) (pe_lst pa_nil) (nomark _)) (pw_and1 (pt_cmpR (k_ne K hr) (pe_own O_less hG (hr.mono (by decide)) pass0 (pa_cons (pe_tup (pa_cons pe_int (pa_cons pe_int pa_nil))) (pa_cons (pe_own O_greatest_1 hG (hr.mono (by decide)) pass0 (pa_cons (pv 8) pa_nil)) pa_nil))) (pe_own O_least_1 hG (hr.mono (by decide)) pass0 (pa_cons (pv 3) pa_nil)) (nomark _))))).pt (pss_one (ps_ret pe_bl)) pss_nil)))))))) (pss_one (ps_ret (pe_and (pe_cmpR (k_eq K hr) (pe_own O_summed_1 hG (hr.mono (by decide)) pass0 (pa_cons (pe_lst pa_nil) pa_nil)) (pe_tup (pa_cons pe_int (pa_cons pe_int pa_nil))) (nomark _)) (pe_one (pe_cmpR op_isN1 (pe_own O_least_1 hG (hr.mono (by decide)) pass0 (pa_cons (pe_tup pa_nil) pa_nil)) pe_non (nomark _)))))))), ?_⟩
    wtm_at "v"
    refine c_store hS hl (fun st gl H1 s1 n1 S1 => ?_)
    wtm_at "v"
    rw [List.length_map]
    refine i_rng1 (by omega) (by omega) ?_
    refine i_forR (fun i σ' H' => ∃ (v2 v3 v4 v5 v6 v7 v8 v9 : Option V), σ' = [some (.ref a), some (.ref st), v2, v3, v4, v5, v6, v7, v8, v9] ∧ StoreAt H' st gl (1000000 * i)) ⟨none, none, none, none, none, none, none, none, rfl, S1.mono (by omega)⟩ ?_ ?_
    · rintro i σ' H3 hi ⟨v2, v3, v4, v5, v6, v7, v8, v9, rfl, S3⟩
      wtm_at "v"
      refine c_row S3 (by omega) (fun pd xs qs D H4 nd d1 d2 hd tl ql D0 D1 hqD S4 F4 => ?_)
      wtm_at "v"
      refine c_smallD S4 (by omega) (fun x px H5 bx dx hx S5 F5 => ?_)
      have hd5 : H5 pd = some (.lst xs) := b_lst F5 d1 d2 hd
      have tl5 := tl.tm (Tm.fx F5)
      clear F4 F5 hd tl S3 S4 nd
      wtm_at "v"
      rename_i pa Ha na sa ta pb Hb nb sb tb pc Hc nc sc hc d H6 e0 e1 S6 F6
      refine i_ixV (SqL.of (by wtm_at "lk")) e0 (by simp; omega) (fun j v hv => ?_)
      obtain ⟨dv, tv, okv⟩ : ∃ d, TD K H6 v d ∧ Ok 1 4000 d := by
        have hm := List.mem_of_getElem? hv
        simp only [List.mem_cons, List.not_mem_nil, or_false] at hm
        rcases hm with rfl | rfl | rfl | rfl | rfl | rfl | rfl | rfl
        · exact ⟨_, .non, Ok.none.mono (by decide) (by decide)⟩
        · exact ⟨_, PartAt.td (part01 (by wtm_at "lkT1")), ok_P (Bd.mono (n := 2) ⟨by decide, by decide⟩ (by decide))⟩
        · exact ⟨_, .int 7, (Ok.int (natAbs_up (n := 64) (by decide) (by decide))).mono (by decide) (by decide)⟩
        · exact ⟨_, .str _, (Ok.str (m := 4000) (by decide +kernel) (by simp only [PyData.shown]; decide +kernel)).mono (by decide) (by decide)⟩
        · exact ⟨_, PartAt.td (by wtm_at "lkP"), ok_P (bx.mono (by decide))⟩
        · exact ⟨_, .int 0, (Ok.int (natAbs_up (n := 64) (by decide) (by decide))).mono (by decide) (by decide)⟩
        · exact ⟨_, .str _, (Ok.str (m := 4000) (by decide +kernel) (by simp only [PyData.shown]; decide +kernel)).mono (by decide) (by decide)⟩
        · exact ⟨_, TD.of (by wtm_at "lkT") TL.nil, (Ok.tup (n := 0) (m := 0) (k := 0) OkAll.nil (by decide)).mono (by decide) (by decide)⟩
      have hx6 : PartAt K H6 px x := by wtm_at "lkP"
      have hd6 : H6 pd = some (.lst xs) := by wtm_at "lk"
      have tl6 : TL K H6 xs (qs.map dP) := by wtm_at "tl"
      clear ta tb hc F6 sa sb sc na nb nc hd5 tl5 hx S5 hv
      wtm_at "v"
      refine i_tupL (SqL.of hd6) (fun pt H7 n7 s7 h7 => ?_)
      wtm_at "v"
      refine c_turned (S6.same s7) (by omega) d1 d2 (s7 _ _ hd6) (tl6.tm (Tm.same s7)) (by omega) (fun pr ys ps H8 nr r1 r2 hr8 tr8 pm S8 F8 => ?_)
      have h8 : H8 pd = some (.lst xs) := b_lst F8 d1 d2 (s7 _ _ hd6)
      have tl8 : TL K H8 xs (qs.map dP) := (tl6.tm (Tm.same s7)).tm (Tm.fx F8)
      have ht8 : Tp K H8 pt xs := Tp.fx F8 (Tp.of h7)
      have hx8 : PartAt K H8 px x := (hx6.mono s7).tm (Tm.fx F8)
      have tv8 : TD K H8 v dv := (tv.tm (Tm.same s7)).tm (Tm.fx F8)
      clear F8 hd6 tl6 hx6 tv s7 h7 nr S6
      wtm_at "v"
      rename_i pq H9 n9 s9 t9
      have t9' : Tp K H9 pq [.ref pd, .ref pt, .ref pr] := by wtm_at "lkT"
      have all9 : ∀ (j : Nat) (y : V), [V.ref pd, .ref pt, .ref pr][j]? = some y → ∃ b t zs, y = .ref b ∧ SqR K H9 b t zs ∧ zs.Perm qs := by
        intro j y hy
        have hm := List.mem_of_getElem? hy
        simp only [List.mem_cons, List.not_mem_nil, or_false] at hm
        rcases hm with rfl | rfl | rfl
        · exact ⟨_, _, qs, rfl, .lst (SqL.of (s9 _ _ h8)) (tl8.tm (Tm.same s9)), .refl _⟩
        · exact ⟨_, _, qs, rfl, .tup (Tp.mono s9 ht8) (tl8.tm (Tm.same s9)), .refl _⟩
        · exact ⟨_, _, ps, rfl, .lst (SqL.of (s9 _ _ hr8)) (tr8.tm (Tm.same s9)), pm⟩
      have R9 : SqR K H9 pd false qs := .lst (SqL.of (s9 _ _ h8)) (tl8.tm (Tm.same s9))
      have hx9 : PartAt K H9 px x := hx8.mono s9
      have tv9 : TD K H9 v dv := tv8.tm (Tm.same s9)
      have S9 : StoreAt H9 st gl (1000000 * (i + 1)) := (S8.same s9).mono (by omega)
      have h9 : H9 pd = some (.lst xs) := s9 _ _ h8
      have tl9 : TL K H9 xs (qs.map dP) := tl8.tm (Tm.same s9)
      clear h8 tl8 ht8 hx8 tv8 s9 t9 S8 hr8 tr8 pm n9
      have Dx0 : 0 < D * x.den := Nat.mul_pos D0 x.den_pos
      have Dx1 : D * x.den < 2 ^ 1200 := by
        have h1 := Nat.mul_lt_mul'' D1 (show x.den < 2 ^ 10 by omega)
        rw [← Nat.pow_add] at h1
        exact Nat.lt_of_lt_of_le h1 (Nat.pow_le_pow_right (by decide) (by decide))
      have dvx : Dv (D * x.den) (2 ^ 24) x := bx.dv.up (Nat.dvd_mul_left ..) (by decide)
      have dvq : ∀ q ∈ qs, Dv (D * x.den) (2 ^ 24) q := fun q hq => (hqD q hq).up (Nat.dvd_mul_right ..) (Nat.le_refl _)
      have dv0 : Dv (D * x.den) (2 ^ 24) 0 := (int_dv (a := 0) (B := 1) (by decide) (by decide) : Dv 1 1 ((0 : Int) : Rat)).up (Nat.one_dvd _) (by decide)
      have bq : ∀ q ∈ qs, Bd 900 q := fun q hq => (hqD q hq).bd D0 (Nat.lt_of_lt_of_le D1 (Nat.pow_le_pow_right (by decide) (by decide))) (by
        have h1 : 2 ^ 24 * D < 2 ^ 24 * 2 ^ 460 := Nat.mul_lt_mul_of_pos_left D1 (by decide)
        rw [← Nat.pow_add] at h1
        exact Nat.lt_of_lt_of_le h1 (Nat.pow_le_pow_right (by decide) (by decide)))
      refine i_itT t9' ?_
      refine i_forT (xs := [.ref pd, .ref pt, .ref pr]) (fun j σ' H' => ∃ (v6 v7 : Option V), σ' = [some (.ref a), some (.ref st), some (.int (0 + i)), some (.ref pd), some (.ref px), some v, v6, v7, v8, v9] ∧ Same H9 H') ⟨_, _, rfl, Same.refl _⟩ ?_ ?_ ?_
      · rintro j σ' H' _ ⟨v6, v7, rfl, sm⟩
        exact Tp.mono sm t9'
      · rintro j y σ' H10 hy ⟨v6, v7, rfl, s10⟩
        obtain ⟨b, t, zs, rfl, R, pm⟩ := all9 j y hy
        have R10 := R.same s10
        have row10 := R9.same s10
        have hx10 : PartAt K H10 px x := hx9.mono s10
        have tv10 : TD K H10 v dv := tv9.tm (Tm.same s10)
        have bz : ∀ q ∈ zs, Bd 900 q := fun q hq => bq q (pm.mem_iff.mp hq)
        have dvz : ∀ q ∈ zs, Dv (D * x.den) (2 ^ 24) q := fun q hq => dvq q (pm.mem_iff.mp hq)
        have lz : zs.length ≤ 40 := by rw [pm.length_eq]; exact ql
        have o10 : True ∧ Same H9 H10 := ⟨trivial, s10⟩
        clear s10 R hx9 tv9 S9 h9 tl9 all9
        wtm_at "vq"
        refine i_reprW R10.dp (ok_R bz (by omega)) (by decide) (by decide) ?_
        wtm_at "vq"
        refine c_sum R10 hx10 dvx dvz Dx0 Dx1 (by decide) (by omega) (fun r1 H11 s11 p11 => ?_)
        rw [sumTo_perm pm] at p11
        wtm_at "vq"
        refine c_sumL (row10.same s11) (by wtm_at "lkP") dvx dvq Dx0 Dx1 (by decide) (by omega) (fun r2 H12 s12 p12 => ?_)
        wtm_at "vq"
        refine i_neP (by wtm_at "lkP") (by wtm_at "lkP") ?_
        wtm_at "vq"
        refine c_sum (R10.same (by wtm_at "sm")) t_NOUGHT.pt dv0 dvz Dx0 Dx1 (by decide) (by omega) (fun r3 H13 s13 p13 => ?_)
        rw [sumTo_perm pm] at p13
        wtm_at "vq"
        rename_i q14 H14 n14 s14 t14
        refine c_sumL (row10.same (by wtm_at "sm")) (part01 (by wtm_at "lkT1")) dv0 dvq Dx0 Dx1 (by decide) (by omega) (fun r4 H15 s15 p15 => ?_)
        wtm_at "vq"
        refine i_neP (by wtm_at "lkP") (by wtm_at "lkP") ?_
        wtm_at "vq"
        refine c_sum (R10.same (by wtm_at "sm")) (by wtm_at "lkP") dvx dvz Dx0 Dx1 (by decide) (by omega) (fun r5 H16 s16 p16 => ?_)
        rw [sumTo_perm pm] at p16
        wtm_at "vq"
        refine c_sumL (row10.same (by wtm_at "sm")) (by wtm_at "lkP") dvx dvq Dx0 Dx1 (by decide) (by omega) (fun r6 H17 s17 p17 => ?_)
        wtm_at "vq"
        refine i_neP (by wtm_at "lkP") (by wtm_at "lkP") ?_
        have R17 : SqR K H17 b t zs := R10.same (by wtm_at "sm")
        have row17 : SqR K H17 pd false qs := row10.same (by wtm_at "sm")
        have tv17 : TD K H17 v dv := tv10.tm (by wtm_at "tm")
        have o17 : True ∧ Same H9 H17 := ⟨trivial, o10.2.trans (by wtm_at "sm")⟩
        clear R10 row10 hx10 tv10 o10 s11 p11 s12 p12 s13 p13 s14 t14 n14 s15 p15 s16 p16 s17 p17
        have pl := fun (ps qs : List Rat) (m : Rat) (h : Lo ps m) (e : ps.Perm qs) => h.perm e
        have ph := fun (ps qs : List Rat) (m : Rat) (h : Hi ps m) (e : ps.Perm qs) => h.perm e
        wtm_at "vq"
        refine c_end R17 .non bz (by omega) (fun y1 d1 H18 s18 E1 T1 => ?_)
        wtm_at "vq"
        refine c_end (R17.same s18) .non bz (by omega) (fun y2 d2 H19 s19 E2 T2 => ?_)
        have ok1 := E1.ok (fun _ _ h => h.1) (Ok.none.mono (by decide) (by decide)) fun q hq => (bz q hq).mono (by decide)
        have ok2 := E2.ok (fun _ _ h => h.1) (Ok.none.mono (by decide) (by decide)) fun q hq => (bz q hq).mono (by decide)
        have E1 := E1.perm pl pm
        have E2 := E2.perm ph pm
        wtm_at "vq"
        rename_i l20 H20 n20 s20 h20
        refine i_reprW (.lst (SqL.of h20) (.cons (T1.tm (by wtm_at "tm")).dp (.cons (T2.tm (by wtm_at "tm")).dp .nil))) (Ok.lst (k := 2) (.cons ok1 (.cons ok2 .nil)) (Nat.le_refl 2)) (by decide) (by decide) ?_
        wtm_at "vq"
        refine c_endS (row17.same (by wtm_at "sm")) .non bq (by omega) (.inl rfl) (fun y3 d3 H21 s21 E3 T3 => ?_)
        have E3 : EndOf Lo qs .none d3 := by simpa using E3
        obtain rfl := E3.lo E1
        wtm_at "vq"
        refine c_endS (row17.same (by wtm_at "sm")) .non bq (by omega) (.inr rfl) (fun y4 d4 H22 s22 E4 T4 => ?_)
        have E4 : EndOf Hi qs .none d4 := by simpa using E4
        obtain rfl := E4.hi E2
        wtm_at "vq"
        rename_i l23 H23 n23 s23 h23
        refine i_reprW (.lst (SqL.of h23) (.cons (T3.tm (by wtm_at "tm")).dp (.cons (T4.tm (by wtm_at "tm")).dp .nil))) (Ok.lst (k := 2) (.cons ok1 (.cons ok2 .nil)) (Nat.le_refl 2)) (by decide) (by decide) ?_
        have R23 : SqR K H23 b t zs := R17.same (by wtm_at "sm")
        have row23 : SqR K H23 pd false qs := row17.same (by wtm_at "sm")
        have tv23 : TD K H23 v dv := tv17.tm (by wtm_at "tm")
        have o23 : True ∧ Same H9 H23 := ⟨trivial, o17.2.trans (by wtm_at "sm")⟩
        clear R17 row17 tv17 o17 s18 E1 T1 ok1 s19 E2 T2 ok2 h20 n20 s20 s21 E3 T3 s22 E4 T4 n23 s23 h23
        wtm_at "vq"
        refine c_end R23 tv23 bz (by omega) (fun y1 d1 H24 s24 E1 T1 => ?_)
        have ok1 := E1.ok (fun _ _ h => h.1) okv fun q hq => (bz q hq).mono (by decide)
        have E1 := E1.perm pl pm
        wtm_at "vq"
        refine i_reprV T1.dp ok1 (by decide) (by decide) ?_
        wtm_at "vq"
        refine c_endS (row23.same s24) (tv23.tm (Tm.same s24)) bq (by omega) (.inl rfl) (fun y2 d2 H25 s25 E2 T2 => ?_)
        have E2 : EndOf Lo qs dv d2 := by simpa using E2
        obtain rfl := E2.lo E1
        wtm_at "vq"
        refine i_reprV T2.dp ok1 (by decide) (by decide) ?_
        wtm_at "vq"
        refine c_end (R23.same (by wtm_at "sm")) (tv23.tm (by wtm_at "tm")) bz (by omega) (fun y3 d3 H26 s26 E3 T3 => ?_)
        have ok3 := E3.ok (fun _ _ h => h.1) okv fun q hq => (bz q hq).mono (by decide)
        have E3 := E3.perm ph pm
        wtm_at "vq"
        refine i_reprV T3.dp ok3 (by decide) (by decide) ?_
        wtm_at "vq"
        refine c_endS (row23.same (by wtm_at "sm")) (tv23.tm (by wtm_at "tm")) bq (by omega) (.inr rfl) (fun y4 d4 H27 s27 E4 T4 => ?_)
        have E4 : EndOf Hi qs dv d4 := by simpa using E4
        obtain rfl := E4.hi E3
        wtm_at "vq"
        refine i_reprV T4.dp ok3 (by decide) (by decide) ?_
        wtm_at "vq"
        refine i_reprW (R23.same (by wtm_at "sm")).dp (ok_R bz (by omega)) (by decide) (by decide) ?_
        wtm_at "vq"
        exact ⟨_, _, rfl, o23.2.trans (by wtm_at "sm")⟩
      · rintro σ' H10 ⟨v6, v7, rfl, s10⟩
        have h10 : H10 pd = some (.lst xs) := s10 _ _ h9
        have tl10 : TL K H10 xs (qs.map dP) := tl9.tm (Tm.same s10)
        have R10 := R9.same s10
        have S10 := S9.same s10
        have lx : xs.length = qs.length := by simpa using tl10.len
        clear s10 h9 tl9 R9 S9 hx9 tv9
        wtm_at "vq"
        refine i_itL (SqL.of h10) ?_
        refine i_lcG (xs := xs) (fun A j H' => ∃ (us : List V), H' A = some (.lst us) ∧ TL K H' us (((qs.take j).map fun q => 0 - q).map dP) ∧ Same H10 H') (fun A nA => ?_) (fun A j H' nA ⟨us, a1, a2, a3⟩ => ?_) (fun A j y H' nA hy hj ⟨us, a1, a2, a3⟩ => ?_) (fun A H' nA ⟨us, a1, a2, a3⟩ => ?_)
        · exact ⟨[], upd_same, TL.nil, same_new nA⟩
        · exact SqL.of (a3 _ _ h10)
        · obtain ⟨py, q, rfl, hqi, hpy⟩ := (tl10.tm (Tm.same a3)).part hy
          have b1 : Bd 4000 q := (bq q (List.mem_of_getElem? hqi)).mono (by decide)
          have b0 : Bd 4000 0 := Bd.mono (n := 2) ⟨by decide, by decide⟩ (by decide)
          have lu : us.length = j := by rw [a2.len]; simp; omega
          wtm_at "v"
          refine ⟨rfl, ?_⟩
          wtm_at "v"
          rename_i pz Hz sz tz
          have hA : Hz A = some (.lst us) := by wtm_at "lk"
          refine ⟨us, hA, Nat.lt_of_le_of_lt (show us.length ≤ 100000 by omega) (by decide), ?_⟩
          have f7 : Fx A A Hz (upd Hz A (.lst (us ++ [.ref pz]))) := fx_upd hA
          have h7 : (upd Hz A (.lst (us ++ [.ref pz]))) A = some (.lst (us ++ [.ref pz])) := upd_same
          have tZ : TL K Hz us (((qs.take j).map fun q => 0 - q).map dP) := by wtm_at "tl"
          have sZ : Same H10 Hz := a3.trans (by wtm_at "sm")
          generalize upd Hz A (.lst (us ++ [.ref pz])) = H7 at *
          refine ⟨_, h7, ?_, fun c o h => f7.oth c o (sZ c o h) (ne_of_none h nA) (ne_of_none h nA)⟩
          rw [List.take_add_one, hqi, List.map_append, List.map_append]
          exact TL.snoc (tZ.tm (Tm.fx f7)) (tz.td.tm (Tm.fx f7))
        rw [lx, List.take_length] at a2
        have hA10 : H' pd = some (.lst xs) := a3 _ _ h10
        have bn : ∀ q ∈ qs.map (fun q => 0 - q), Bd 900 q := fun q hq => by
          obtain ⟨z, hz, rfl⟩ := List.mem_map.mp hq
          rw [show 0 - z = -z by grind]
          exact bd_neg (bq z hz)
        have TA : SqR K H' A false (qs.map fun q => 0 - q) := .lst (SqL.of a1) a2
        have R11 := R10.same a3
        have S11 := S10.same a3
        clear a3 h10 tl10 R10 S10
        wtm_at "vq"
        rename_i l12 H12 n12 s12 h12
        refine i_neD (R11.same s12).dp (.lst (SqL.of h12) .nil) (Sh.shaped (sh_R _ _) (by decide)) (Sh.shaped (n := 1) (.lst .nil) (by decide)) ?_
        rw [show PyData.eqv (dR false qs) (.list []) = decide (qs = []) from eqv_parts_nil qs]
        wtm_at "vq"
        have b0 : Bd 4000 0 := Bd.mono (n := 2) ⟨by decide, by decide⟩ (by decide)
        with_reducible refine ite_n (fun z0 => ?_) (fun z0 => ?_)
        · wtm_at "vq"
          rename_i l13 H13 n13 s13 h13
          refine c_end (TA.same (by wtm_at "sm")) .non bn (by simp; omega) (fun y1 d1 H14 s14 E1 T1 => ?_)
          rcases E1 with ⟨e, _⟩ | ⟨_, m, hm, rfl⟩
          · exact absurd (List.map_eq_nil_iff.mp e) z0
          obtain ⟨p1, rfl, hp1⟩ := T1.part
          have bm : Bd 4000 m := (bn m hm.1).mono (by decide)
          wtm_at "vq"
          rename_i p15 H15 s15 h15
          refine c_end (R11.same (by wtm_at "sm")) .non bq (by omega) (fun y2 d2 H16 s16 E2 T2 => ?_)
          rcases E2 with ⟨e, _⟩ | ⟨_, m2, hm2, rfl⟩
          · exact absurd e z0
          obtain ⟨p2, rfl, hp2⟩ := T2.part
          have e := hm.neg hm2
          subst e
          refine i_neP (by wtm_at "lkP") (by wtm_at "lkP") ?_
          wtm_at "vq"
          exact ⟨_, _, _, _, _, _, _, _, rfl, by wtm_at "lkS"⟩
        · wtm_at "vq"
          exact ⟨_, _, _, _, _, _, _, _, rfl, by wtm_at "lkS"⟩
    · rintro σ' H3 ⟨v2, v3, v4, v5, v6, v7, v8, v9, rfl, S3⟩
      clear S3
      wtm_at "vq"
      rename_i l4 H4 n4 s4 h4
      refine c_sum (t := false) (.lst (SqL.of h4) (qs := []) TL.nil) t_NOUGHT.pt (int_dv (a := 0) (B := 1) (by decide) (by decide) : Dv 1 1 ((0 : Int) : Rat)) (by simp) (by decide) (by decide) (by decide) (by decide) (fun r1 H5 s5 p5 => ?_)
      have p5 : PartAt K H5 r1 0 := p5
      wtm_at "vq"
      refine i_eqP (by wtm_at "lkP") (by wtm_at "lkP") ?_
      wtm_at "vq"
      with_reducible refine ite_d (fun _ => ?_) (fun c => absurd rfl c)
      wtm_at "vq"
      rename_i l7 H7 n7 s7 h7
      refine c_end (t := true) (.tup (by wtm_at "lkT") (qs := []) TL.nil) .non (by simp) (by decide) (fun y1 d1 H8 s8 E1 T1 => ?_)
      rcases E1 with ⟨_, rfl⟩ | ⟨e, _⟩
      · obtain rfl := T1.inv_none
        wtm_at "vq"
        exact k _
      · exact absurd rfl e
end
theorem all_mk {P : Program} {w : World} {K : PySem.W.Frag} {h : Heap} {mg : Str → Option Value} {fa : Addr} (X : K.In h) (G : h.Ns mainGlobals mg) (hfa : mg "law" = some (.ref fa))
    {c_NOUGHT : Addr} {d_NOUGHT : Option Addr} {i_NOUGHT : Array Value} {n_NOUGHT : Nat} {s_NOUGHT : Array (Option Value)}
    {f_divisor : Addr} {oc_divisor kV_divisor dc_divisor pm_divisor cd_divisor ct_divisor : Value} {od_divisor an_divisor : Option Addr} {sl_divisor : Array (Option Value)}
    {f_part : Addr} {oc_part kV_part dc_part pm_part cd_part ct_part : Value} {od_part an_part : Option Addr} {sl_part : Array (Option Value)}
    {T_part : Addr} {oT_part : Value} {dT_part : Option Addr} {iT_part : Array Value} {nT_part : Nat} {sT_part : Array (Option Value)}
    {f_plus : Addr} {oc_plus kV_plus dc_plus pm_plus cd_plus ct_plus : Value} {od_plus an_plus : Option Addr} {sl_plus : Array (Option Value)}
    {f_less : Addr} {oc_less kV_less dc_less pm_less cd_less ct_less : Value} {od_less an_less : Option Addr} {sl_less : Array (Option Value)}
    {f_times : Addr} {oc_times kV_times dc_times pm_times cd_times ct_times : Value} {od_times an_times : Option Addr} {sl_times : Array (Option Value)}
    {f_is_less : Addr} {oc_is_less kV_is_less dc_is_less pm_is_less cd_is_less ct_is_less : Value} {od_is_less an_is_less : Option Addr} {sl_is_less : Array (Option Value)}
    {f_summed D_summed : Addr} {oc_summed dc_summed pm_summed cd_summed ct_summed : Value} {od_summed an_summed : Option Addr} {sl_summed : Array (Option Value)}
    {f_least D_least : Addr} {oc_least dc_least pm_least cd_least ct_least : Value} {od_least an_least : Option Addr} {sl_least : Array (Option Value)}
    {f_greatest D_greatest : Addr} {oc_greatest dc_greatest pm_greatest cd_greatest ct_greatest : Value} {od_greatest an_greatest : Option Addr} {sl_greatest : Array (Option Value)}
    {f_law_store : Addr} {oc_law_store kV_law_store dc_law_store pm_law_store cd_law_store ct_law_store : Value} {od_law_store an_law_store : Option Addr} {sl_law_store : Array (Option Value)}
    {f_law_draw : Addr} {oc_law_draw kV_law_draw dc_law_draw pm_law_draw cd_law_draw ct_law_draw : Value} {od_law_draw an_law_draw : Option Addr} {sl_law_draw : Array (Option Value)}
    {f_law_part : Addr} {oc_law_part kV_law_part dc_law_part pm_law_part cd_law_part ct_law_part : Value} {od_law_part an_law_part : Option Addr} {sl_law_part : Array (Option Value)}
    {f_law_sum : Addr} {oc_law_sum kV_law_sum dc_law_sum pm_law_sum cd_law_sum ct_law_sum : Value} {od_law_sum an_law_sum : Option Addr} {sl_law_sum : Array (Option Value)}
    {f_law_under : Addr} {oc_law_under kV_law_under dc_law_under pm_law_under cd_law_under ct_law_under : Value} {od_law_under an_law_under : Option Addr} {sl_law_under : Array (Option Value)}
    {f_law_small : Addr} {oc_law_small kV_law_small dc_law_small pm_law_small cd_law_small ct_law_small : Value} {od_law_small an_law_small : Option Addr} {sl_law_small : Array (Option Value)}
    {f_law_row : Addr} {oc_law_row kV_law_row dc_law_row pm_law_row cd_law_row ct_law_row : Value} {od_law_row an_law_row : Option Addr} {sl_law_row : Array (Option Value)}
    {f_law_turned : Addr} {oc_law_turned kV_law_turned dc_law_turned pm_law_turned cd_law_turned ct_law_turned : Value} {od_law_turned an_law_turned : Option Addr} {sl_law_turned : Array (Option Value)}
    {f_law_total : Addr} {oc_law_total kV_law_total dc_law_total pm_law_total cd_law_total ct_law_total : Value} {od_law_total an_law_total : Option Addr} {sl_law_total : Array (Option Value)}
    {f_law_end : Addr} {oc_law_end kV_law_end dc_law_end pm_law_end cd_law_end ct_law_end : Value} {od_law_end an_law_end : Option Addr} {sl_law_end : Array (Option Value)}
    {f_law : Addr} {oc_law kV_law dc_law pm_law cd_law ct_law : Value} {od_law an_law : Option Addr} {sl_law : Array (Option Value)}
    (a_NOUGHT : PySem.W.nsIn K mainGlobals "NOUGHT" = some (some (.ref c_NOUGHT))) (l_NOUGHT : K.lookup c_NOUGHT = some ⟨.type "tuple", d_NOUGHT, .seq i_NOUGHT n_NOUGHT, s_NOUGHT⟩) (r_NOUGHT : Vals [.int 0, .int 1] i_NOUGHT.toList)
    (a_divisor : PySem.W.nsIn K mainGlobals "divisor" = some (some (.ref f_divisor)))
    (l_divisor : K.lookup f_divisor = some ⟨oc_divisor, od_divisor, .func (PySem.W.fnOf "divisor" "divisor" (defArgs s_divisor) (defBody s_divisor) (defScope s_divisor) .none kV_divisor dc_divisor pm_divisor an_divisor cd_divisor ct_divisor), sl_divisor⟩)
    (c_divisor : PySem.W.codeIn K cd_divisor "divisor" = true) (k_divisor : PySem.W.keepIn K (.ref f_divisor) = true)
    (a_part : PySem.W.nsIn K mainGlobals "part" = some (some (.ref f_part)))
    (l_part : K.lookup f_part = some ⟨oc_part, od_part, .func (PySem.W.fnOf "part" "part" (defArgs s_part) (defBody s_part) (defScope s_part) (.ref T_part) kV_part dc_part pm_part an_part cd_part ct_part), sl_part⟩)
    (c_part : PySem.W.codeIn K cd_part "part" = true) (k_part : PySem.W.keepIn K (.ref f_part) = true)
    (lT_part : K.lookup T_part = some ⟨oT_part, dT_part, .seq iT_part nT_part, sT_part⟩) (r_part : Vals [.int 1] iT_part.toList)
    (a_plus : PySem.W.nsIn K mainGlobals "plus" = some (some (.ref f_plus)))
    (l_plus : K.lookup f_plus = some ⟨oc_plus, od_plus, .func (PySem.W.fnOf "plus" "plus" (defArgs s_plus) (defBody s_plus) (defScope s_plus) .none kV_plus dc_plus pm_plus an_plus cd_plus ct_plus), sl_plus⟩)
    (c_plus : PySem.W.codeIn K cd_plus "plus" = true) (k_plus : PySem.W.keepIn K (.ref f_plus) = true)
    (a_less : PySem.W.nsIn K mainGlobals "less" = some (some (.ref f_less)))
    (l_less : K.lookup f_less = some ⟨oc_less, od_less, .func (PySem.W.fnOf "less" "less" (defArgs s_less) (defBody s_less) (defScope s_less) .none kV_less dc_less pm_less an_less cd_less ct_less), sl_less⟩)
    (c_less : PySem.W.codeIn K cd_less "less" = true) (k_less : PySem.W.keepIn K (.ref f_less) = true)
    (a_times : PySem.W.nsIn K mainGlobals "times" = some (some (.ref f_times)))
    (l_times : K.lookup f_times = some ⟨oc_times, od_times, .func (PySem.W.fnOf "times" "times" (defArgs s_times) (defBody s_times) (defScope s_times) .none kV_times dc_times pm_times an_times cd_times ct_times), sl_times⟩)
    (c_times : PySem.W.codeIn K cd_times "times" = true) (k_times : PySem.W.keepIn K (.ref f_times) = true)
    (a_is_less : PySem.W.nsIn K mainGlobals "is_less" = some (some (.ref f_is_less)))
    (l_is_less : K.lookup f_is_less = some ⟨oc_is_less, od_is_less, .func (PySem.W.fnOf "is_less" "is_less" (defArgs s_is_less) (defBody s_is_less) (defScope s_is_less) .none kV_is_less dc_is_less pm_is_less an_is_less cd_is_less ct_is_less), sl_is_less⟩)
    (c_is_less : PySem.W.codeIn K cd_is_less "is_less" = true) (k_is_less : PySem.W.keepIn K (.ref f_is_less) = true)
    (a_summed : PySem.W.nsIn K mainGlobals "summed" = some (some (.ref f_summed)))
    (l_summed : K.lookup f_summed = some ⟨oc_summed, od_summed, .func (PySem.W.fnOf "summed" "summed" (defArgs s_summed) (defBody s_summed) (defScope s_summed) .none (.ref D_summed) dc_summed pm_summed an_summed cd_summed ct_summed), sl_summed⟩)
    (c_summed : PySem.W.codeIn K cd_summed "summed" = true) (k_summed : PySem.W.keepIn K (.ref f_summed) = true)
    (kw_summed_0 : PySem.W.nsIn K D_summed "start" = some (some (.ref c_NOUGHT)))
    (a_least : PySem.W.nsIn K mainGlobals "least" = some (some (.ref f_least)))
    (l_least : K.lookup f_least = some ⟨oc_least, od_least, .func (PySem.W.fnOf "least" "least" (defArgs s_least) (defBody s_least) (defScope s_least) .none (.ref D_least) dc_least pm_least an_least cd_least ct_least), sl_least⟩)
    (c_least : PySem.W.codeIn K cd_least "least" = true) (k_least : PySem.W.keepIn K (.ref f_least) = true)
    (kw_least_0 : PySem.W.nsIn K D_least "none" = some (some (.none)))
    (a_greatest : PySem.W.nsIn K mainGlobals "greatest" = some (some (.ref f_greatest)))
    (l_greatest : K.lookup f_greatest = some ⟨oc_greatest, od_greatest, .func (PySem.W.fnOf "greatest" "greatest" (defArgs s_greatest) (defBody s_greatest) (defScope s_greatest) .none (.ref D_greatest) dc_greatest pm_greatest an_greatest cd_greatest ct_greatest), sl_greatest⟩)
    (c_greatest : PySem.W.codeIn K cd_greatest "greatest" = true) (k_greatest : PySem.W.keepIn K (.ref f_greatest) = true)
    (kw_greatest_0 : PySem.W.nsIn K D_greatest "none" = some (some (.none)))
    (a_law_store : PySem.W.nsIn K mainGlobals "_law_store" = some (some (.ref f_law_store)))
    (l_law_store : K.lookup f_law_store = some ⟨oc_law_store, od_law_store, .func (PySem.W.fnOf "_law_store" "_law_store" (defArgs s_law_store) (defBody s_law_store) (defScope s_law_store) .none kV_law_store dc_law_store pm_law_store an_law_store cd_law_store ct_law_store), sl_law_store⟩)
    (c_law_store : PySem.W.codeIn K cd_law_store "_law_store" = true) (k_law_store : PySem.W.keepIn K (.ref f_law_store) = true)
    (a_law_draw : PySem.W.nsIn K mainGlobals "_law_draw" = some (some (.ref f_law_draw)))
    (l_law_draw : K.lookup f_law_draw = some ⟨oc_law_draw, od_law_draw, .func (PySem.W.fnOf "_law_draw" "_law_draw" (defArgs s_law_draw) (defBody s_law_draw) (defScope s_law_draw) .none kV_law_draw dc_law_draw pm_law_draw an_law_draw cd_law_draw ct_law_draw), sl_law_draw⟩)
    (c_law_draw : PySem.W.codeIn K cd_law_draw "_law_draw" = true) (k_law_draw : PySem.W.keepIn K (.ref f_law_draw) = true)
    (a_law_part : PySem.W.nsIn K mainGlobals "_law_part" = some (some (.ref f_law_part)))
    (l_law_part : K.lookup f_law_part = some ⟨oc_law_part, od_law_part, .func (PySem.W.fnOf "_law_part" "_law_part" (defArgs s_law_part) (defBody s_law_part) (defScope s_law_part) .none kV_law_part dc_law_part pm_law_part an_law_part cd_law_part ct_law_part), sl_law_part⟩)
    (c_law_part : PySem.W.codeIn K cd_law_part "_law_part" = true) (k_law_part : PySem.W.keepIn K (.ref f_law_part) = true)
    (a_law_sum : PySem.W.nsIn K mainGlobals "_law_sum" = some (some (.ref f_law_sum)))
    (l_law_sum : K.lookup f_law_sum = some ⟨oc_law_sum, od_law_sum, .func (PySem.W.fnOf "_law_sum" "_law_sum" (defArgs s_law_sum) (defBody s_law_sum) (defScope s_law_sum) .none kV_law_sum dc_law_sum pm_law_sum an_law_sum cd_law_sum ct_law_sum), sl_law_sum⟩)
    (c_law_sum : PySem.W.codeIn K cd_law_sum "_law_sum" = true) (k_law_sum : PySem.W.keepIn K (.ref f_law_sum) = true)
    (a_law_under : PySem.W.nsIn K mainGlobals "_law_under" = some (some (.ref f_law_under)))
    (l_law_under : K.lookup f_law_under = some ⟨oc_law_under, od_law_under, .func (PySem.W.fnOf "_law_under" "_law_under" (defArgs s_law_under) (defBody s_law_under) (defScope s_law_under) .none kV_law_under dc_law_under pm_law_under an_law_under cd_law_under ct_law_under), sl_law_under⟩)
    (c_law_under : PySem.W.codeIn K cd_law_under "_law_under" = true) (k_law_under : PySem.W.keepIn K (.ref f_law_under) = true)
    (a_law_small : PySem.W.nsIn K mainGlobals "_law_small" = some (some (.ref f_law_small)))
    (l_law_small : K.lookup f_law_small = some ⟨oc_law_small, od_law_small, .func (PySem.W.fnOf "_law_small" "_law_small" (defArgs s_law_small) (defBody s_law_small) (defScope s_law_small) .none kV_law_small dc_law_small pm_law_small an_law_small cd_law_small ct_law_small), sl_law_small⟩)
    (c_law_small : PySem.W.codeIn K cd_law_small "_law_small" = true) (k_law_small : PySem.W.keepIn K (.ref f_law_small) = true)
    (a_law_row : PySem.W.nsIn K mainGlobals "_law_row" = some (some (.ref f_law_row)))
    (l_law_row : K.lookup f_law_row = some ⟨oc_law_row, od_law_row, .func (PySem.W.fnOf "_law_row" "_law_row" (defArgs s_law_row) (defBody s_law_row) (defScope s_law_row) .none kV_law_row dc_law_row pm_law_row an_law_row cd_law_row ct_law_row), sl_law_row⟩)
    (c_law_row : PySem.W.codeIn K cd_law_row "_law_row" = true) (k_law_row : PySem.W.keepIn K (.ref f_law_row) = true)
    (a_law_turned : PySem.W.nsIn K mainGlobals "_law_turned" = some (some (.ref f_law_turned)))
    (l_law_turned : K.lookup f_law_turned = some ⟨oc_law_turned, od_law_turned, .func (PySem.W.fnOf "_law_turned" "_law_turned" (defArgs s_law_turned) (defBody s_law_turned) (defScope s_law_turned) .none kV_law_turned dc_law_turned pm_law_turned an_law_turned cd_law_turned ct_law_turned), sl_law_turned⟩)
    (c_law_turned : PySem.W.codeIn K cd_law_turned "_law_turned" = true) (k_law_turned : PySem.W.keepIn K (.ref f_law_turned) = true)
    (a_law_total : PySem.W.nsIn K mainGlobals "_law_total" = some (some (.ref f_law_total)))
    (l_law_total : K.lookup f_law_total = some ⟨oc_law_total, od_law_total, .func (PySem.W.fnOf "_law_total" "_law_total" (defArgs s_law_total) (defBody s_law_total) (defScope s_law_total) .none kV_law_total dc_law_total pm_law_total an_law_total cd_law_total ct_law_total), sl_law_total⟩)
    (c_law_total : PySem.W.codeIn K cd_law_total "_law_total" = true) (k_law_total : PySem.W.keepIn K (.ref f_law_total) = true)
    (a_law_end : PySem.W.nsIn K mainGlobals "_law_end" = some (some (.ref f_law_end)))
    (l_law_end : K.lookup f_law_end = some ⟨oc_law_end, od_law_end, .func (PySem.W.fnOf "_law_end" "_law_end" (defArgs s_law_end) (defBody s_law_end) (defScope s_law_end) .none kV_law_end dc_law_end pm_law_end an_law_end cd_law_end ct_law_end), sl_law_end⟩)
    (c_law_end : PySem.W.codeIn K cd_law_end "_law_end" = true) (k_law_end : PySem.W.keepIn K (.ref f_law_end) = true)
    (a_law : PySem.W.nsIn K mainGlobals "law" = some (some (.ref f_law)))
    (l_law : K.lookup f_law = some ⟨oc_law, od_law, .func (PySem.W.fnOf "law" "law" (defArgs s_law) (defBody s_law) (defScope s_law) .none kV_law dc_law pm_law an_law cd_law ct_law), sl_law⟩)
    (c_law : PySem.W.codeIn K cd_law "law" = true) (k_law : PySem.W.keepIn K (.ref f_law) = true)
    (z_abs : PySem.W.nsIn K mainGlobals "abs" = some none)
    (z_enumerate : PySem.W.nsIn K mainGlobals "enumerate" = some none)
    (z_len : PySem.W.nsIn K mainGlobals "len" = some none)
    (z_str : PySem.W.nsIn K mainGlobals "str" = some none)
    (z_range : PySem.W.nsIn K mainGlobals "range" = some none)
    (z_min : PySem.W.nsIn K mainGlobals "min" = some none)
    (z_repr : PySem.W.nsIn K mainGlobals "repr" = some none)
    (z_tuple : PySem.W.nsIn K mainGlobals "tuple" = some none)
    (z_list : PySem.W.nsIn K mainGlobals "list" = some none) :
    ∃ fd : FuncData, (∀ (s : Shared) (u : Value), BindsTo s fd ⟨[u], []⟩ [("script", u)]) ∧ ∀ base : Heap, K.In base → base.Ns mainGlobals mg → FnG P w K mg base CX0 5 fa fd ["script"] (spLaw K) := by
  have e := hfa.symm.trans (PySem.W.mg_of X G a_law)
  cases e
  have mg_NOUGHT := PySem.W.mg_of X G a_NOUGHT
  have t_NOUGHT : TpK K c_NOUGHT [.int 0, .int 1] := TpK.of l_NOUGHT r_NOUGHT (by decide)
  have F_divisor := funD_n l_divisor c_divisor k_divisor
  have g_divisor := PySem.W.mg_of X G a_divisor
  have F_part := funD_d (dvs := [.int 1]) l_part c_part k_part lT_part r_part (by simp)
  have g_part := PySem.W.mg_of X G a_part
  have F_plus := funD_n l_plus c_plus k_plus
  have g_plus := PySem.W.mg_of X G a_plus
  have F_less := funD_n l_less c_less k_less
  have g_less := PySem.W.mg_of X G a_less
  have F_times := funD_n l_times c_times k_times
  have g_times := PySem.W.mg_of X G a_times
  have F_is_less := funD_n l_is_less c_is_less k_is_less
  have g_is_less := PySem.W.mg_of X G a_is_less
  have F_summed := funD_k (kws := [("start", .ref c_NOUGHT)]) l_summed c_summed k_summed (fun q hq => by
    simp only [List.mem_cons, List.not_mem_nil, or_false] at hq
    rcases hq with rfl
    · exact ⟨_, kw_summed_0, rfl⟩)
  have g_summed := PySem.W.mg_of X G a_summed
  have F_least := funD_k (kws := [("none", .non)]) l_least c_least k_least (fun q hq => by
    simp only [List.mem_cons, List.not_mem_nil, or_false] at hq
    rcases hq with rfl
    · exact ⟨_, kw_least_0, rfl⟩)
  have g_least := PySem.W.mg_of X G a_least
  have F_greatest := funD_k (kws := [("none", .non)]) l_greatest c_greatest k_greatest (fun q hq => by
    simp only [List.mem_cons, List.not_mem_nil, or_false] at hq
    rcases hq with rfl
    · exact ⟨_, kw_greatest_0, rfl⟩)
  have g_greatest := PySem.W.mg_of X G a_greatest
  have F_law_store := funD_n l_law_store c_law_store k_law_store
  have g_law_store := PySem.W.mg_of X G a_law_store
  have F_law_draw := funD_n l_law_draw c_law_draw k_law_draw
  have g_law_draw := PySem.W.mg_of X G a_law_draw
  have F_law_part := funD_n l_law_part c_law_part k_law_part
  have g_law_part := PySem.W.mg_of X G a_law_part
  have F_law_sum := funD_n l_law_sum c_law_sum k_law_sum
  have g_law_sum := PySem.W.mg_of X G a_law_sum
  have F_law_under := funD_n l_law_under c_law_under k_law_under
  have g_law_under := PySem.W.mg_of X G a_law_under
  have F_law_small := funD_n l_law_small c_law_small k_law_small
  have g_law_small := PySem.W.mg_of X G a_law_small
  have F_law_row := funD_n l_law_row c_law_row k_law_row
  have g_law_row := PySem.W.mg_of X G a_law_row
  have F_law_turned := funD_n l_law_turned c_law_turned k_law_turned
  have g_law_turned := PySem.W.mg_of X G a_law_turned
  have F_law_total := funD_n l_law_total c_law_total k_law_total
  have g_law_total := PySem.W.mg_of X G a_law_total
  have F_law_end := funD_n l_law_end c_law_end k_law_end
  have g_law_end := PySem.W.mg_of X G a_law_end
  have F_law := funD_n l_law c_law k_law
  have n_abs := PySem.W.mg_none_of X G z_abs
  have n_enumerate := PySem.W.mg_none_of X G z_enumerate
  have n_len := PySem.W.mg_none_of X G z_len
  have n_str := PySem.W.mg_none_of X G z_str
  have n_range := PySem.W.mg_none_of X G z_range
  have n_min := PySem.W.mg_none_of X G z_min
  have n_repr := PySem.W.mg_none_of X G z_repr
  have n_tuple := PySem.W.mg_none_of X G z_tuple
  have n_list := PySem.W.mg_none_of X G z_list
  refine ⟨_, fun s u => F_law.bindsA (ps := ["script"]) (fun _ _ _ _ _ _ us hl => match us, hl with | [_], _ => rfl) s [u] rfl, fun base _ _ => ?_⟩
  have q_NOUGHT : PartK K c_NOUGHT 0 := PartK.of t_NOUGHT
  have A_divisor := ok_divisor (P := P) (w := w) (mg := mg) (base := base) F_divisor n_abs
  have A_part := ok_part (P := P) (w := w) (mg := mg) (base := base) F_part (own_n F_divisor g_divisor A_divisor fun _ _ _ _ _ _ us hl => match us, hl with | [_, _], _ => rfl)
  have A_plus := ok_plus (P := P) (w := w) (mg := mg) (base := base) F_plus (own_d F_part g_part A_part 2 1 (by simp) rfl fun _ _ _ _ _ _ _ us its l1 l2 => match us, its, l1, l2 with | [_, _], [_], _, _ => ⟨_, rfl, rfl⟩)
  have A_less := ok_less (P := P) (w := w) (mg := mg) (base := base) F_less (own_d F_part g_part A_part 2 1 (by simp) rfl fun _ _ _ _ _ _ _ us its l1 l2 => match us, its, l1, l2 with | [_, _], [_], _, _ => ⟨_, rfl, rfl⟩)
  have A_times := ok_times (P := P) (w := w) (mg := mg) (base := base) F_times (own_d F_part g_part A_part 2 1 (by simp) rfl fun _ _ _ _ _ _ _ us its l1 l2 => match us, its, l1, l2 with | [_, _], [_], _, _ => ⟨_, rfl, rfl⟩)
  have A_is_less := ok_is_less (P := P) (w := w) (mg := mg) (base := base) F_is_less
  have A_summed := ok_summed (P := P) (w := w) (mg := mg) (base := base) F_summed (own_n F_plus g_plus A_plus fun _ _ _ _ _ _ us hl => match us, hl with | [_, _], _ => rfl)
  have A_least := ok_least (P := P) (w := w) (mg := mg) (base := base) F_least (own_n F_is_less g_is_less A_is_less fun _ _ _ _ _ _ us hl => match us, hl with | [_, _], _ => rfl) n_len
  have A_greatest := ok_greatest (P := P) (w := w) (mg := mg) (base := base) F_greatest (own_n F_is_less g_is_less A_is_less fun _ _ _ _ _ _ us hl => match us, hl with | [_, _], _ => rfl) n_len
  have A_law_store := ok_law_store (P := P) (w := w) (mg := mg) (base := base) F_law_store n_abs n_enumerate
  have A_law_draw := ok_law_draw (P := P) (w := w) (mg := mg) (base := base) F_law_draw g_law_draw k_law_draw (F_law_draw.bindsN fun _ _ _ _ _ _ us hl => match us, hl with | [_, _], _ => rfl) n_len n_str n_range
  have A_law_part := ok_law_part (P := P) (w := w) (mg := mg) (base := base) F_law_part n_abs
  have A_law_sum := ok_law_sum (P := P) (w := w) (mg := mg) (base := base) F_law_sum (own_n F_law_part g_law_part A_law_part fun _ _ _ _ _ _ us hl => match us, hl with | [_, _], _ => rfl)
  have A_law_under := ok_law_under (P := P) (w := w) (mg := mg) (base := base) F_law_under
  have A_law_small := ok_law_small (P := P) (w := w) (mg := mg) (base := base) F_law_small (own_n F_law_draw g_law_draw A_law_draw fun _ _ _ _ _ _ us hl => match us, hl with | [_, _], _ => rfl) (own_n F_law_part g_law_part A_law_part fun _ _ _ _ _ _ us hl => match us, hl with | [_, _], _ => rfl)
  have A_law_row := ok_law_row (P := P) (w := w) (mg := mg) (base := base) F_law_row (own_n F_law_draw g_law_draw A_law_draw fun _ _ _ _ _ _ us hl => match us, hl with | [_, _], _ => rfl) (own_n F_law_small g_law_small A_law_small fun _ _ _ _ _ _ us hl => match us, hl with | [_], _ => rfl) (own_n F_plus g_plus A_plus fun _ _ _ _ _ _ us hl => match us, hl with | [_, _], _ => rfl) (own_n F_times g_times A_times fun _ _ _ _ _ _ us hl => match us, hl with | [_, _], _ => rfl) n_range n_len
  have A_law_turned := ok_law_turned (P := P) (w := w) (mg := mg) (base := base) F_law_turned (own_n F_law_draw g_law_draw A_law_draw fun _ _ _ _ _ _ us hl => match us, hl with | [_, _], _ => rfl) n_list n_len
  have A_law_total := ok_law_total (P := P) (w := w) (mg := mg) (base := base) F_law_total (own_n F_law_sum g_law_sum A_law_sum fun _ _ _ _ _ _ us hl => match us, hl with | [_, _], _ => rfl)
  have A_law_end := ok_law_end (P := P) (w := w) (mg := mg) (base := base) F_law_end (own_n F_law_under g_law_under A_law_under fun _ _ _ _ _ _ us hl => match us, hl with | [_, _], _ => rfl)
  exact ok_law (P := P) (w := w) (mg := mg) (base := base) F_law q_NOUGHT (own_n F_law_store g_law_store A_law_store fun _ _ _ _ _ _ us hl => match us, hl with | [_], _ => rfl) (own_n F_law_row g_law_row A_law_row fun _ _ _ _ _ _ us hl => match us, hl with | [_], _ => rfl) (own_n F_law_small g_law_small A_law_small fun _ _ _ _ _ _ us hl => match us, hl with | [_], _ => rfl) (own_n F_law_draw g_law_draw A_law_draw fun _ _ _ _ _ _ us hl => match us, hl with | [_, _], _ => rfl) (own_n F_law_turned g_law_turned A_law_turned fun _ _ _ _ _ _ us hl => match us, hl with | [_, _], _ => rfl) (own_n F_law_total g_law_total A_law_total fun _ _ _ _ _ _ us hl => match us, hl with | [_, _], _ => rfl) (own_n F_law_end g_law_end A_law_end fun _ _ _ _ _ _ us hl => match us, hl with | [_, _, _], _ => rfl) (ownK_k F_summed g_summed A_summed 0 ["start", "some"] [] (by simp) (by simp) (fun us its ws => [ws.getD 1 .none, ws.getD 0 .none]) (fun vs ds zs => [zs.getD 1 .non, zs.getD 0 .non]) (fun r1 r2 r3 => .cons (vals_getD r3 1) (.cons (vals_getD r3 0) (.nil))) fun _ _ _ _ _ _ us its ws l1 l2 l3 => match us, its, ws, l1, l2, l3 with | [], [], [_, _], _, _, _ => rfl) (own_k F_summed g_summed A_summed 1 (by simp) rfl fun _ _ _ _ _ _ us zs l1 l2 => match us, zs, l1, l2 with | [_], [_], _, _ => ⟨_, _, _, _, _, _, rfl, rfl, rfl⟩) (ownK_k F_summed g_summed A_summed 1 ["start"] [] (by simp) (by simp) (fun us its ws => [us.getD 0 .none, ws.getD 0 .none]) (fun vs ds zs => [vs.getD 0 .non, zs.getD 0 .non]) (fun r1 r2 r3 => .cons (vals_getD r1 0) (.cons (vals_getD r3 0) (.nil))) fun _ _ _ _ _ _ us its ws l1 l2 l3 => match us, its, ws, l1, l2, l3 with | [_], [], [_], _, _, _ => rfl) (own_k F_least g_least A_least 1 (by simp) rfl fun _ _ _ _ _ _ us zs l1 l2 => match us, zs, l1, l2 with | [_], [_], _, _ => ⟨_, _, _, _, _, _, rfl, rfl, rfl⟩) (own_k F_greatest g_greatest A_greatest 1 (by simp) rfl fun _ _ _ _ _ _ us zs l1 l2 => match us, zs, l1, l2 with | [_], [_], _, _ => ⟨_, _, _, _, _, _, rfl, rfl, rfl⟩) (ownK_k F_least g_least A_least 0 ["none", "some"] [] (by simp) (by simp) (fun us its ws => [ws.getD 1 .none, ws.getD 0 .none]) (fun vs ds zs => [zs.getD 1 .non, zs.getD 0 .non]) (fun r1 r2 r3 => .cons (vals_getD r3 1) (.cons (vals_getD r3 0) (.nil))) fun _ _ _ _ _ _ us its ws l1 l2 l3 => match us, its, ws, l1, l2, l3 with | [], [], [_, _], _, _, _ => rfl) (ownK_k F_greatest g_greatest A_greatest 0 ["none", "some"] [] (by simp) (by simp) (fun us its ws => [ws.getD 1 .none, ws.getD 0 .none]) (fun vs ds zs => [zs.getD 1 .non, zs.getD 0 .non]) (fun r1 r2 r3 => .cons (vals_getD r3 1) (.cons (vals_getD r3 0) (.nil))) fun _ _ _ _ _ _ us its ws l1 l2 l3 => match us, its, ws, l1, l2, l3 with | [], [], [_, _], _, _, _ => rfl) (own_n F_less g_less A_less fun _ _ _ _ _ _ us hl => match us, hl with | [_, _], _ => rfl) n_len n_min n_range n_repr n_tuple
end Pm
open PySem PySem.W PyProof.Rows
set_option maxRecDepth 100000 in
set_option maxHeartbeats 0 in
theorem PySem.Challenge.cw_paymill_k05_whole_rows_of_parts_holds : PySem.Challenge.rw_paymill_k05_whole_rows_of_parts.Holds := by
  w_on; o_law; k_head; (case hw => w_witness2)
  k_fill
  refine Pm.walkG (l := PySem.Challenge.rw_paymill_k05_whole_rows_of_parts) (n := 63) (k := 5) (x := "script") (sp := fun w => Pm.spLaw _) rfl (by decide) rfl ⟨rfl, by decide, by decide⟩ (fun w h Y => PySem.W.kIn_of Y) ?F (fun w H a ns hl _ hS => ⟨a, ns, rfl, hS, hl, fun _ => rfl⟩)
  case F =>
    intro w mg fa h KX G hmg
    refine' Pm.all_mk KX G hmg ?a_NOUGHT ?l_NOUGHT ?r_NOUGHT ?a_divisor ?l_divisor ?c_divisor ?k_divisor ?a_part ?l_part ?c_part ?k_part ?lT_part ?r_part ?a_plus ?l_plus ?c_plus ?k_plus ?a_less ?l_less ?c_less ?k_less ?a_times ?l_times ?c_times ?k_times ?a_is_less ?l_is_less ?c_is_less ?k_is_less ?a_summed ?l_summed ?c_summed ?k_summed ?kw_summed_0 ?a_least ?l_least ?c_least ?k_least ?kw_least_0 ?a_greatest ?l_greatest ?c_greatest ?k_greatest ?kw_greatest_0 ?a_law_store ?l_law_store ?c_law_store ?k_law_store ?a_law_draw ?l_law_draw ?c_law_draw ?k_law_draw ?a_law_part ?l_law_part ?c_law_part ?k_law_part ?a_law_sum ?l_law_sum ?c_law_sum ?k_law_sum ?a_law_under ?l_law_under ?c_law_under ?k_law_under ?a_law_small ?l_law_small ?c_law_small ?k_law_small ?a_law_row ?l_law_row ?c_law_row ?k_law_row ?a_law_turned ?l_law_turned ?c_law_turned ?k_law_turned ?a_law_total ?l_law_total ?c_law_total ?k_law_total ?a_law_end ?l_law_end ?c_law_end ?k_law_end ?a_law ?l_law ?c_law ?k_law ?z_abs ?z_enumerate ?z_len ?z_str ?z_range ?z_min ?z_repr ?z_tuple ?z_list
    (case a_NOUGHT => k_is)
    (case l_NOUGHT => k_is)
    (case r_NOUGHT => (repeat (refine .cons (by first | exact rfl | exact ⟨_, rfl⟩) ?_)); exact .nil)
    (case a_divisor => k_is)
    (case l_divisor => k_is)
    (case c_divisor => k_is)
    (case k_divisor => k_is)
    (case a_part => k_is)
    (case l_part => k_is)
    (case c_part => k_is)
    (case k_part => k_is)
    (case lT_part => k_is)
    (case r_part => (repeat (refine .cons (by first | exact rfl | exact ⟨_, rfl⟩) ?_)); exact .nil)
    (case a_plus => k_is)
    (case l_plus => k_is)
    (case c_plus => k_is)
    (case k_plus => k_is)
    (case a_less => k_is)
    (case l_less => k_is)
    (case c_less => k_is)
    (case k_less => k_is)
    (case a_times => k_is)
    (case l_times => k_is)
    (case c_times => k_is)
    (case k_times => k_is)
    (case a_is_less => k_is)
    (case l_is_less => k_is)
    (case c_is_less => k_is)
    (case k_is_less => k_is)
    (case a_summed => k_is)
    (case l_summed => k_is)
    (case c_summed => k_is)
    (case k_summed => k_is)
    (case kw_summed_0 => k_is)
    (case a_least => k_is)
    (case l_least => k_is)
    (case c_least => k_is)
    (case k_least => k_is)
    (case kw_least_0 => k_is)
    (case a_greatest => k_is)
    (case l_greatest => k_is)
    (case c_greatest => k_is)
    (case k_greatest => k_is)
    (case kw_greatest_0 => k_is)
    (case a_law_store => k_is)
    (case l_law_store => k_is)
    (case c_law_store => k_is)
    (case k_law_store => k_is)
    (case a_law_draw => k_is)
    (case l_law_draw => k_is)
    (case c_law_draw => k_is)
    (case k_law_draw => k_is)
    (case a_law_part => k_is)
    (case l_law_part => k_is)
    (case c_law_part => k_is)
    (case k_law_part => k_is)
    (case a_law_sum => k_is)
    (case l_law_sum => k_is)
    (case c_law_sum => k_is)
    (case k_law_sum => k_is)
    (case a_law_under => k_is)
    (case l_law_under => k_is)
    (case c_law_under => k_is)
    (case k_law_under => k_is)
    (case a_law_small => k_is)
    (case l_law_small => k_is)
    (case c_law_small => k_is)
    (case k_law_small => k_is)
    (case a_law_row => k_is)
    (case l_law_row => k_is)
    (case c_law_row => k_is)
    (case k_law_row => k_is)
    (case a_law_turned => k_is)
    (case l_law_turned => k_is)
    (case c_law_turned => k_is)
    (case k_law_turned => k_is)
    (case a_law_total => k_is)
    (case l_law_total => k_is)
    (case c_law_total => k_is)
    (case k_law_total => k_is)
    (case a_law_end => k_is)
    (case l_law_end => k_is)
    (case c_law_end => k_is)
    (case k_law_end => k_is)
    (case a_law => k_is)
    (case l_law => k_is)
    (case c_law => k_is)
    (case k_law => k_is)
    (case z_abs => k_is)
    (case z_enumerate => k_is)
    (case z_len => k_is)
    (case z_str => k_is)
    (case z_range => k_is)
    (case z_min => k_is)
    (case z_repr => k_is)
    (case z_tuple => k_is)
    (case z_list => k_is)

