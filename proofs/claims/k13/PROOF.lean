import PyProof.Rows.All
import Wide.All
import OpenK.AllK
import Wide.FinOn
import HandS.ForMost
import KE.KExcLine
import PyProof.ReprRoads
import HandS.ForExc
import HandS.Wide
import HandS.Flow
import HandS.IsInst
import HandS.Defaults
import HandS.Conv
import HandS.EndBits
import HandS.RaiseMore
import HandS.Style
import HandS.Comp
import HandS.ExcIs
import HandS.Steps
import HandS.MakeKwOnly
import KE.GoesEnum
import HandS.Zip
import KE.KUnpackStar
import HandS.SetFor
import HandS.Walk
import HandS.CallLocal
import PyProof.P3In
import HandS.TupAny
import HandS.Deep
import PyProof.Rows.ReprOcc
import HandS.Set
import HandS.SetBool
import HandS.Strs
import HandS.SortInts
import HandS.DictComp
import HandS.OwnEq
import PyProof.EqAt
import PyProof.EqKinds
import PyProof.TupleCall
import PyProof.NeKinds
import HandS.ExcInit
import KE.KExcInit
import HandS.ExcField
import KE.KTryMore
import PyProof.InstNe
import HandS.WideBits
import HandS.WordsDict
import PySem.Challenge.RW_paymill_k13_days_made_and_refused
set_option Elab.async false
set_option linter.all false
set_option maxRecDepth 100000
set_option maxHeartbeats 4000000
set_option autoImplicit false
namespace Pm
open PySem PySem.Spec PyProof.Rows L2
/-! ### promises that hold where no repr is under way -/
structure FnG (P : Program) (w : World) (K : PySem.W.Frag) (mg : Str → Option Value) (base : Heap) (CX : CXT) (k : Nat) (f : Addr) (fd : FuncData) (ps : List Str) (sp : Sp) : Prop where
  len : ∀ vs H Q E, sp vs H Q E → vs.length = ps.length
  run : ∀ (A : Around), A.guards = some [] → ∀ (outer : List Env) (s : Shared) (H : Hp) (args : Args) (us : List Value) (vs : List V) (Q : VK) (E : XK),
    Room k A → Env0 P w K mg base A outer s H → BindsTo s fd args (ps.zip us) → Vals vs us → sp vs H Q E →
    codeAny (model P w) A (.call (.ref f) args) (CR CX outer P w H s Q E) s
section
variable {P : Program} {w : World} {K : PySem.W.Frag} {mg : Str → Option Value} {base : Heap} {CX : CXT} {k : Nat} {f : Addr} {fd : FuncData} {ps : List Str} {sp : Sp}
theorem FnG.of (F : FnOk P w K mg base CX k f fd ps sp) : FnG P w K mg base CX k f fd ps sp :=
  ⟨F.len, fun A _ outer s H args us vs Q E => F.run A outer s H args us vs Q E⟩
/-- a def's body walked, knowing that no repr is under way -/
theorem fnG_of {name qual : Str} {params : Arguments} {body : List Stmt} {scope : Scope} {dV kV doc pm cdv ct oc : Value} {an od : Option Addr} {osl : Array (Option Value)} {N : List Str}
    (lk : K.lookup f = some ⟨oc, od, .func (PySem.W.fnOf name qual params body scope dV kV doc pm an cdv ct), osl⟩) (hcd : PySem.W.codeIn K cdv qual = true) (S : FnScope N ps scope)
    (len : ∀ vs H Q E, sp vs H Q E → vs.length = ps.length)
    (hbody : ∀ (A : Around), A.guards = some [] → ∀ (outer : List Env) (s : Shared) (H : Hp) (vs : List V) (Q : VK) (E : XK), Room k (A.deeper (envOfC qual scope s.heap.objs.size f cdv)) → sp vs H Q E →
      ∃ t, PSs (cxOf CX P w K mg base N qual scope f cdv A outer s H E) body t ∧ t { nx := fun _ H' => Q .non H', rt := Q } (start N vs) H) :
    FnG P w K mg base CX (k + 1) f (PySem.W.fnOf name qual params body scope dV kV doc pm an cdv ct) ps sp where
  len := len
  run := by
    intro A hA outer s H args us vs Q E room env bnd rel pre
    have inK : K.In s.heap := env.mod.kin.keeps fun b o q => (env.bs b o q).1
    have lim : s.heap.NoLimit := env.mod.nolimit.keeps fun b o q => (env.bs b o q).1
    obtain ⟨t, der, want⟩ := hbody A hA outer s H vs Q E (room.deeper _) pre
    apply codeAny_call_function room.depth (inK _ _ lk) rfl S.co S.gen rfl (PySem.W.codeRec_of inK hcd)
    apply bnd
    apply wpAny_newFunctionEnv_cells S.kind
    · rintro ⟨y, u⟩ hy
      cases S.par y (List.of_mem_zip hy).1 with
      | inl q => exact Or.inl q
      | inr q => exact Or.inr ⟨q, PySem.W.cellsFrom_some _ _ _ (Or.inl q)⟩
    · intro env2 he s2 x
      subst he
      refine ⟨lim.keeps x.toInCall.keep, codeAny_func ?_⟩
      have I := inv_start (CX := CX) (P := P) (w := w) (E := E) S room.hd env (len _ _ _ _ pre) rel x
      refine wpAny_mono (der.run [] s2 _ H _ I want) ?_ fun _ _ z => z
      intro fl s3 hs
      match fl, hs with
      | .ret u, ⟨v, σ3, H3, J, rv, q⟩ => exact ⟨v, H3, J.os, J.bare, J.base, J.hok, rv, q⟩
      | .next, ⟨σ3, H3, J, q⟩ => exact ⟨V.non, H3, J.os, J.bare, J.base, J.hok, rfl, q⟩
      | .brk, ⟨_, _, _, q⟩ => exact False.elim q
      | .cont, ⟨_, _, _, q⟩ => exact False.elim q
/-- a def of the text, its body without exceptions -/
theorem okG {x qual : Str} {st : Stmt} {dvs : List V} {kws : List (Str × V)} {N : List Str} (F : FunD K x qual (defArgs st) (defBody st) (defScope st) dvs kws f fd) (S : FnScope N ps (defScope st)) (len : ∀ vs H Q E, sp vs H Q E → vs.length = ps.length)
    (hbody : ∀ (cdv : Value) (A : Around), A.guards = some [] → ∀ (outer : List Env) (s : Shared) (H : Hp) (vs : List V) (Q : VK) (E : XK), Room k (A.deeper (envOfC qual (defScope st) s.heap.objs.size f cdv)) → sp vs H Q E →
      ∃ t, PSs (cxOf CX0 P w K mg base N qual (defScope st) f cdv A outer s H E).nox (defBody st) t ∧ t { nx := fun _ H' => Q .non H', rt := Q } (start N vs) H) : FnG P w K mg base CX0 (k + 1) f fd ps sp := by
  obtain ⟨oc, od, dV, kV, doc, pm, an, cdv, ct, osl, rfl, lk, hcd, _, _⟩ := F.ex
  refine fnG_of lk hcd S len fun A hA outer s H vs Q E hr hsp => ?_
  obtain ⟨t, h, q⟩ := hbody cdv A hA outer s H vs Q E hr hsp
  exact ⟨t, h.nox, q⟩
/-- .. that may raise -/
theorem okGX {x qual : Str} {st : Stmt} {dvs : List V} {kws : List (Str × V)} {N : List Str} (F : FunD K x qual (defArgs st) (defBody st) (defScope st) dvs kws f fd) (S : FnScope N ps (defScope st)) (len : ∀ vs H Q E, sp vs H Q E → vs.length = ps.length)
    (hbody : ∀ (cdv : Value) (A : Around), A.guards = some [] → ∀ (outer : List Env) (s : Shared) (H : Hp) (vs : List V) (Q : VK) (E : XK), Room k (A.deeper (envOfC qual (defScope st) s.heap.objs.size f cdv)) → sp vs H Q E →
      ∃ t, PSs (cxOf (L2.CX P w) P w K mg base N qual (defScope st) f cdv A outer s H E) (defBody st) t ∧ t { nx := fun _ H' => Q .non H', rt := Q } (start N vs) H) : FnG P w K mg base (L2.CX P w) (k + 1) f fd ps sp := by
  obtain ⟨oc, od, dV, kV, doc, pm, an, cdv, ct, osl, rfl, lk, hcd, _, _⟩ := F.ex
  exact fnG_of lk hcd S len fun A hA outer s H vs Q E hr hsp => hbody cdv A hA outer s H vs Q E hr hsp
end
/-! ### calls of such -/
section
variable {X : Cx} {CX : CXT} {k n : Nat} {f : Addr} {fd : FuncData} {ps ks : List Str} {sp : Sp} {E : XK} {x : Str} {p pos : Pos} {e : Expr} {es : List Expr} {kws : List Keyword} {t tk : TA} {ds : List Value} {dvs : List V} {g : List Value → List Value → List Value} {gV : List V → List V → List V}
theorem runG {pins : List (Addr × Obj)} {σ : L2.St} {H : Hp} {s : Shared} {Q : VK} {us us2 : List Value} {kv : List (Str × Value)} {vs : List V} (F : FnG X.prog X.w X.K X.mg X.base CX k f fd ps sp) (hG : X.A.guards = some []) (hr : Room k X.A)
    (hb : BindsTo s fd ⟨us, kv⟩ (ps.zip us2)) (hx : Passes CX X E) (I : Inv X pins σ H s) (r : Vals vs us2) (h : sp vs H Q E) : wpAny (model X.prog X.w) X.A (call (.ref f) us kv) (EP X pins σ Q) X.xe s := by
  apply wpAny_call
  refine codeAny_mono (F.run X.A hG X.stack s H ⟨us, kv⟩ us2 vs Q E hr I.env0 hb r h) ?_
  rintro (e | fl) s' hq
  · exact hx pins σ H s e s' I hq
  · cases fl <;> first | exact I.after hq | exact False.elim hq
/-- what a caller holds of a def: all its parameters by place -/
structure Own (P : Program) (w : World) (K : PySem.W.Frag) (mg : Str → Option Value) (base : Heap) (CX : CXT) (k : Nat) (x : Str) (ps : List Str) (dvs : List V) (sp : Sp) : Prop where
  ex : ∃ f fd ds, FnG P w K mg base CX k f fd ps sp ∧ mg x = some (.ref f) ∧ PySem.W.keepIn K (.ref f) = true ∧ Binds K fd ps ds ∧ Vals dvs ds
/-- .. n by place, the names ks by keyword -/
structure OwnK (P : Program) (w : World) (K : PySem.W.Frag) (mg : Str → Option Value) (base : Heap) (CX : CXT) (k : Nat) (x : Str) (ps : List Str) (n : Nat) (ks : List Str) (gV : List V → List V → List V) (sp : Sp) : Prop where
  ex : ∃ f fd g, FnG P w K mg base CX k f fd ps sp ∧ mg x = some (.ref f) ∧ PySem.W.keepIn K (.ref f) = true ∧ KBn K fd ps n ks g gV
theorem Own.mono {P : Program} {w : World} {K : PySem.W.Frag} {mg : Str → Option Value} {base : Heap} {dvs : List V} (O : Own P w K mg base CX k x ps dvs sp) {sp' : Sp} (h : ∀ vs H Q E, sp' vs H Q E → sp vs H Q E) : Own P w K mg base CX k x ps dvs sp' := by
  obtain ⟨f, fd, ds, F, a, b, c, d⟩ := O.ex
  exact ⟨f, fd, ds, ⟨fun vs H Q E z => F.len vs H Q E (h _ _ _ _ z), fun A g o s H args us vs Q E r e bb v z => F.run A g o s H args us vs Q E r e bb v (h _ _ _ _ z)⟩, a, b, c, d⟩
theorem pe_own (O : Own X.prog X.w X.K X.mg X.base CX k x ps dvs sp) (hG : X.A.guards = some []) (hr : Room k X.A) (hx : Passes CX X E) (ha : PA X (e :: es) t) (hg : Gl X x := by rfl)
    (hdb : (x == ("__debug__" : Str)) = false := by decide) (he : starEach (e :: es) X.env = (false, eval e X.env) :: starEach es X.env := by rfl) (hpl : (backTo pos (starEach es X.env)).any (·.1) = false := by rfl) :
    PE X (.Call (.Name x p) (e :: es) [] pos) (tCall sp dvs E t) := by
  obtain ⟨f, fd, ds, F, hm, hk, hb, hd⟩ := O.ex
  refine ⟨fun pins s σ H Q I h => wpAny_Call_Name_kw (ld_glob I hg hm ?_ hdb)⟩
  apply PySem.W.callWith_K (h₀ := X.base) I.ok.mod.kin hk _ he hpl
  refine thn (ha.run pos pins s σ H _ I h) ?_
  rintro us s1 ⟨vs, H1, I1, r, q⟩
  have r2 := r.append hd
  exact ⟨I1.kIn, runG F hG hr (hb s1 us I1.kIn (by rw [← r2.length]; exact F.len _ _ _ _ q)) hx I1 r2 q⟩
theorem pe_own0 (O : Own X.prog X.w X.K X.mg X.base CX k x ps dvs sp) (hG : X.A.guards = some []) (hr : Room k X.A) (hx : Passes CX X E) (hg : Gl X x := by rfl)
    (hdb : (x == ("__debug__" : Str)) = false := by decide) : PE X (.Call (.Name x p) [] [] pos) (tCall sp dvs E tNil) := by
  obtain ⟨f, fd, ds, F, hm, hk, hb, hd⟩ := O.ex
  refine ⟨fun pins s σ H Q I h => wpAny_Call_Name_kw (ld_glob I hg hm ?_ hdb)⟩
  refine PySem.W.callWith_K0 I.kIn hk ?_
  exact runG F hG hr (us := []) (hb s [] I.kIn (by rw [← (Vals.append (.nil : Vals [] []) hd).length]; exact F.len _ _ _ _ h)) hx I (Vals.append (.nil : Vals [] []) hd) h
theorem pe_ownK (O : OwnK X.prog X.w X.K X.mg X.base CX k x ps n ks gV sp) (hG : X.A.guards = some []) (hr : Room k X.A) (hx : Passes CX X E) (ha : PA X (e :: es) t) (hkw : PK X kws tk) (hg : Gl X x := by rfl)
    (hall : (backToKw pos (keywordEach kws X.env)).all (·.1.isSome) = true := by rfl) (hks : (backToKw pos (keywordEach kws X.env)).filterMap (·.1) = ks := by rfl)
    (hdb : (x == ("__debug__" : Str)) = false := by decide) (he : starEach (e :: es) X.env = (false, eval e X.env) :: starEach es X.env := by rfl)
    (hpl : ((backTo pos (starEach (e :: es) X.env)).any (·.1) || (backToKw pos (keywordEach kws X.env)).any (·.1.isNone)) = false := by rfl) :
    PE X (.Call (.Name x p) (e :: es) kws pos) (tCallN n ks.length sp gV E t tk) := by
  obtain ⟨f, fd, g, F, hm, hk, hb⟩ := O.ex
  refine ⟨fun pins s σ H Q I h => wpAny_Call_Name_kw (ld_glob I hg hm ?_ hdb)⟩
  apply PySem.W.callWith_KW (h₀ := X.base) I.ok.mod.kin hk hall _ hpl he
  refine thn (ha.run pos pins s σ H _ I h) ?_
  rintro us s1 ⟨vs, H1, I1, r, q⟩
  refine thn (hkw.run pos pins s1 σ H1 _ I1 q) ?_
  rintro ws s2 ⟨zs, H2, I2, rz, l1, l2, q2⟩
  rw [hks]
  exact ⟨I2.kIn, runG F hG hr (hb.to s2 us ws I2.kIn (r.length.symm.trans l1) (rz.length.symm.trans l2)) hx I2 (hb.rel r rz) q2⟩
theorem pe_ownK0 (O : OwnK X.prog X.w X.K X.mg X.base CX k x ps 0 ks gV sp) (hG : X.A.guards = some []) (hr : Room k X.A) (hx : Passes CX X E) (hkw : PK X kws tk) (hg : Gl X x := by rfl)
    (hall : (backToKw pos (keywordEach kws X.env)).all (·.1.isSome) = true := by rfl) (hks : (backToKw pos (keywordEach kws X.env)).filterMap (·.1) = ks := by rfl)
    (hdb : (x == ("__debug__" : Str)) = false := by decide)
    (hpl : ((backTo pos (starEach [] X.env)).any (·.1) || (backToKw pos (keywordEach kws X.env)).any (·.1.isNone)) = false := by rfl) :
    PE X (.Call (.Name x p) [] kws pos) (tCallN 0 ks.length sp gV E tNil tk) := by
  obtain ⟨f, fd, g, F, hm, hk, hb⟩ := O.ex
  refine ⟨fun pins s σ H Q I h => wpAny_Call_Name_kw (ld_glob I hg hm ?_ hdb)⟩
  refine PySem.W.callWith_KW0 (h₀ := X.base) I.ok.mod.kin hk hall ?_ hpl
  refine thn (hkw.run pos pins s σ H _ I h) ?_
  rintro ws s2 ⟨zs, H2, I2, rz, l1, l2, q2⟩
  rw [hks]
  exact ⟨I2.kIn, runG F hG hr (us := []) (hb.to s2 [] ws I2.kIn rfl (rz.length.symm.trans l2)) hx I2 (hb.rel (.nil : Vals [] []) rz) q2⟩
end
end Pm

namespace Pm
open PySem PySem.Spec PyProof.Rows L2
/-! ### the law's call, knowing that no repr is under way -/
section
variable {P : Program} {w : World} {K : PySem.W.Frag} {mg mb : Str → Option Value} {k : Nat} {fa a : Addr} {fd : FuncData} {x : Str} {sp : Sp} {s0 : Shared} {vs : List Value} {ns : List Int} {H : Hp}
/-- an abstract heap that tracks nothing but the script leaves a ground to stand on -/
theorem ground_of (inK : K.In s0.heap) (gl : s0.heap.Ns mainGlobals mg) (bl : s0.heap.Ns builtinsNs mb) (bb : ∀ y : Str, y ≠ "__name__" → mb y = bootBuiltins y) (lim : s0.heap.NoLimit)
    (obj : s0.heap.get? a = some { cls := .type "list", data := .seq vs.toArray }) (one : ∀ b u, H b = some u → b = a ∧ K.lookup a = none) : Mod K mg (hidT s0.heap H) := by
  have dictFree : ∀ (b : Addr) (o : Obj) (es : Array DictEntry) (ep : Nat), s0.heap.get? b = some o → o.data = .dict es ep → H b = none := by
    intro b o es ep e d
    rcases hb : H b with _ | u
    · rfl
    · obtain ⟨rfl, _⟩ := one b u hb
      rw [obj] at e
      injection e with e
      subst e
      cases d
  have ns : ∀ {b : Addr} {m : Str → Option Value}, s0.heap.Ns b m → (hidT s0.heap H).Ns b m := by
    rintro b m ⟨o, es, ep, e, d, r⟩
    exact ⟨o, es, ep, hidT_get e (dictFree b o es ep e d), d, r⟩
  refine ⟨fun b o e => hidT_get (inK b o e) ?_, ns gl, ⟨mb, ns bl, bb⟩, ?_⟩
  · rcases hb : H b with _ | u
    · rfl
    · obtain ⟨rfl, z⟩ := one b u hb
      rw [z] at e
      cases e
  · obtain ⟨mc, h1, h2⟩ := lim
    exact ⟨mc, ns h1, h2⟩
theorem lawG_core (inK : K.In s0.heap) (gl : s0.heap.Ns mainGlobals mg) (bl : s0.heap.Ns builtinsNs mb) (bb : ∀ y : Str, y ≠ "__name__" → mb y = bootBuiltins y) (lim : s0.heap.NoLimit) (gens : s0.gens = #[])
    (obj : s0.heap.get? a = some { cls := .type "list", data := .seq vs.toArray }) (room : Room k callerA)
    (F : ∀ base : Heap, K.In base → base.Ns mainGlobals mg → FnG P w K mg base CX0 k fa fd [x] sp) (bind : ∀ (s : Shared) (u : Value), BindsTo s fd ⟨[u], []⟩ [(x, u)])
    (only : Only H) (hok : HOk P w H s0.heap) (one : ∀ b u, H b = some u → b = a ∧ K.lookup a = none) (pre : sp [.ref a] H (fun v _ => v = .bl true) fun _ _ _ => False) :
    codeAny (model P w) callerA (.call (.ref fa) ⟨[.ref a], []⟩) (fun r s' => r = .ok (.ret (.bool true)) ∧ OldK s0.heap s'.heap ∧ s'.os = s0.os ∧ AllBare s'.gens) s0 := by
  have M := ground_of inK gl bl bb lim obj one
  have e0 : Env0 P w K mg (hidT s0.heap H) callerA [] s0 H := { frames := rfl, mod := M, bs := fun b o e => of_hidT e, bsz := Nat.le_of_eq (hidT_size _ _), funs := trivial, frf := (fun b hb => by cases hb), hok := hok, bare := .of_eq gens }
  refine codeAny_mono ((F _ M.kin M.glob).run callerA rfl [] s0 H _ [.ref a] [.ref a] _ _ room e0 (bind s0 _) (.cons rfl .nil) pre) ?_
  rintro (e | fl) s' hq
  · exact False.elim hq
  · cases fl with
    | ret u =>
      obtain ⟨v, H', os, bare, un, hok', rv, hv⟩ := hq
      have hv' : v = .bl true := hv
      subst hv'
      have hu : u = Value.bool true := rv
      subst hu
      refine ⟨rfl, OldK.of_keep fun b o e => ?_, os, bare⟩
      rcases only b with z | ⟨ob, xs, z⟩
      · exact un.keep b o e z (fun q => by cases q) (fun q => by cases q)
      · have e1 := (hok b _ z).1
        have e2 := (hok' b _ (un.frzs b ob _ z)).1
        rw [e] at e1
        injection e1 with e1
        rw [e1]
        exact e2
    | _ => exact False.elim hq
theorem lawG_call (inK : K.In s0.heap) (gl : s0.heap.Ns mainGlobals mg) (bl : s0.heap.Ns builtinsNs mb) (bb : ∀ y : Str, y ≠ "__name__" → mb y = bootBuiltins y) (lim : s0.heap.NoLimit) (gens : s0.gens = #[])
    (obj : s0.heap.get? a = some { cls := .type "list", data := .seq vs.toArray }) (hints : IntsAre vs ns) (short : ns.length ≤ sizeLine) (room : Room k callerA)
    (F : ∀ base : Heap, K.In base → base.Ns mainGlobals mg → FnG P w K mg base CX0 k fa fd [x] sp) (bind : ∀ (s : Shared) (u : Value), BindsTo s fd ⟨[u], []⟩ [(x, u)])
    (pre : ∀ H : Hp, SqL K H a (ns.map V.int) → sp [.ref a] H (fun v _ => v = .bl true) fun _ _ _ => False) :
    codeAny (model P w) callerA (.call (.ref fa) ⟨[.ref a], []⟩) (fun r s' => r = .ok (.ret (.bool true)) ∧ OldK s0.heap s'.heap ∧ s'.os = s0.os ∧ AllBare s'.gens) s0 := by
  have rv : Vals (ns.map V.int) vs := vals_ints hints
  rcases hk : K.lookup a with _ | o
  · let u : HO := .frz { cls := .type "list", data := .seq vs.toArray } (.lst (ns.map V.int))
    have at_ : (fun b => if b = a then some u else none : Hp) a = some u := if_pos rfl
    refine lawG_core (H := fun b => if b = a then some u else none) inK gl bl bb lim gens obj room F bind ?_ ?_ ?_ (pre _ (.inl (.inr ⟨_, at_⟩)))
    · intro b
      by_cases hb : b = a
      · exact .inr ⟨_, _, if_pos hb⟩
      · exact .inl (if_neg hb)
    · intro b u' z
      by_cases hb : b = a
      · subst hb
        rw [at_] at z
        injection z with z
        subst z
        exact ⟨obj, (by rw [List.length_map]; exact short), vs, _, rv, obj⟩
      · have z2 := (if_neg hb).symm.trans z
        cases z2
    · intro b u' z
      by_cases hb : b = a
      · exact ⟨hb, hk⟩
      · have z2 := (if_neg hb).symm.trans z
        cases z2
  · have e := inK a o hk
    rw [obj] at e
    injection e with e
    subst e
    refine lawG_core (H := fun _ => none) inK gl bl bb lim gens obj room F bind (fun _ => .inl rfl) (fun b u z => by cases z) (fun b u z => by cases z) (pre _ (.inr ⟨_, vs.toArray, _, hk, rfl, rfl, rfl, ?_, by simpa using rv⟩))
    rw [List.size_toArray, hints.length]
    exact short
end
/-- the end of a law's row -/
theorem walkG {l : PySem.W.OpenLaw} {n k : Nat} {q : Program} {loose : List Str} {XP : (Str → Option Value) → Heap → Prop} {YP : World → Heap → Prop} {d : DefRec} {K : Params → PySem.W.Frag} {sp : World → Sp} {x : Str}
    (hn : l.most = some n) (hn2 : n ≤ sizeLine) (hdf : d.params.defaults = []) (hr : Room k callerA) (hY : ∀ (w : World) (h : Heap), YP w h → (K w.params).In h)
    (F : ∀ (w : World) (mg : Str → Option Value) (fa : Addr) (h : Heap), (K w.params).In h → h.Ns mainGlobals mg → mg d.name = some (.ref fa) →
      ∃ fd : FuncData, (∀ (s : Shared) (u : Value), BindsTo s fd ⟨[u], []⟩ [(x, u)]) ∧ ∀ base : Heap, (K w.params).In base → base.Ns mainGlobals mg → FnG l.prog w (K w.params) mg base CX0 k fa fd [x] (sp w))
    (hsp : ∀ (w : World) (H : Hp) (a : Addr) (ns : List Int), ns.length ≤ n → (∀ z ∈ ns, Builtin.Int.intBits z ≤ 1048576) → SqL (K w.params) H a (ns.map V.int) → sp w [.ref a] H (fun v _ => v = .bl true) fun _ _ _ => False) :
    PySem.W.WalkO q loose XP YP l.row.toRowW d [] (fun f vs => PySem.call f vs) := by
  apply Att.attach_callB hn hdf
  intro w s₀ s₁ mg mb fa o pm cd doc a vs ns G Y ho hd hcd hmg hobj hints hlen hbits hg
  obtain ⟨fd, hb, hF⟩ := F w mg fa _ (hY w _ Y) G.T.g hmg
  exact lawG_call (hY w _ Y) G.T.g G.T.b G.T.builtins G.T.nolimit hg hobj hints (Nat.le_trans hlen hn2) hr hF hb fun H hS => hsp w H a ns hlen hbits hS
/-! ### repr of data -/
section
variable {X : Cx} {k : Nat}
def rReprD (K : PySem.W.Frag) : List V → Hp → VK → Prop := fun xs H Q => ∃ (a : Addr) (d : PyData), xs = [.ref a] ∧ Dp K H (.ref a) d ∧ d.showable = true ∧ d.hasDict = false ∧ d.depth ≤ 60 ∧ d.shown.length ≤ sizeLine ∧ Q (.str d.shown) H
theorem call_reprD (hG : X.A.guards = some []) (hr : Room k X.A) : CallR X (.builtin "repr") (rReprD X.K) := by
  intro pins s σ H xs us Q I r h
  obtain ⟨a, d, rfl, hd, hs, hn, hdp, hz, q⟩ := h
  obtain ⟨u, rfl, rfl⟩ := vals1 r
  obtain ⟨as, hR⟩ := Dp.reads I d (.ref a) (.ref a) hd rfl
  have hu := hr.un
  exact repr_of_reads' hR hs (fun z => by rw [hn] at z; cases z) hG (by omega) (fun _ _ e => e) (fun h' u tk hk => ⟨.str d.shown, H, I.kept hk, ⟨_, rfl⟩, q⟩) hz
end
end Pm

namespace Pm
open PySem PySem.Spec PyProof.Rows L2
/-! ### operators, whatever stands there -/
section
variable {X : Cx} {k : Nat}
def rAddU (K : PySem.W.Frag) : R2 := fun x y H Q => (∃ i j, x = .int i ∧ y = .int j ∧ Q (.int (i + j)) H) ∨ (∃ i j, x = .str i ∧ y = .str j ∧ i.length + j.length ≤ sizeLine ∧ Q (.str (i ++ j)) H) ∨ rCat x y H Q ∨ rCatT K x y H Q
theorem op_addU : OpR X (binaryOp .Add) (rAddU X.K) := op_add.or (op_add_str.or (op_cat.or op_catT))
theorem op_fdivV : OpR X (binaryOp .FloorDiv) (rI (fun _ j => j ≠ 0 ∧ j.natAbs.log2 < 9000) fun i j => .int (i.fdiv j)) := opI fun _ _ _ _ _ _ _ hc q => floordiv_int hc.1 q (.inl (PyProof.noPylong_of_log2 hc.2))
def rMulU : R2 := fun x y H Q => (∃ i j, x = .int i ∧ y = .int j ∧ CMulW i j ∧ Q (.int (i * j)) H) ∨ rRep x y H Q
theorem op_mulU : OpR X (binaryOp .Mult) rMulU := op_mulW.or op_rep
def rEqU (K : PySem.W.Frag) : R2 := fun x y H Q => rEq x y H Q ∨ rEqD K x y H Q
def rNeU (K : PySem.W.Frag) : R2 := fun x y H Q => rNe x y H Q ∨ rNeD K x y H Q
theorem op_eqU (hr : Room k X.A) : OpR X (compareOp .Eq) (rEqU X.K) := op_eq.or (op_eqD (by have := hr.un; omega))
theorem op_neU (hr : Room k X.A) : OpR X (compareOp .NotEq) (rNeU X.K) := op_ne.or (op_neD (by have := hr.un; omega))
end
/-! ### frames: what a step leaves as it was -/
/-- all but the lists at m and n -/
structure Fx (m n : Addr) (H H' : Hp) : Prop where
  oth : ∀ b o, H b = some o → b ≠ m → b ≠ n → H' b = some o
  tup : ∀ b xs, H b = some (.tup xs) → H' b = some (.tup xs)
def New (H : Hp) (p : Addr) : Prop := H p = none
section
variable {K : PySem.W.Frag} {H H' H1 H2 : Hp} {m n p q : Addr} {xs : List V} {o : HO}
theorem Fx.same (e : Same H H') : Fx m n H H' := ⟨fun b o h _ _ => e b o h, fun b xs h => e b _ h⟩
theorem Fx.trans (a : Fx m n H H1) (b : Fx m n H1 H2) : Fx m n H H2 := ⟨fun c o h h1 h2 => b.oth c o (a.oth c o h h1 h2) h1 h2, fun c xs h => b.tup c xs (a.tup c xs h)⟩
theorem same_new (h : H p = none) : Same H (upd H p o) := fun b u e => by rw [upd_ne (ne_of_none e h)]; exact e
theorem fx_upd (h : H m = some (.lst xs)) : Fx m n H (upd H m o) := ⟨fun b u e hm _ => by rw [upd_ne hm]; exact e, fun b ys e => by rw [upd_ne (ne_of e h (fun z => nomatch z))]; exact e⟩
theorem fx_upd2 (h : H n = some (.lst xs)) : Fx m n H (upd H n o) := ⟨fun b u e _ hn => by rw [upd_ne hn]; exact e, fun b ys e => by rw [upd_ne (ne_of e h (fun z => nomatch z))]; exact e⟩
/-- back by a frame -/
theorem b_get (e : Same H H') (h : H p = some o) : H' p = some o := e p o h
theorem b_tup (e : Fx m n H H') (h : H p = some (.tup xs)) : H' p = some (.tup xs) := e.tup p xs h
theorem b_lst (e : Fx m n H H') (h1 : p ≠ m) (h2 : p ≠ n) (h : H p = some o) : H' p = some o := e.oth p o h h1 h2
theorem b_T (e : Same H H') (h : SqT K H p xs) : SqT K H' p xs := by
  rcases h with (h | ⟨o, h⟩) | h
  · exact .inl (.inl (e _ _ h))
  · exact .inl (.inr ⟨o, e _ _ h⟩)
  · exact .inr h
theorem b_L (e : Same H H') (h : SqL K H p xs) : SqL K H' p xs := e.seq h
theorem new_ne (h : New H p) (h2 : H q = some o) : p ≠ q := fun e => by subst e; exact absurd (h.symm.trans h2) (fun z => nomatch z)
theorem new_ne' (h : New H p) (h2 : H q = some o) : q ≠ p := fun e => new_ne h h2 e.symm
end
/-- a tuple for ever: tracked as such, or of the module -/
def Tp (K : PySem.W.Frag) (H : Hp) (a : Addr) (xs : List V) : Prop := H a = some (.tup xs) ∨ ∃ (o : Obj) (its : Array Value) (n : Nat), K.lookup a = some o ∧ o.cls = .type "tuple" ∧ o.data = .seq its n ∧ its.size ≤ sizeLine ∧ Vals xs its.toList
section
variable {K : PySem.W.Frag} {H H' H1 H2 : Hp} {m n p q : Addr} {xs ys : List V} {o : HO}
theorem Tp.sq (h : Tp K H p xs) : SqT K H p xs := h.elim (fun h => .inl (.inl h)) .inr
theorem Tp.mono (e : Same H H') (h : Tp K H p xs) : Tp K H' p xs := h.elim (fun h => .inl (e _ _ h)) .inr
theorem Tp.fx (e : Fx m n H H') (h : Tp K H p xs) : Tp K H' p xs := h.elim (fun h => .inl (e.tup _ _ h)) .inr
theorem Tp.of (h : H p = some (.tup xs)) : Tp K H p xs := .inl h
end
/-! ### one step of a reading -/
section
variable {K : PySem.W.Frag} {σ : L2.St} {H : Hp} {Q : VK} {QB : Bool → Hp → Prop} {QA : List V → Hp → Prop} {ta tb te : TE} {t u : TT} {ts us : TS} {D : Ends} {i : Nat} {v x y : V} {r : R2} {g : TG} {tA tR : TA}
theorem i_seq (h : ts { D with nx := us D } σ H) : tSeq ts us D σ H := h
theorem i_next (h : D.nx σ H) : tNext D σ H := h
theorem i_asg (h : te σ H fun x H1 => g x σ H1 D.nx) : tAsg te g D σ H := h
theorem i_name {N : L2.St → Hp → Prop} (h : N (σ.set i (some v)) H) : gName i v σ H N := h
theorem i_drop (h : te σ H fun _ H1 => D.nx σ H1) : tDrop te D σ H := h
theorem i_ret (h : te σ H D.rt) : tRet te D σ H := h
theorem i_retN (h : D.rt .non H) : tRetN D σ H := h
theorem i_brk (h : D.bk σ H) : tBreak D σ H := h
theorem i_ctn (h : D.ct σ H) : tCont D σ H := h
theorem i_ifS (h : t σ H fun b H1 => if b = true then ts D σ H1 else us D σ H1) : tIfS t ts us D σ H := h
theorem i_par {i j : Nat} (h : tA σ H fun vs H1 => ∃ v w, vs = [v, w] ∧ D.nx ((σ.set i (some v)).set j (some w)) H1) : tPar i j tA D σ H := h
theorem i_par2 {i j : Nat} {a b : V} {N : L2.St → Hp → Prop} (h : N ((σ.set i (some a)).set j (some b)) H) : ∃ v w, [a, b] = [v, w] ∧ N ((σ.set i (some v)).set j (some w)) H := ⟨a, b, rfl, h⟩
theorem i_var (e : σ[i]? = some (some v)) (h : Q v H) : tVar i σ H Q := ⟨v, e, h⟩
theorem i_c (h : Q v H) : tC v σ H Q := h
theorem i_op (h : ta σ H fun x H1 => tb σ H1 fun y H2 => r x y H2 Q) : tOp r ta tb σ H Q := h
theorem i_un {r : V → Hp → VK → Prop} (h : ta σ H fun x H1 => r x H1 Q) : tUn r ta σ H Q := h
theorem i_test (h : te σ H fun x H1 => ∃ k, x = .bl k ∧ QB k H1) : tTest te σ H QB := h
theorem i_tB (h : te σ H fun x H1 => ∃ k, x = .bl k ∧ QB k H1) : tB te σ H QB := h
theorem i_bl {b : Bool} (h : QB b H) : ∃ k, V.bl b = .bl k ∧ QB k H := ⟨b, rfl, h⟩
theorem i_and (h : t σ H fun c H1 => if c = true then u σ H1 QB else QB false H1) : tAnd t u σ H QB := h
theorem i_or (h : t σ H fun c H1 => if c = true then QB true H1 else u σ H1 QB) : tOr t u σ H QB := h
theorem i_not (h : t σ H fun c H1 => QB (!c) H1) : tNot t σ H QB := h
theorem i_andV (h : ta σ H fun x H1 => ∃ c, x = .bl c ∧ if c = true then tb σ H1 Q else Q (.bl false) H1) : tAndV ta tb σ H Q := h
theorem i_orV (h : ta σ H fun x H1 => ∃ c, x = .bl c ∧ if c = true then Q (.bl true) H1 else tb σ H1 Q) : tOrV ta tb σ H Q := h
theorem i_notV (h : ta σ H fun x H1 => ∃ c, x = .bl c ∧ Q (.bl (!c)) H1) : tNotV ta σ H Q := h
theorem i_notV2 {b : Bool} (h : Q (.bl (!b)) H) : ∃ c, V.bl b = .bl c ∧ Q (.bl (!c)) H := ⟨b, rfl, h⟩
theorem i_bif {b : Bool} {A B : Bool → Prop} (h : if b = true then A b else B b) : ∃ c, V.bl b = .bl c ∧ if c = true then A c else B c := ⟨b, rfl, h⟩
theorem i_ifE (h : t σ H fun c H1 => if c = true then ta σ H1 Q else tb σ H1 Q) : tIf t ta tb σ H Q := h
theorem i_nil (h : QA [] H) : tNil σ H QA := h
theorem i_cons (h : ta σ H fun x H1 => tR σ H1 fun xs H2 => QA (x :: xs) H2) : tCons ta tR σ H QA := h
theorem i_call {sp : Sp} {dvs : List V} {E : XK} (h : tA σ H fun vs H1 => sp (vs ++ dvs) H1 Q E) : tCall sp dvs E tA σ H Q := h
theorem i_callN {sp : Sp} {n m : Nat} {gV : List V → List V → List V} {E : XK} {tk : TA} (h : tA σ H fun vs H1 => tk σ H1 fun zs H2 => vs.length = n ∧ zs.length = m ∧ sp (gV vs zs) H2 Q E) : tCallN n m sp gV E tA tk σ H Q := h
theorem i_cb {r : List V → Hp → VK → Prop} (h : tA σ H fun vs H1 => r vs H1 Q) : tCB r tA σ H Q := h
/-- a new tuple, a new list -/
def NewT (xs : List V) (H : Hp) (Q : VK) : Prop := xs.length ≤ sizeLine ∧ ∀ p, H p = none → Q (.ref p) (upd H p (.tup xs))
def NewL (xs : List V) (H : Hp) (Q : VK) : Prop := xs.length ≤ sizeLine ∧ ∀ p, H p = none → Q (.ref p) (upd H p (.lst xs))
theorem i_tup (h : tA σ H fun xs H1 => NewT xs H1 Q) : tTup tA σ H Q := h
theorem i_lst (h : tA σ H fun xs H1 => NewL xs H1 Q) : tLst tA σ H Q := h
theorem i_newT {xs : List V} (hl : xs.length ≤ 100000) (h : ∀ p H', New H p → Same H H' → H' p = some (.tup xs) → Q (.ref p) H') : NewT xs H Q :=
  ⟨Nat.le_trans hl (by decide), fun p hp => h p _ hp (same_new hp) upd_same⟩
theorem i_newL {xs : List V} (hl : xs.length ≤ 100000) (h : ∀ p H', New H p → Same H H' → H' p = some (.lst xs) → Q (.ref p) H') : NewL xs H Q :=
  ⟨Nat.le_trans hl (by decide), fun p hp => h p _ hp (same_new hp) upd_same⟩
theorem i_new {o : HO} (h : ∀ p H', New H p → Same H H' → H' p = some o → Q (.ref p) H') : ∀ p, H p = none → Q (.ref p) (upd H p o) := fun p hp => h p _ hp (same_new hp) upd_same
/-! values -/
theorem i_addI {a b : Int} (h : Q (.int (a + b)) H) : rAddU K (.int a) (.int b) H Q := .inl ⟨a, b, rfl, rfl, h⟩
theorem i_addL {p q : Addr} {xs ys : List V} (h1 : H p = some (.lst xs)) (h2 : H q = some (.lst ys)) (hl : xs.length + ys.length ≤ 100000) (h : ∀ a H', New H a → Same H H' → H' a = some (.lst (xs ++ ys)) → Q (.ref a) H') : rAddU K (.ref p) (.ref q) H Q :=
  .inr (.inr (.inl ⟨p, q, xs, ys, rfl, rfl, h1, h2, Nat.le_trans hl (by decide), i_new h⟩))
theorem i_I {C : Int → Int → Prop} {f : Int → Int → V} {a b : Int} (hc : C a b) (h : Q (f a b) H) : rI C f (.int a) (.int b) H Q := ⟨a, b, rfl, rfl, hc, h⟩
theorem i_I0 {f : Int → Int → V} {a b : Int} (h : Q (f a b) H) : rI0 f (.int a) (.int b) H Q := ⟨a, b, rfl, rfl, h⟩
theorem i_U {f : Int → V} {a : Int} (h : Q (f a) H) : rU f (.int a) H Q := ⟨a, rfl, h⟩
theorem i_mulI {a b : Int} (hc : CMulW a b) (h : Q (.int (a * b)) H) : rMulU (.int a) (.int b) H Q := .inl ⟨a, b, rfl, rfl, hc, h⟩
theorem i_eqI {a b : Int} (h : Q (.bl (decide (a = b))) H) : rEqU K (.int a) (.int b) H Q := .inl ⟨rfl, by rw [dec_int, ← Bool.beq_eq_decide_eq] at *; exact h⟩
theorem i_neI {a b : Int} (h : Q (.bl (!decide (a = b))) H) : rNeU K (.int a) (.int b) H Q := .inl ⟨rfl, by rw [dec_int, ← Bool.beq_eq_decide_eq] at *; exact h⟩
theorem i_eqD {x y : V} {d e : PyData} (h1 : Dp K H x d) (h2 : Dp K H y e) (s1 : SeqAt.shaped d = true) (s2 : SeqAt.shaped e = true) (h : Q (.bl (PyData.eqv d e)) H) : rEqU K x y H Q := .inr ⟨d, e, h1, h2, s1, s2, h⟩
theorem i_neD {x y : V} {d e : PyData} (h1 : Dp K H x d) (h2 : Dp K H y e) (s1 : SeqAt.shaped d = true) (s2 : SeqAt.shaped e = true) (h : Q (.bl (!PyData.eqv d e)) H) : rNeU K x y H Q := .inr ⟨d, e, h1, h2, s1, s2, h⟩
theorem i_ixT {p : Addr} {xs : List V} {j : Int} (h1 : Tp K H p xs) (e : atI xs j = some v) (h : Q v H) : rIx K (.ref p) (.int j) H Q := .inr (.inl ⟨p, xs, j, v, rfl, rfl, h1.sq, e, h⟩)
theorem i_ixL {p : Addr} {xs : List V} {j : Int} (h1 : SqL K H p xs) (e : atI xs j = some v) (h : Q v H) : rIx K (.ref p) (.int j) H Q := .inl ⟨p, xs, j, v, rfl, rfl, h1, e, h⟩
theorem ite_d {c : Prop} {inst : Decidable c} {A B : Prop} (h1 : c → A) (h2 : ¬ c → B) : if decide c = true then A else B := by
  by_cases h : c
  · rw [if_pos (decide_eq_true h)]; exact h1 h
  · rw [if_neg (by rw [decide_eq_false h]; decide)]; exact h2 h
theorem ite_n {c : Prop} {inst : Decidable c} {A B : Prop} (h1 : ¬ c → A) (h2 : c → B) : if (!decide c) = true then A else B := by
  by_cases h : c
  · rw [if_neg (by rw [decide_eq_true h]; decide)]; exact h2 h
  · rw [if_pos (by rw [decide_eq_false h]; rfl)]; exact h1 h
theorem ite_b {c : Bool} {A B : Prop} (h1 : c = true → A) (h2 : c = false → B) : if c = true then A else B := by
  cases c with
  | true => exact (if_pos rfl).mpr (h1 rfl)
  | false => exact (if_neg Bool.false_ne_true).mpr (h2 rfl)
end
end Pm

namespace Pm
open PySem PySem.Spec PyProof.Rows L2
theorem bt_abs : bootBuiltins "abs" = some (.builtin "abs") := by decide +kernel
theorem bt_len : bootBuiltins "len" = some (.builtin "len") := by decide +kernel
theorem bt_min : bootBuiltins "min" = some (.builtin "min") := by decide +kernel
theorem bt_max : bootBuiltins "max" = some (.builtin "max") := by decide +kernel
theorem bt_repr : bootBuiltins "repr" = some (.builtin "repr") := by decide +kernel
theorem bt_isinstance : bootBuiltins "isinstance" = some (.builtin "isinstance") := by decide +kernel
theorem bt_all : bootBuiltins "all" = some (.builtin "all") := by decide +kernel
theorem bt_any : bootBuiltins "any" = some (.builtin "any") := by decide +kernel
theorem bt_sum : bootBuiltins "sum" = some (.builtin "sum") := by decide +kernel
theorem bt_str : bootBuiltins "str" = some (.type "str") := by decide +kernel
theorem bt_tuple : bootBuiltins "tuple" = some (.type "tuple") := by decide +kernel
theorem bt_list : bootBuiltins "list" = some (.type "list") := by decide +kernel
theorem bt_int : bootBuiltins "int" = some (.type "int") := by decide +kernel
theorem bt_bool : bootBuiltins "bool" = some (.type "bool") := by decide +kernel
theorem bt_sorted : bootBuiltins "sorted" = some (.builtin "sorted") := by decide +kernel
/-! ### built-ins by named readings -/
section
variable {X : Cx}
theorem CallR.imp {f : Value} {r r' : List V → Hp → VK → Prop} (h : CallR X f r) (i : ∀ xs H Q, r' xs H Q → r xs H Q) : CallR X f r' := fun pins s σ H xs us Q I rr hh => h pins s σ H xs us Q I rr (i _ _ _ hh)
def rAbs : List V → Hp → VK → Prop := fun xs H Q => ∃ i : Int, xs = [.int i] ∧ Q (.int i.natAbs) H
theorem call_absU : CallR X (.builtin "abs") rAbs := CallR.imp call_abs fun xs H Q ⟨i, e, q⟩ => ⟨i, e, by
  have z : (if i < 0 then -i else i) = (i.natAbs : Int) := by split <;> omega
  rw [z]; exact q⟩
def rMin2 : List V → Hp → VK → Prop := fun xs H Q => ∃ i j : Int, xs = [.int i, .int j] ∧ Q (.int (min i j)) H
theorem call_minU (hc : X.calm = true) : CallR X (.builtin "min") rMin2 := CallR.imp (call_min2 hc) fun xs H Q ⟨i, j, e, q⟩ => ⟨i, j, e, by
  have z : (if j < i then j else i) = min i j := by split <;> omega
  rw [z]; exact q⟩
def rMax2 : List V → Hp → VK → Prop := fun xs H Q => ∃ i j : Int, xs = [.int i, .int j] ∧ Q (.int (max i j)) H
theorem call_maxU (hc : X.calm = true) : CallR X (.builtin "max") rMax2 := CallR.imp (call_max2 hc) fun xs H Q ⟨i, j, e, q⟩ => ⟨i, j, e, by
  have z : (if j > i then j else i) = max i j := by split <;> omega
  rw [z]; exact q⟩
def rLenU (K : PySem.W.Frag) : List V → Hp → VK → Prop := fun xs H Q => ∃ p ys, xs = [.ref p] ∧ (SqL K H p ys ∨ SqT K H p ys) ∧ Q (.int ys.length) H
theorem call_lenU : CallR X (.builtin "len") (rLenU X.K) := call_len_seq
def rLenStr : List V → Hp → VK → Prop := fun xs H Q => ∃ z : Str, xs = [.str z] ∧ z.length ≤ sizeLine ∧ Q (.int z.length) H
theorem call_lenStr : CallR X (.builtin "len") rLenStr := call_len_str
def rStrI : List V → Hp → VK → Prop := fun xs H Q => ∃ i : Int, xs = [.int i] ∧ i.natAbs.log2 < 1920 ∧ Q (.str (toString i)) H
theorem call_strI : CallR X (.type "str") rStrI := call_str_int
def rTupL (K : PySem.W.Frag) : List V → Hp → VK → Prop := fun xs H Q => ∃ p ys, xs = [.ref p] ∧ SqL K H p ys ∧ ∀ l, H l = none → Q (.ref l) (upd H l (.tup ys))
theorem call_tupL : CallR X (.type "tuple") (rTupL X.K) := CallR.imp call_tuple_of fun xs H Q ⟨p, ys, e, h, q⟩ => ⟨p, ys, e, .inl ⟨h, q⟩⟩
end
section
variable {K : PySem.W.Frag} {σ : L2.St} {H : Hp} {Q : VK} {te : TE} {t : TT} {ts : TS} {D : Ends} {v x y : V} {g : TG} {tA : TA}
theorem i_abs {a : Int} (h : Q (.int a.natAbs) H) : rAbs [.int a] H Q := ⟨a, rfl, h⟩
theorem i_min {a b : Int} (h : Q (.int (min a b)) H) : rMin2 [.int a, .int b] H Q := ⟨a, b, rfl, h⟩
theorem i_max {a b : Int} (h : Q (.int (max a b)) H) : rMax2 [.int a, .int b] H Q := ⟨a, b, rfl, h⟩
theorem i_lenT {p : Addr} {xs : List V} (h1 : Tp K H p xs) (h : Q (.int xs.length) H) : rLenU K [.ref p] H Q := ⟨p, xs, rfl, .inr h1.sq, h⟩
theorem i_lenL {p : Addr} {xs : List V} (h1 : SqL K H p xs) (h : Q (.int xs.length) H) : rLenU K [.ref p] H Q := ⟨p, xs, rfl, .inl h1, h⟩
theorem i_lenS {z : Str} (h1 : z.length ≤ 100000) (h : Q (.int z.length) H) : rLenStr [.str z] H Q := ⟨z, rfl, Nat.le_trans h1 (by decide), h⟩
theorem i_strI {a : Int} (h1 : a.natAbs.log2 < 1920) (h : Q (.str (toString a)) H) : rStrI [.int a] H Q := ⟨a, rfl, h1, h⟩
theorem i_tupL {p : Addr} {xs : List V} (h1 : SqL K H p xs) (h : ∀ a H', New H a → Same H H' → H' a = some (.tup xs) → Q (.ref a) H') : rTupL K [.ref p] H Q := ⟨p, xs, rfl, h1, i_new h⟩
theorem i_reprD {p : Addr} {d : PyData} (h1 : Dp K H (.ref p) d) (h2 : d.showable = true) (h3 : d.hasDict = false) (h4 : d.depth ≤ 60) (h5 : d.shown.length ≤ sizeLine) (h : Q (.str d.shown) H) : rReprD K [.ref p] H Q := ⟨p, d, rfl, h1, h2, h3, h4, h5, h⟩
/-! loops -/
/-- one more turn of a while -/
def WB (m : Nat) (I : Nat → L2.St → Hp → Prop) (ts : TS) (D : Ends) (σ : L2.St) (H1 : Hp) : Prop := ∃ N : L2.St → Hp → Prop, (∀ σ' H', N σ' H' → ∃ m', m' < m ∧ I m' σ' H') ∧ ts { D with nx := N, ct := N, bk := D.nx } σ H1
theorem i_wb {m : Nat} {I : Nat → L2.St → Hp → Prop} (h : ts { D with nx := fun σ' H' => ∃ m', m' < m ∧ I m' σ' H', ct := fun σ' H' => ∃ m', m' < m ∧ I m' σ' H', bk := D.nx } σ H) : WB m I ts D σ H := ⟨_, fun _ _ z => z, h⟩
theorem i_while (I : Nat → L2.St → Hp → Prop) (m : Nat) (h0 : I m σ H) (hs : ∀ m σ H, I m σ H → t σ H fun b H1 => if b = true then WB m I ts D σ H1 else D.nx σ H1) : tWhile t ts D σ H := ⟨I, ⟨m, h0⟩, hs⟩
/-- what a for asks once what it walks is known -/
def ForI (J : It) (g : TG) (ts : TS) (D : Ends) (σ : L2.St) (H : Hp) : Prop := ∃ W : Nat → Nat → L2.St → Hp → Prop, (∃ m, W 0 m σ H) ∧ ∀ i m σ H, W i m σ H →
  (J.stop i H ∧ D.nx σ H) ∨ (J.go i H ∧ ∃ N : L2.St → Hp → Prop, (∀ σ' H', N σ' H' → ∃ m', m' < m ∧ W (i + 1) m' σ' H') ∧ ∀ x H', J.yld i H x H' → g x σ H' fun σ2 H2 => ts { D with nx := N, ct := N, bk := D.nx } σ2 H2)
theorem i_for {wi : TI} (h : wi σ H fun J H1 => ForI J g ts D σ H1) : tFor wi g ts D σ H := h
theorem i_iR1 {R : It → Hp → Prop} (h : tA σ H fun vs H1 => ∃ j : Int, vs = [.int j] ∧ -(2 ^ 62) ≤ j ∧ j < 2 ^ 62 ∧ R (Itr 0 j.toNat) H1) : iRng1 tA σ H R := h
theorem i_rng1 {R : Int → Prop} {n : Int} (h1 : -1000000000 ≤ n) (h2 : n ≤ 1000000000) (h : R n) : ∃ j : Int, [V.int n] = [.int j] ∧ -(2 ^ 62) ≤ j ∧ j < 2 ^ 62 ∧ R j := ⟨n, rfl, by omega, by omega, h⟩
theorem i_iR2 {R : It → Hp → Prop} (h : tA σ H fun vs H1 => ∃ i j : Int, vs = [.int i, .int j] ∧ (-(2 ^ 62) ≤ i ∧ i < 2 ^ 62 ∧ -(2 ^ 62) ≤ j ∧ j < 2 ^ 62) ∧ R (Itr i (j - i).toNat) H1) : iRng2 tA σ H R := h
theorem i_rng2 {R : Int → Int → Prop} {m n : Int} (h0 : -1000000000 ≤ m) (h0' : m ≤ 1000000000) (h1 : -1000000000 ≤ n) (h2 : n ≤ 1000000000) (h : R m n) : ∃ i j : Int, [V.int m, V.int n] = [.int i, .int j] ∧ (-(2 ^ 62) ≤ i ∧ i < 2 ^ 62 ∧ -(2 ^ 62) ≤ j ∧ j < 2 ^ 62) ∧ R i j := ⟨m, n, rfl, by omega, h⟩
theorem i_forR {lo : Int} {n : Nat} (I : Nat → L2.St → Hp → Prop) (h0 : I 0 σ H)
    (hs : ∀ (i : Nat) σ' H', i < n → I i σ' H' → g (.int (lo + i)) σ' H' fun σ2 H2 => ts { D with nx := I (i + 1), ct := I (i + 1), bk := D.nx } σ2 H2) (hd : ∀ σ' H', I n σ' H' → D.nx σ' H') : ForI (Itr lo n) g ts D σ H := for_range I h0 hs hd
theorem i_iL {R : It → Hp → Prop} {tl : TE} (h : tl σ H fun x H1 => ∃ a, x = .ref a ∧ (∃ xs, SqL K H1 a xs) ∧ R (Itl K a) H1) : iList K tl σ H R := h
theorem i_itL {R : Addr → Prop} {a : Addr} {xs : List V} (h1 : SqL K H a xs) (h : R a) : ∃ b, V.ref a = .ref b ∧ (∃ xs, SqL K H b xs) ∧ R b := ⟨a, rfl, ⟨xs, h1⟩, h⟩
theorem i_forL {a : Addr} {xs : List V} (I : Nat → L2.St → Hp → Prop) (h0 : I 0 σ H) (hl : ∀ i σ H, i ≤ xs.length → I i σ H → SqL K H a xs)
    (hs : ∀ i x σ' H', xs[i]? = some x → I i σ' H' → g x σ' H' fun σ2 H2 => ts { D with nx := I (i + 1), ct := I (i + 1), bk := D.nx } σ2 H2) (hd : ∀ σ' H', I xs.length σ' H' → D.nx σ' H') : ForI (Itl K a) g ts D σ H := for_list I h0 hl hs hd
theorem i_iT {R : It → Hp → Prop} {tl : TE} (h : tl σ H fun x H1 => ∃ a, x = .ref a ∧ (∃ xs, SqT K H1 a xs) ∧ R (Itt K a) H1) : iTup K tl σ H R := h
theorem i_itT {R : Addr → Prop} {a : Addr} {xs : List V} (h1 : Tp K H a xs) (h : R a) : ∃ b, V.ref a = .ref b ∧ (∃ xs, SqT K H b xs) ∧ R b := ⟨a, rfl, ⟨xs, h1.sq⟩, h⟩
theorem i_forT {a : Addr} {xs : List V} (I : Nat → L2.St → Hp → Prop) (h0 : I 0 σ H) (hl : ∀ i σ H, i ≤ xs.length → I i σ H → Tp K H a xs)
    (hs : ∀ i x σ' H', xs[i]? = some x → I i σ' H' → g x σ' H' fun σ2 H2 => ts { D with nx := I (i + 1), ct := I (i + 1), bk := D.nx } σ2 H2) (hd : ∀ σ' H', I xs.length σ' H' → D.nx σ' H') : ForI (Itt K a) g ts D σ H := for_tup I h0 (fun i σ H a b => (hl i σ H a b).sq) hs hd
end
end Pm

/-! Plain mathematics of parts: Rat of core. -/
namespace Pm
theorem gcd_turn (x y : Int) (hy : 0 < y) : Int.gcd y (x.fmod y) = Int.gcd x y := by
  rw [Int.fmod_eq_emod_of_nonneg x (by omega), Int.gcd_comm y (x % y)]
  conv => rhs; rw [← Int.emod_add_mul_ediv x y]
  rw [Int.gcd_add_mul_left_left]
theorem gcd_turn' (x y : Int) (hy : 0 < y) : Int.gcd y (x % y) = Int.gcd x y := by
  rw [← gcd_turn x y hy, Int.fmod_eq_emod_of_nonneg x (by omega)]
theorem gcd_abs (a b : Int) : Int.gcd (a.natAbs : Int) (b.natAbs : Int) = Int.gcd a b := by
  simp [Int.gcd]
theorem gcd_pos {a b : Int} (h : b ≠ 0) : 0 < Int.gcd a b := Int.gcd_pos_of_ne_zero_right a h
theorem fdiv_gcd_pos (a g : Int) (hg : 0 < g) : a.fdiv g = a / g := Int.fdiv_eq_ediv_of_nonneg a (by omega)
theorem fdiv_neg_dvd (a g : Int) (hg : 0 < g) (h : g ∣ a) : a.fdiv (0 - g) = (-a) / g := by
  obtain ⟨c, rfl⟩ := h
  have e : g * c = (0 - g) * (-c) := by rw [Int.zero_sub, Int.neg_mul_neg]
  have e2 : -(g * c) = g * (-c) := by rw [Int.mul_neg]
  rw [e2, Int.mul_ediv_cancel_left _ (by omega), e, Int.mul_fdiv_cancel_left _ (by omega)]
theorem num_pos {a b : Int} (h : 0 < b) : (Rat.divInt a b).num = a.fdiv (Int.gcd a b) := by
  rw [Rat.num_divInt, Int.sign_eq_one_of_pos h, Int.one_mul, Int.gcd_comm, fdiv_gcd_pos]
  exact_mod_cast gcd_pos (by omega)
theorem den_pos {a b : Int} (h : 0 < b) : ((Rat.divInt a b).den : Int) = b.fdiv (Int.gcd a b) := by
  have hg := gcd_pos (a := a) (b := b) (by omega)
  rw [Rat.den_divInt, if_neg (by omega), Int.gcd_comm b a, fdiv_gcd_pos _ _ (by exact_mod_cast hg), Int.natCast_ediv]
  congr 1
  omega
theorem num_neg {a b : Int} (h : b < 0) : (Rat.divInt a b).num = a.fdiv (0 - (Int.gcd a b : Int)) := by
  have hg := gcd_pos (a := a) (b := b) (by omega)
  rw [Rat.num_divInt, Int.sign_eq_neg_one_of_neg h, fdiv_neg_dvd _ _ (by exact_mod_cast hg) (Int.gcd_dvd_left a b), Int.gcd_comm]
  congr 1
  omega
theorem den_neg {a b : Int} (h : b < 0) : ((Rat.divInt a b).den : Int) = b.fdiv (0 - (Int.gcd a b : Int)) := by
  have hg := gcd_pos (a := a) (b := b) (by omega)
  rw [Rat.den_divInt, if_neg (by omega), fdiv_neg_dvd _ _ (by exact_mod_cast hg) (Int.gcd_dvd_right a b), Int.gcd_comm b a, Int.natCast_ediv]
  congr 1
  omega
theorem num_law {a b : Int} (h : b ≠ 0) : (Rat.divInt a b).num = ((if 0 < b then 1 else -1) * a).fdiv (Int.gcd a b) := by
  have hg := gcd_pos (a := a) (b := b) h
  rw [Rat.num_divInt, Int.gcd_comm b a, fdiv_gcd_pos _ _ (by exact_mod_cast hg)]
  by_cases hb : 0 < b
  · rw [if_pos hb, Int.sign_eq_one_of_pos hb]
  · rw [if_neg hb, Int.sign_eq_neg_one_of_neg (by omega)]
theorem den_law {a b : Int} (h : b ≠ 0) : ((Rat.divInt a b).den : Int) = (b.natAbs : Int).fdiv (Int.gcd a b) := by
  have hg := gcd_pos (a := a) (b := b) h
  rw [Rat.den_divInt, if_neg h, Int.gcd_comm b a, fdiv_gcd_pos _ _ (by exact_mod_cast hg), Int.natCast_ediv]
/-! sizes -/
/-- top and bottom of at most n bits -/
def Bd (n : Nat) (q : Rat) : Prop := q.num.natAbs < 2 ^ n ∧ q.den < 2 ^ n
theorem Bd.mono {n m : Nat} {q : Rat} (h : Bd n q) (e : n ≤ m) : Bd m q := ⟨Nat.lt_of_lt_of_le h.1 (Nat.pow_le_pow_right (by decide) e), Nat.lt_of_lt_of_le h.2 (Nat.pow_le_pow_right (by decide) e)⟩
theorem num_le {a b : Int} (h : b ≠ 0) : (Rat.divInt a b).num.natAbs ≤ a.natAbs := by
  rw [num_law h]
  have hg := gcd_pos (a := a) (b := b) h
  rw [fdiv_gcd_pos _ _ (by exact_mod_cast hg)]
  have z : ((if 0 < b then 1 else -1) * a).natAbs = a.natAbs := by split <;> omega
  rw [← z]
  have hd : ((Int.gcd a b : Nat) : Int) ∣ (if 0 < b then 1 else -1) * a := Int.dvd_trans (Int.gcd_dvd_left a b) (Int.dvd_mul_left _ _)
  rw [Int.natAbs_ediv_of_dvd hd]
  exact Nat.div_le_self _ _
theorem den_le {a b : Int} (h : b ≠ 0) : (Rat.divInt a b).den ≤ b.natAbs := by
  have e := den_law (a := a) h
  have hg := gcd_pos (a := a) (b := b) h
  rw [fdiv_gcd_pos _ _ (by exact_mod_cast hg)] at e
  have e2 : (Rat.divInt a b).den = b.natAbs / Int.gcd a b := by exact_mod_cast e
  rw [e2]
  exact Nat.div_le_self _ _
theorem bd_divInt {a b : Int} {n : Nat} (h : b ≠ 0) (ha : a.natAbs < 2 ^ n) (hb : b.natAbs < 2 ^ n) : Bd n (Rat.divInt a b) := ⟨Nat.lt_of_le_of_lt (num_le h) ha, Nat.lt_of_le_of_lt (den_le h) hb⟩
theorem mul_lt2 {a b : Int} {n m : Nat} (ha : a.natAbs < 2 ^ n) (hb : b.natAbs < 2 ^ m) : (a * b).natAbs < 2 ^ (n + m) := by
  rw [Int.natAbs_mul, Nat.pow_add]
  exact Nat.mul_lt_mul'' ha hb
theorem den_ne (q : Rat) : ((q.den : Nat) : Int) ≠ 0 := by have := q.den_nz; omega
theorem den_gt (q : Rat) : 0 < ((q.den : Nat) : Int) := by have := q.den_pos; omega
theorem add_eq (p q : Rat) : p + q = Rat.divInt (p.num * q.den + q.num * p.den) (p.den * q.den) := by
  conv => lhs; rw [← Rat.num_divInt_den p, ← Rat.num_divInt_den q]
  rw [Rat.divInt_add_divInt _ _ (den_ne p) (den_ne q)]
theorem sub_eq (p q : Rat) : p - q = Rat.divInt (p.num * q.den - q.num * p.den) (p.den * q.den) := by
  conv => lhs; rw [← Rat.num_divInt_den p, ← Rat.num_divInt_den q]
  rw [Rat.divInt_sub_divInt _ _ (den_ne p) (den_ne q)]
theorem mul_eq (p q : Rat) : p * q = Rat.divInt (p.num * q.num) (p.den * q.den) := by
  conv => lhs; rw [← Rat.num_divInt_den p, ← Rat.num_divInt_den q]
  rw [Rat.divInt_mul_divInt]
theorem num_ne {q : Rat} (h : q ≠ 0) : q.num ≠ 0 := fun e => h (by rwa [Rat.num_eq_zero] at e)
theorem div_eq (p q : Rat) : p / q = Rat.divInt (p.num * q.den) (p.den * q.num) := by
  conv => lhs; rw [← Rat.num_divInt_den p, ← Rat.num_divInt_den q]
  rw [Rat.div_def, Rat.inv_divInt, Rat.divInt_mul_divInt]
theorem lt_eq (p q : Rat) : p < q ↔ p.num * q.den < q.num * p.den := Rat.lt_iff p q
theorem bd_mul {p q : Rat} {n m : Nat} (hp : Bd n p) (hq : Bd m q) : Bd (n + m) (p * q) := by
  rw [mul_eq]
  refine bd_divInt (Int.mul_ne_zero (den_ne p) (den_ne q)) (mul_lt2 hp.1 hq.1) (mul_lt2 ?_ ?_)
  · simpa using hp.2
  · simpa using hq.2
theorem bd_top {p q : Rat} {n m : Nat} (hp : Bd n p) (hq : Bd m q) : (p.num * q.den).natAbs < 2 ^ (n + m) := mul_lt2 hp.1 (by simpa using hq.2)
theorem bd_bot {p q : Rat} {n m : Nat} (hp : Bd n p) (hq : Bd m q) : ((p.den : Int) * q.den).natAbs < 2 ^ (n + m) := mul_lt2 (by simpa using hp.2) (by simpa using hq.2)
theorem bd_add {p q : Rat} {n m : Nat} (hp : Bd n p) (hq : Bd m q) : Bd (n + m + 1) (p + q) := by
  rw [add_eq]
  have h1 := bd_top hp hq
  have h2 := bd_top hq hp
  have h3 := bd_bot hp hq
  have e : m + n = n + m := Nat.add_comm _ _
  rw [e] at h2
  refine bd_divInt (Int.mul_ne_zero (den_ne p) (den_ne q)) ?_ ?_ <;> rw [Nat.pow_succ] <;> omega
theorem bd_sub {p q : Rat} {n m : Nat} (hp : Bd n p) (hq : Bd m q) : Bd (n + m + 1) (p - q) := by
  rw [sub_eq]
  have h1 := bd_top hp hq
  have h2 := bd_top hq hp
  have h3 := bd_bot hp hq
  have e : m + n = n + m := Nat.add_comm _ _
  rw [e] at h2
  refine bd_divInt (Int.mul_ne_zero (den_ne p) (den_ne q)) ?_ ?_ <;> rw [Nat.pow_succ] <;> omega
theorem bd_div {p q : Rat} {n m : Nat} (hp : Bd n p) (hq : Bd m q) (h : q ≠ 0) : Bd (n + m) (p / q) := by
  rw [div_eq]
  exact bd_divInt (Int.mul_ne_zero (den_ne p) (num_ne h)) (bd_top hp hq) (mul_lt2 (by simpa using hp.2) hq.1)
theorem bd_neg {p : Rat} {n : Nat} (h : Bd n p) : Bd n (-p) := by
  refine ⟨?_, ?_⟩
  · rw [Rat.neg_num, Int.natAbs_neg]; exact h.1
  · rw [Rat.neg_den]; exact h.2
/-- a pair in lowest terms is the part of its worth -/
theorem part_of (a : Int) (b : Int) (hb : 0 < b) (hc : Int.gcd a b = 1) : (Rat.divInt a b).num = a ∧ ((Rat.divInt a b).den : Int) = b := by
  rw [num_pos hb, den_pos hb, hc]
  exact ⟨by simp, by simp⟩
theorem gcd_num_den (q : Rat) : Int.gcd q.num q.den = 1 := by
  have := q.reduced
  simpa [Int.gcd, Nat.Coprime] using this
end Pm

namespace Pm
open PySem PySem.Spec PyProof.Rows L2
/-! ### data that may be shown and compared: how deep, how long -/
theorem list_len (ts : List Str) : (listText ts).length ≤ piled ts + 2 := by
  cases ts with
  | nil => decide
  | cons t r =>
    have h := textFrom_length_pos r 1 (("[" : Str) ++ (if (0 : Nat) > 0 then ", " else "" : String) ++ t) (Nat.succ_pos 0)
    have e : (("[" : Str) ++ (if (0 : Nat) > 0 then ", " else "" : String) ++ t).length = 1 + t.length := by
      rw [strLen_append, strLen_append]
      rfl
    have q : (listText (t :: r)).length = (textFrom 1 (("[" : Str) ++ (if (0 : Nat) > 0 then ", " else "" : String) ++ t) r).length + 1 := by
      show (textFrom 1 _ r ++ _).length = _
      rw [strLen_append]
      rfl
    rw [q, h, e, piled_cons]
    omega
theorem tup_len (ts : List Str) : (tupleText ts).length ≤ piled ts + 3 := by
  have e3 : (((if ts.length == 1 then ",)" else ")" : String) : Str)).length ≤ 2 := by split <;> decide
  unfold tupleText
  rw [strLen_append, strLen_append]
  have e1 : ((("(" : String) : Str)).length = 1 := rfl
  rw [e1]
  by_cases h : ts = []
  · subst h
    have : (Str.join ", " ([] : List Str)).length = 0 := rfl
    omega
  · have := join_length_add ts h
    omega
structure Ok (n m : Nat) (d : PyData) : Prop where
  sh : d.showable = true
  cl : d.canLay0 = true
  dp : d.depth ≤ n
  ln : d.shown.length ≤ m
structure OkAll (n m : Nat) (ds : List PyData) : Prop where
  sh : PyData.showableAll ds = true
  cl : PyData.canLayAll0 ds = true
  dp : PyData.depthAll ds ≤ n
  ln : ∀ t ∈ PyData.shownAll ds, t.length ≤ m
theorem Ok.mono {n m n' m' : Nat} {d : PyData} (h : Ok n m d) (a : n ≤ n') (b : m ≤ m') : Ok n' m' d := ⟨h.sh, h.cl, Nat.le_trans h.dp a, Nat.le_trans h.ln b⟩
theorem OkAll.nil {n m : Nat} : OkAll n m [] := ⟨by simp only [PyData.showableAll], by simp only [PyData.canLayAll0], by simp only [PyData.depthAll]; omega, by simp [PyData.shownAll]⟩
theorem OkAll.cons {n m : Nat} {d : PyData} {ds : List PyData} (h : Ok n m d) (r : OkAll n m ds) : OkAll n m (d :: ds) := by
  refine ⟨?_, ?_, ?_, ?_⟩
  · simp only [PyData.showableAll, h.sh, r.sh, Bool.and_self]
  · simp only [PyData.canLayAll0, h.cl, r.cl, Bool.and_self]
  · have a := h.dp
    have b := r.dp
    simp only [PyData.depthAll]
    omega
  · simp only [PyData.shownAll]
    intro t ht
    rcases List.mem_cons.mp ht with e | ht
    · rw [e]; exact h.ln
    · exact r.ln t ht
theorem shownAll_len : ∀ ds : List PyData, (PyData.shownAll ds).length = ds.length
  | [] => by simp only [PyData.shownAll, List.length_nil]
  | d :: ds => by simp only [PyData.shownAll, List.length_cons, shownAll_len ds]
theorem piled_le {m : Nat} : ∀ ts : List Str, (∀ t ∈ ts, t.length ≤ m) → piled ts ≤ ts.length * (m + 2)
  | [], _ => by simp [piled_nil]
  | t :: r, h => by
    have a := h t (List.mem_cons_self ..)
    have b := piled_le r fun u hu => h u (List.mem_cons_of_mem _ hu)
    rw [piled_cons, List.length_cons, Nat.add_mul]
    omega
theorem Ok.int {i : Int} (h : i.natAbs < 2 ^ 1919) : Ok 0 1921 (.int i) := by
  have hl : i.natAbs.log2 < 1920 := Nat.lt_of_lt_of_le (PySem.Flt.log2_lt_of (by decide) h) (by decide)
  refine ⟨by simp only [PyData.showable, hl, decide_true], by simp only [PyData.canLay0], by simp only [PyData.depth]; omega, ?_⟩
  have e := int_text_length_le (a := i) (k := 1920) (by decide) hl
  simp only [PyData.shown]
  rw [PySem.ofString_length]
  omega
theorem Ok.bool (b : Bool) : Ok 0 5 (.bool b) := ⟨by simp only [PyData.showable], by simp only [PyData.canLay0], by simp only [PyData.depth]; omega, by cases b <;> simp only [PyData.shown] <;> decide⟩
theorem Ok.none : Ok 0 4 .none := ⟨by simp only [PyData.showable], by simp only [PyData.canLay0], by simp only [PyData.depth]; omega, by simp only [PyData.shown]; decide⟩
theorem Ok.tup {n m k : Nat} {ds : List PyData} (h : OkAll n m ds) (hk : ds.length ≤ k) : Ok (n + 1) (k * (m + 2) + 3) (.tuple ds) := by
  refine ⟨by simpa only [PyData.showable] using h.sh, by simpa only [PyData.canLay0] using h.cl, by simp only [PyData.depth]; have := h.dp; omega, ?_⟩
  simp only [PyData.shown]
  have a := tup_len (PyData.shownAll ds)
  have b := piled_le _ h.ln
  rw [shownAll_len] at b
  have c : ds.length * (m + 2) ≤ k * (m + 2) := Nat.mul_le_mul_right _ hk
  omega
theorem Ok.lst {n m k : Nat} {ds : List PyData} (h : OkAll n m ds) (hk : ds.length ≤ k) : Ok (n + 1) (k * (m + 2) + 3) (.list ds) := by
  refine ⟨by simpa only [PyData.showable] using h.sh, by simpa only [PyData.canLay0] using h.cl, by simp only [PyData.depth]; have := h.dp; omega, ?_⟩
  simp only [PyData.shown]
  have a := list_len (PyData.shownAll ds)
  have b := piled_le _ h.ln
  rw [shownAll_len] at b
  have c : ds.length * (m + 2) ≤ k * (m + 2) := Nat.mul_le_mul_right _ hk
  omega
theorem Ok.shaped {n m : Nat} {d : PyData} (h : Ok n m d) (hn : n ≤ 60) : SeqAt.shaped d = true := by
  unfold SeqAt.shaped
  rw [h.cl, decide_eq_true (show d.depth ≤ 64 by have := h.dp; omega)] <;> rfl
theorem Ok.noDict {n m : Nat} {d : PyData} (h : Ok n m d) : d.hasDict = false := PyData.hasDict_of_canLay d h.cl
/-! shape alone -/
structure Sh (n : Nat) (d : PyData) : Prop where
  cl : d.canLay0 = true
  dp : d.depth ≤ n
structure ShAll (n : Nat) (ds : List PyData) : Prop where
  cl : PyData.canLayAll0 ds = true
  dp : PyData.depthAll ds ≤ n
theorem Sh.int {n : Nat} (i : Int) : Sh n (.int i) := ⟨by simp only [PyData.canLay0], by simp only [PyData.depth]; omega⟩
theorem Sh.bool {n : Nat} (b : Bool) : Sh n (.bool b) := ⟨by simp only [PyData.canLay0], by simp only [PyData.depth]; omega⟩
theorem Sh.none {n : Nat} : Sh n .none := ⟨by simp only [PyData.canLay0], by simp only [PyData.depth]; omega⟩
theorem ShAll.nil {n : Nat} : ShAll n [] := ⟨by simp only [PyData.canLayAll0], by simp only [PyData.depthAll]; omega⟩
theorem ShAll.cons {n : Nat} {d : PyData} {ds : List PyData} (h : Sh n d) (r : ShAll n ds) : ShAll n (d :: ds) :=
  ⟨by simp only [PyData.canLayAll0, h.cl, r.cl, Bool.and_self], by have a := h.dp; have b := r.dp; simp only [PyData.depthAll]; omega⟩
theorem Sh.tup {n : Nat} {ds : List PyData} (h : ShAll n ds) : Sh (n + 1) (.tuple ds) := ⟨by simpa only [PyData.canLay0] using h.cl, by simp only [PyData.depth]; have := h.dp; omega⟩
theorem Sh.lst {n : Nat} {ds : List PyData} (h : ShAll n ds) : Sh (n + 1) (.list ds) := ⟨by simpa only [PyData.canLay0] using h.cl, by simp only [PyData.depth]; have := h.dp; omega⟩
theorem Sh.shaped {n : Nat} {d : PyData} (h : Sh n d) (hn : n ≤ 60) : SeqAt.shaped d = true := by
  unfold SeqAt.shaped
  rw [h.cl, decide_eq_true (show d.depth ≤ 64 by have := h.dp; omega)] <;> rfl
theorem ShAll.ints {n : Nat} : ∀ ns : List Int, ShAll n (ns.map PyData.int)
  | [] => .nil
  | i :: r => .cons (.int i) (ShAll.ints r)
theorem Bd.n {n : Nat} {q : Rat} (h : Bd n q) : q.num.natAbs < 2 ^ n := h.1
theorem Bd.d {n : Nat} {q : Rat} (h : Bd n q) : ((q.den : Nat) : Int).natAbs < 2 ^ n := by simpa using h.2
/-! data that the heap bears -/
section
variable {K : PySem.W.Frag} {H H' : Hp}
theorem dp_ints : ∀ ns : List Int, DpAll K H (ns.map V.int) (ns.map PyData.int)
  | [] => .nil
  | i :: r => .cons (.int i) (dp_ints r)
theorem eqv_ints_nil (ns : List Int) : PyData.eqv (.list (ns.map PyData.int)) (.list []) = ns.isEmpty := by
  cases ns <;> simp [PyData.eqv, PyData.eqvAll]
/-- the datum of a part -/
def dP (q : Rat) : PyData := .tuple [.int q.num, .int (q.den : Int)]
theorem dp_P {p : Addr} {q : Rat} (h : Tp K H p [.int q.num, .int (q.den : Int)]) : Dp K H (.ref p) (dP q) := .tup h.sq (.cons (.int _) (.cons (.int _) .nil))
theorem sh_P {n : Nat} (q : Rat) : Sh (n + 1) (dP q) := .tup (.cons (.int _) (.cons (.int _) .nil))
theorem ok_P {q : Rat} (h : Bd 1919 q) : Ok 1 4000 (dP q) := (Ok.tup (k := 2) (.cons (.int h.1) (.cons (.int (Bd.d h)) .nil)) (Nat.le_refl 2)).mono (by decide) (by decide)
theorem eqv_P (p q : Rat) : PyData.eqv (dP p) (dP q) = decide (p = q) := by
  have e : (p.num = q.num ∧ ((p.den : Nat) : Int) = (q.den : Int)) ↔ p = q := ⟨fun ⟨a, b⟩ => Rat.ext a (by exact_mod_cast b), fun e => by rw [e]; exact ⟨rfl, rfl⟩⟩
  simp only [dP, PyData.eqv, PyData.eqvAll, Bool.and_true]
  rw [Bool.eq_iff_iff, decide_eq_true_iff, ← e]
  simp
end
end Pm

namespace Pm
open PySem PySem.Spec PyProof.Rows L2
section
variable {K : PySem.W.Frag} {σ : L2.St} {H : Hp} {Q : VK} {te to ti : TE} {tt : TT} {ts : TS} {D : Ends} {v x y : V} {g : TG} {tA : TA} {tl th : TO} {vs : List Nat}
/-! slices -/
theorem i_sl {r : V → Option Int → Option Int → Hp → VK → Prop} (h : te σ H fun x H1 => tl σ H1 fun l H2 => th σ H2 fun u H3 => r x l u H3 Q) : tSl r te tl th σ H Q := h
theorem i_no {QO : Option Int → Hp → Prop} (h : QO none H) : tNoPart σ H QO := h
theorem i_so {QO : Option Int → Hp → Prop} (h : te σ H fun x H1 => ∃ i, x = .int i ∧ QO (some i) H1) : tPart te σ H QO := h
theorem i_exI {R : Int → Prop} {i : Int} (h : R i) : ∃ j, V.int i = .int j ∧ R j := ⟨i, rfl, h⟩
theorem i_exB {R : Bool → Prop} {i : Bool} (h : R i) : ∃ j, V.bl i = .bl j ∧ R j := ⟨i, rfl, h⟩
theorem i_slL {p : Addr} {xs : List V} {lo hi : Option Int} (h1 : SqL K H p xs) (h : ∀ a H', New H a → Same H H' → H' a = some (.lst (cutV xs lo hi)) → Q (.ref a) H') : rSlL K (.ref p) lo hi H Q := ⟨p, xs, rfl, h1, i_new h⟩
theorem cut_all {xs : List V} {n : Nat} (h : xs.length ≤ n) : cutV xs none (some (n : Int)) = xs := by
  unfold cutV
  rw [show HT.sIx xs.length xs.length (some (n : Int)) = min n xs.length from HT.sIx_nat _ _ _, HT.sIx_none]
  rw [Nat.min_eq_right h]
  simp
theorem cut63 {xs : List V} (h : xs.length ≤ 63) : cutV xs none (some 63) = xs := cut_all (n := 63) h
/-! for a, b in enumerate(list) -/
theorem i_iE {R : It → Hp → Prop} (h : tA σ H fun vs H1 => ∃ a xs, vs = [.ref a] ∧ SqL K H1 a xs ∧ R (Ite K a) H1) : iEnum K tA σ H R := h
theorem i_itE {R : Addr → Prop} {a : Addr} {xs : List V} (h1 : SqL K H a xs) (h : R a) : ∃ b ys, [V.ref a] = [.ref b] ∧ SqL K H b ys ∧ R b := ⟨a, xs, rfl, h1, h⟩
theorem i_forE {a : Addr} {xs : List V} (I : Nat → L2.St → Hp → Prop) (h0 : I 0 σ H) (hl : ∀ i σ H, i ≤ xs.length → I i σ H → SqL K H a xs)
    (hs : ∀ i x σ' H0 T H', xs[i]? = some x → I i σ' H0 → New H0 T → Same H0 H' → H' T = some (.tup [.int (i : Nat), x]) → g (.ref T) σ' H' fun σ2 H2 => ts { D with nx := I (i + 1), ct := I (i + 1), bk := D.nx } σ2 H2)
    (hd : ∀ σ' H', I xs.length σ' H' → D.nx σ' H') : ForI (Ite K a) g ts D σ H := by
  refine ⟨fun i m σ H => m = xs.length - i ∧ i ≤ xs.length ∧ I i σ H, ⟨_, rfl, Nat.zero_le _, h0⟩, ?_⟩
  rintro i m σ' H' ⟨rfl, hi, hI⟩
  have hL := hl i σ' H' hi hI
  by_cases c : i < xs.length
  · refine .inr ⟨⟨xs, xs[i], hL, List.getElem?_eq_getElem c⟩, fun σ2 H2 => I (i + 1) σ2 H2, fun σ2 H2 h2 => ⟨xs.length - (i + 1), by omega, rfl, by omega, h2⟩, ?_⟩
    rintro x H2 ⟨T, x', rfl, nT, rfl, hx⟩
    exact hs i x' σ' H' T _ (hx xs hL) hI nT (same_new nT) upd_same
  · have e : i = xs.length := by omega
    subst e
    exact .inl ⟨⟨xs, hL, Nat.le_refl _⟩, hd σ' H' hI⟩
/-! unpacking a tuple -/
theorem i_gtup {n : Nat} {t : TGs} {N : L2.St → Hp → Prop} {p : Addr} {xs : List V} (h1 : Tp K H p xs) (hl : xs.length = n) (h : t xs σ H N) : gTup K n t (.ref p) σ H N := ⟨p, xs, rfl, h1.sq, hl, h⟩
theorem i_gcons {t : TG} {u : TGs} {N : L2.St → Hp → Prop} {r : List V} (h : t v σ H fun σ' H' => u r σ' H' N) : gCons t u (v :: r) σ H N := ⟨v, r, rfl, h⟩
theorem i_gnil {N : L2.St → Hp → Prop} (h : N σ H) : gNil [] σ H N := ⟨rfl, h⟩
/-! comprehensions -/
/-- what a comprehension asks once what it walks is known -/
def LcI (J : It) (g : TG) (tt : TT) (te : TE) (vs : List Nat) (Q : VK) (σ : L2.St) (H : Hp) : Prop := ∀ A, H A = none → ∃ W : Nat → Nat → Hp → Prop, (∃ m, W 0 m (upd H A (.lst []))) ∧ ∀ i m H, W i m H →
  (J.stop i H ∧ Q (.ref A) H) ∨ (J.go i H ∧ ∃ Nx : Hp → Prop, (∀ H', Nx H' → ∃ m', m' < m ∧ W (i + 1) m' H') ∧ ∀ x H', J.yld i H x H' → g x (wipe σ vs) H' fun σ2 H2 => wipe σ2 vs = wipe σ vs ∧ tt σ2 H2 fun b H3 =>
    if b = true then te σ2 H3 fun y H4 => ∃ acc, H4 A = some (.lst acc) ∧ acc.length < sizeLine ∧ Nx (upd H4 A (.lst (acc ++ [y]))) else Nx H3)
theorem i_lc {wi : TI} (h : wi σ H fun J H1 => LcI J g tt te vs Q σ H1) : tLc wi g tt te vs σ H Q := h
/-- behind a turn: what stood stands, the new list holds ys -/
structure LcP (A : Addr) (H0 : Hp) (ys : List V) (H' : Hp) : Prop where
  same : Same H0 H'
  list : H' A = some (.lst ys)
/-- the element is put to the list -/
def LcY (A : Addr) (H0 : Hp) (ys : List V) (y : V) (H4 : Hp) : Prop := ∃ acc, H4 A = some (.lst acc) ∧ acc.length < sizeLine ∧ LcP A H0 ys (upd H4 A (.lst (acc ++ [y])))
theorem lc_yes {A : Addr} {H0 H4 : Hp} {acc ys : List V} {y : V} (hn : New H0 A) (h : H4 A = some (.lst acc)) (e : ys = acc ++ [y]) (hl : acc.length ≤ 100000) (s : Same H0 H4) : LcY A H0 ys y H4 := by
  subst e
  exact ⟨acc, h, Nat.lt_of_le_of_lt hl (by decide), fun b o z => by rw [upd_ne (ne_of_none z hn)]; exact s b o z, upd_same⟩
theorem lc_no {A : Addr} {H0 H4 : Hp} {acc ys : List V} (h : H4 A = some (.lst acc)) (e : ys = acc) (s : Same H0 H4) : LcP A H0 ys H4 := by
  subst e
  exact ⟨s, h⟩
theorem i_lcL {a : Addr} {xs : List V} (h1 : SqL K H a xs) (out : Nat → List V) (h0 : out 0 = [])
    (hs : ∀ A i x H', New H A → xs[i]? = some x → i < xs.length → Same H H' → H' A = some (.lst (out i)) → g x (wipe σ vs) H' fun σ2 H2 => wipe σ2 vs = wipe σ vs ∧ tt σ2 H2 fun b H3 =>
      if b = true then te σ2 H3 fun y H4 => LcY A H (out (i + 1)) y H4 else LcP A H (out (i + 1)) H3)
    (h : ∀ A H', New H A → Same H H' → H' A = some (.lst (out xs.length)) → Q (.ref A) H') : LcI (Itl K a) g tt te vs Q σ H := by
  intro A hA
  refine lc_list (a := a) (xs := xs) (fun i H' => LcP A H (out i) H') ⟨same_new hA, by rw [h0]; exact upd_same⟩ (fun i H' _ p => b_L p.same h1) (fun i x H' hx p => ?_) fun H' p => h A H' hA p.same p.list
  exact hs A i x H' hA hx (List.getElem?_eq_some_iff.mp hx).1 p.same p.list
theorem i_lcT {a : Addr} {xs : List V} (h1 : Tp K H a xs) (out : Nat → List V) (h0 : out 0 = [])
    (hs : ∀ A i x H', New H A → xs[i]? = some x → i < xs.length → Same H H' → H' A = some (.lst (out i)) → g x (wipe σ vs) H' fun σ2 H2 => wipe σ2 vs = wipe σ vs ∧ tt σ2 H2 fun b H3 =>
      if b = true then te σ2 H3 fun y H4 => LcY A H (out (i + 1)) y H4 else LcP A H (out (i + 1)) H3)
    (h : ∀ A H', New H A → Same H H' → H' A = some (.lst (out xs.length)) → Q (.ref A) H') : LcI (Itt K a) g tt te vs Q σ H := by
  intro A hA
  refine lc_tup (a := a) (xs := xs) (fun i H' => LcP A H (out i) H') ⟨same_new hA, by rw [h0]; exact upd_same⟩ (fun i H' _ p => (Tp.mono p.same h1).sq) (fun i x H' hx p => ?_) fun H' p => h A H' hA p.same p.list
  exact hs A i x H' hA hx (List.getElem?_eq_some_iff.mp hx).1 p.same p.list
theorem i_lcR {lo : Int} {n : Nat} (out : Nat → List V) (h0 : out 0 = [])
    (hs : ∀ A i H', New H A → i < n → Same H H' → H' A = some (.lst (out i)) → g (.int (lo + i)) (wipe σ vs) H' fun σ2 H2 => wipe σ2 vs = wipe σ vs ∧ tt σ2 H2 fun b H3 =>
      if b = true then te σ2 H3 fun y H4 => LcY A H (out (i + 1)) y H4 else LcP A H (out (i + 1)) H3)
    (h : ∀ A H', New H A → Same H H' → H' A = some (.lst (out n)) → Q (.ref A) H') : LcI (Itr lo n) g tt te vs Q σ H := by
  intro A hA
  refine lc_range (fun i H' => LcP A H (out i) H') ⟨same_new hA, by rw [h0]; exact upd_same⟩ (fun i H' hi p => ?_) fun H' p => h A H' hA p.same p.list
  exact hs A i H' hA hi p.same p.list
theorem i_yes {QB : Bool → Hp → Prop} (h : QB true H) : tYes σ H QB := h
/-! powers that are written -/
theorem i_pow {a b c : Int} (hc : CPow a b) (e : a ^ b.toNat = c) (h : Q (.int c) H) : rI CPow (fun i j => V.int (i ^ j.toNat)) (.int a) (.int b) H Q := ⟨a, b, rfl, rfl, hc, by show Q (.int (a ^ b.toNat)) H; rw [e]; exact h⟩
theorem i_pow6 (h : Q (.int 1000000) H) : rI CPow (fun i j => V.int (i ^ j.toNat)) (.int 10) (.int 6) H Q := i_pow ⟨by decide, by decide, by decide⟩ (by decide) h
theorem i_pow18 (h : Q (.int 1000000000000000000) H) : rI CPow (fun i j => V.int (i ^ j.toNat)) (.int 10) (.int 18) H Q := i_pow ⟨by decide, by decide, by decide⟩ (by decide) h
theorem i_pow30 (h : Q (.int 1000000000000000000000000000000) H) : rI CPow (fun i j => V.int (i ^ j.toNat)) (.int 10) (.int 30) H Q := i_pow ⟨by decide, by decide, by decide⟩ (by decide) h
/-- the numbers that a comprehension with a test keeps -/
def kept (f : Int → Int) (p : Int → Bool) (ns : List Int) (i : Nat) : List V := (((ns.take i).map f).filter p).map V.int
theorem kept_yes {f : Int → Int} {p : Int → Bool} {ns : List Int} {i : Nat} {c : Int} (h : ns[i]? = some c) (hp : p (f c) = true) : kept f p ns (i + 1) = kept f p ns i ++ [V.int (f c)] := by
  unfold kept
  rw [List.take_add_one, h]
  simp [hp]
theorem kept_no {f : Int → Int} {p : Int → Bool} {ns : List Int} {i : Nat} {c : Int} (h : ns[i]? = some c) (hp : p (f c) = false) : kept f p ns (i + 1) = kept f p ns i := by
  unfold kept
  rw [List.take_add_one, h]
  simp [hp]
theorem kept_len (f : Int → Int) (p : Int → Bool) (ns : List Int) (i : Nat) : (kept f p ns i).length ≤ ns.length := by
  unfold kept
  rw [List.length_map]
  refine Nat.le_trans (List.length_filter_le _ _) ?_
  rw [List.length_map, List.length_take]
  exact Nat.min_le_right _ _
theorem i_powV {a b : Int} (hc : CPow a b) (h : ∀ c : Int, c = a ^ b.toNat → Q (.int c) H) : rI CPow (fun i j => V.int (i ^ j.toNat)) (.int a) (.int b) H Q := ⟨a, b, rfl, rfl, hc, h _ rfl⟩
/-- x % m, m above 0 -/
theorem i_mod {a m : Int} (hm : 0 < m) (h : ∀ d : Int, 0 ≤ d → d < m → d = a % m → Q (.int d) H) : rI (fun _ j => j ≠ 0) (fun i j => V.int (i.fmod j)) (.int a) (.int m) H Q :=
  i_I (show m ≠ 0 by omega) (by
    have e : a.fmod m = a % m := Int.fmod_eq_emod_of_nonneg a (by omega)
    rw [e]
    exact h _ (Int.emod_nonneg _ (by omega)) (Int.emod_lt_of_pos _ hm) rfl)
theorem at_ints {ns : List Int} {j : Int} (h0 : 0 ≤ j) (h1 : j < ns.length) : ∃ c, c ∈ ns ∧ atI (ns.map V.int) j = some (.int c) := by
  obtain ⟨k, rfl⟩ : ∃ k : Nat, j = k := ⟨j.toNat, by omega⟩
  have hk : k < ns.length := by omega
  exact ⟨ns[k], List.getElem_mem hk, atI_nat (by rw [List.getElem?_map, List.getElem?_eq_getElem hk]; rfl)⟩
/-- an item of a list of numbers at a place that isn't written -/
theorem i_ixN {p : Addr} {xs : List V} {ns : List Int} {j : Int} (h1 : SqL K H p xs) (e : xs = ns.map V.int) (h0 : 0 ≤ j) (h2 : j < ns.length) (h : ∀ c : Int, c ∈ ns → Q (.int c) H) : rIx K (.ref p) (.int j) H Q := by
  obtain ⟨c, hc, ha⟩ := at_ints h0 h2
  subst e
  exact i_ixL h1 ha (h c hc)
/-- the ways of a statement meet again -/
theorem i_cut (Ex : L2.St → Hp → Prop) (h : ∀ N : L2.St → Hp → Prop, (∀ σ H, Ex σ H → N σ H) → ts { D with nx := N } σ H) (k : ∀ σ H, Ex σ H → D.nx σ H) : ts D σ H := h D.nx k
theorem i_cutE (Ex : V → Hp → Prop) (h : ∀ Q' : VK, (∀ v H, Ex v H → Q' v H) → te σ H Q') (k : ∀ v H, Ex v H → Q v H) : te σ H Q := h Q k
theorem ixN_at {n j : Nat} (hj : j < n) : ixN n (j : Int) = some j := by
  unfold ixN
  rw [if_pos (by omega), if_pos (by omega)]
  simp
/-- a list of numbers, item by item -/
inductive IntL : List V → List Int → Prop
  | nil : IntL [] []
  | cons {a : Int} {xs : List V} {ns : List Int} : IntL xs ns → IntL (.int a :: xs) (a :: ns)
theorem IntL.eq {xs : List V} {ns : List Int} (h : IntL xs ns) : xs = ns.map V.int := by
  induction h with
  | nil => rfl
  | cons _ ih => rw [ih]; rfl
theorem i_ixM {p : Addr} {xs : List V} {ns : List Int} {j : Int} (h1 : SqL K H p xs) (e : IntL xs ns) (h0 : 0 ≤ j) (h2 : j < ns.length) (h : ∀ c : Int, c ∈ ns → Q (.int c) H) : rIx K (.ref p) (.int j) H Q := i_ixN h1 e.eq h0 h2 h
/-! methods of lists, items stored -/
theorem i_bm {T : String} {r : V → List V → Hp → VK → Prop} (h : to σ H fun x H1 => tyV K T x H1 ∧ tA σ H1 fun xs H2 => r x xs H2 Q) : tBM K T r to tA σ H Q := h
theorem i_bmL {r : V → List V → Hp → VK → Prop} {p : Addr} {xs : List V} (h1 : H p = some (.lst xs)) (h : tA σ H fun ys H2 => r (.ref p) ys H2 Q) : tyV K "list" (.ref p) H ∧ tA σ H fun ys H2 => r (.ref p) ys H2 Q := ⟨.inl ⟨rfl, xs, SqL.of h1⟩, h⟩
theorem i_append {p : Addr} {xs : List V} (h1 : H p = some (.lst xs)) (hl : xs.length ≤ 100000) (h : ∀ H', Fx p p H H' → H' p = some (.lst (xs ++ [v])) → Q .non H') : rAppend (.ref p) [v] H Q :=
  ⟨p, xs, v, rfl, rfl, h1, Nat.lt_of_le_of_lt hl (by decide), h _ (fx_upd h1) upd_same⟩
theorem i_pop0 {p : Addr} {z : V} {xs : List V} (h1 : H p = some (.lst (z :: xs))) (h : Q z (upd H p (.lst xs))) : rPopAt (.ref p) [.int 0] H Q :=
  ⟨p, z :: xs, 0, 0, z, rfl, rfl, h1, by decide, by decide, seqIndex_of (by decide) (by rw [List.length_cons]; omega), rfl, h⟩
theorem i_gsub {to ti : TE} {s : TSet} {N : L2.St → Hp → Prop} (h : to σ H fun o H1 => ti σ H1 fun i H2 => s o i v H2 fun H3 => N σ H3) : gSub to ti s v σ H N := h
theorem i_setL {p : Addr} {xs : List V} {k : Int} {j : Nat} {NH : Hp → Prop} (h1 : H p = some (.lst xs)) (e : ixN xs.length k = some j) (h : NH (upd H p (.lst (xs.set j v)))) : rSetL (.ref p) (.int k) v H NH := ⟨p, xs, k, j, rfl, rfl, h1, e, h⟩
end
end Pm

namespace Pm
open PySem PySem.Spec PyProof.Rows L2
/-! ### an exception that was caught, kept by a name -/
/-- the exception of class cls (its own dict at d) stands at a -/
def exHO (cls : Value) (d : Option Addr) (a : Addr) : HO := .ext fun h => ∃ (oe : Obj) (vs : Array Value), h.get? a = some oe ∧ Zc cls d oe ∧ oe.data = .fields vs
section
variable {X : Cx} {pins : List (Addr × Obj)} {σ : L2.St} {H : Hp} {s : Shared}
/-- an object that is nobody's is tracked from here on -/
theorem track {a : Addr} {o : HO} {oe : Obj} {vs : Array Value} (I : Inv X ((a, oe) :: pins) σ H s) (new : X.s_0.heap.get? a = none) (other : ∀ p ∈ X.pn ++ pins, p.1 ≠ a) (hd : oe.data = .fields vs)
    (ob : ObjOk X.prog X.w (upd H a o) s.heap a o) : Inv X pins σ (upd H a o) s := by
  obtain ⟨ha, na, nL, nF, _⟩ := I.pin (a, oe) (List.mem_append_right _ (List.mem_cons_self ..))
  have ne : ∀ b u, H b = some u → b ≠ a := fun b u q z => by
    subst z
    rw [na] at q
    cases q
  have old : ∀ b u, X.s_0.heap.get? b = some u → b ≠ a := fun b u q z => by
    subst z
    rw [new] at q
    cases q
  have B := I.base
  exact {
    ok := I.ok, os := I.os, bare := I.bare, loc := I.loc, cell := I.cell, len := I.len
    base := { keep := B.keep, slot := B.slot, there := B.there
              free := fun b u q n x => by rw [upd_ne (old b u q)]; exact B.free b u q n x
              tups := fun b xs q => by rw [upd_ne (ne _ _ (B.tups b xs q))]; exact B.tups b xs q
              frzs := fun b u xs q => by rw [upd_ne (ne _ _ (B.frzs b u xs q))]; exact B.frzs b u xs q
              tbls := fun b ps q => by
                obtain ⟨m, z⟩ := B.tbls b ps q
                exact ⟨m, by rw [upd_ne (ne _ _ z)]; exact z⟩ }
    free := by rw [upd_ne (Ne.symm nL)]; exact I.free
    freeC := fun x c q => by
      have hc : c ≠ a := fun z => by
        subst z
        obtain ⟨v, oc, e1, e2⟩ := I.cell x c q
        rw [ha] at e1
        injection e1 with e1
        rw [← e1, hd] at e2
        cases e2
      rw [upd_ne hc]
      exact I.freeC x c q
    pin := fun p hp => by
      have hp2 : p ∈ X.pn ++ (a, oe) :: pins := by
        rcases List.mem_append.mp hp with z | z
        · exact List.mem_append_left _ z
        · exact List.mem_append_right _ (List.mem_cons_of_mem _ z)
      obtain ⟨k1, k2, k3, k4, k5⟩ := I.pin p hp2
      exact ⟨k1, by rw [upd_ne (other p hp)]; exact k2, k3, k4, k5⟩
    hok := fun b u q => by
      by_cases hb : b = a
      · subst hb
        rw [upd_same] at q
        injection q with q
        subst q
        exact ob
      · rw [upd_ne hb] at q
        exact (I.hok b u q).stay (fun _ _ _ z => z) (fun c z => by rw [upd_ne (ne _ _ z)]; exact z) (fun c xs z => by rw [upd_ne (ne _ _ z)]; exact z) }
end
section
variable {X : Cx} {n : Str} {i : Nat} {body suite : List Stmt} {b1 : Stmt} {t : Expr} {T : Value → Prop} {pos pos' : Pos} {tb : WX → TS} {ts : Addr → Value → Option Addr → TS}
/-- a clause's test: it takes every exception whose class T tells; what stood in the heap stands -/
def TestOk (X : Cx) (t : Expr) (T : Value → Prop) : Prop := ∀ (a : Addr) (oe : Obj) (pn : List (Addr × Obj)) (σ : L2.St) (H : Hp) (s : Shared), Inv (X.suite a ((a, oe) :: pn)) [] σ H s → T oe.cls →
  ∀ (Q : Bool → Shared → Prop) (E : Value → Shared → Prop), (∀ h' tk, (∀ b o, s.heap.get? b = some o → h'.get? b = some o) → Q true { s with heap := h', toks := tk }) →
    wpAny (model X.prog X.w) (X.A.mark (some (.ref a))) (eval t X.env) (fun c s2 => wpAny (model X.prog X.w) (X.A.mark (some (.ref a))) (excMatches (.ref a) c) Q E s2) E s
theorem test_one {x : Str} {np : Pos} {c : Value} (hc : Names X x c) (hT : ∀ cls, T cls → PySem.W.exmOne X.K cls c = some true) : TestOk X (.Name x np) T := by
  intro a oe pn σ H s S hcl Q E hq
  obtain ⟨ha, _⟩ := S.pin (a, oe) (List.mem_append_left _ (List.mem_cons_self ..))
  have look : PySem.W.Looks (model X.prog X.w) s.heap (typeOf (.ref a)) oe.cls := fun A Q E s' k q => wpAny_typeOf_ref (k _ _ ha) q
  have fin : wpAny (model X.prog X.w) (X.A.mark (some (.ref a))) (excMatches (.ref a) c) Q E s := (PySem.W.exm_one S.kIn look (hT _ hcl)).here (hq s.heap s.toks fun _ _ z => z)
  obtain ⟨g, db, m | ⟨m, v, nn⟩⟩ := hc
  · exact ld_glob S g m fin db
  · exact ld_blt S g m v fin nn db
theorem fly_keep {B : Heap} {l : List Env} {a : Addr} {Z : Obj → Prop} {h h' : Heap} (k : ∀ b o, h.get? b = some o → h'.get? b = some o) (f : HandSPX.FlyingZ B l a Z h) : HandSPX.FlyingZ B l a Z h' := by
  obtain ⟨f1, f2, f3, oe, vs, T, oT, fs, e1, z, d, e2, nT, ne, e3, d3, fl⟩ := f
  exact ⟨fun b o q => k b o (f1 b o q), f2, f3.of_keeps fun b o q _ => ⟨o, k b o q, rfl⟩, oe, vs, T, oT, fs, k _ _ e1, z, d, e2, nT, ne, k _ _ e3, d3, fl⟩
/-- what the clause asks of an exception of the body: behind the suite the exception is tracked, its name empty -/
def wKeep (T : Value → Prop) (i : Nat) (ts : Addr → Value → Option Addr → TS) (D : Ends) : WX := fun cls d σ H => T cls ∧ ∀ a, New H a →
  ts a cls d { nx := fun σ' H' => D.nx (σ'.set i none) (upd H' a (exHO cls d a)), rt := fun v H' => D.rt v (upd H' a (exHO cls d a)), bk := fun σ' H' => D.bk (σ'.set i none) (upd H' a (exHO cls d a)), ct := fun σ' H' => D.ct (σ'.set i none) (upd H' a (exHO cls d a)) } (σ.set i (some (.ref a))) H
theorem ps_try_keep (hs : X.stack = X.env :: X.outer) (hf : X.env.frame = some X.env.locals) (hex : X.ex = []) (hN : X.N.Nodup) (hi : X.N[i]? = some n) (hn : X.env.kindOf n = some .local) (ht : TestOk X t T)
    (hb : ∀ (W : WX) (pn : List (Addr × Obj)) (xe : Value → Shared → Prop), Takes (X.tr pn xe) W → PassesOwn (model X.prog X.w) X.A X.env xe → PSs (X.tr pn xe) body (tb W))
    (hsu : ∀ (a : Addr) (oe : Obj) (cls : Value) (d : Option Addr) (pn : List (Addr × Obj)), PSs (X.suite a ((a, oe) :: pn)) (b1 :: suite) (ts a cls d)) :
    PS X (.Try body [.ExceptHandler (some t) (some n) (b1 :: suite) pos'] [] [] pos) (fun D σ H => tb (wKeep T i ts D) D σ H) := by
  constructor
  intro pins s σ H D I h
  have ok := I.ok
  have frames : X.A.frames = some (X.env :: X.outer) := ok.frames.trans (congrArg some hs)
  apply wpAny_Try_except
  have run := hb (wKeep T i ts D) (X.pn ++ pins) (fun e s1 => wpAny (model X.prog X.w) X.A (noteFrame e X.env) (fun _ s2 => wpAny (model X.prog X.w) X.A (setFlight e none)
    (fun _ s3 => wpAny (model X.prog X.w) X.A (handleBy e X.env [.ExceptHandler (some t) (some n) (b1 :: suite) pos']) (SP X pins D) X.xe s3) X.xe s2) X.xe s1)
  refine wpAny_mono ((run ?_ PassesOwn.looking).run [] s σ H D (I.toTry _) h) ?_ fun _ _ z => z
  · rintro u s1 ⟨a, B, sI, ps, σ1, H1, cls, d, rfl, J0, nb, up, sky, na, os, gens, hT, want⟩
    have J : Inv X pins σ1 H1 sI := J0.ofTry ok
    rw [hs] at sky
    refine Sky.land Zc.steady frames hf sky ?_
    intro h3 fl3 up3
    obtain ⟨oe3, vs3, at3, z3, dat3⟩ := fl3.there
    have J3 : Inv X pins σ1 H1 { s1 with heap := h3 } := J.landed nb fl3.1 (up.trans up3) os gens
    -- a is none of the frames
    have nofr : a ∉ frs (X.env :: X.outer) := by
      intro hm
      obtain ⟨_, o', e', q⟩ := fl3.2.2.1.mem hm
      rw [at3] at e'
      injection e' with e'
      subst e'
      exact q vs3 dat3
    have nL : a ≠ X.env.locals := fun z => nofr (List.mem_filterMap.mpr ⟨X.env, List.mem_cons_self .., by rw [hf, z]⟩)
    have nF : a ∉ X.fs := by
      intro hm
      obtain ⟨e, he, q⟩ := List.mem_filterMap.mp hm
      exact nofr (List.mem_filterMap.mpr ⟨e, List.mem_cons_of_mem _ he, q⟩)
    -- a is new since the exception's state
    have newI : sI.heap.get? a = none := by
      rcases q : sI.heap.get? a with _ | o
      · rfl
      · have z := nb a o q (by rw [hs]; exact nofr)
        rw [fl3.2.1] at z
        cases z
    have new0 : X.s_0.heap.get? a = none := by
      rcases q : X.s_0.heap.get? a with _ | o
      · rfl
      · obtain ⟨o', z⟩ := J.base.there a o q (by rw [hex]; simp)
        rw [newI] at z
        cases z
    have newP : ∀ p ∈ X.pn ++ pins, p.1 ≠ a := by
      intro p hp z
      obtain ⟨q, _⟩ := J.pin p hp
      rw [z, newI] at q
      cases q
    have S3 := J3.suite at3 dat3 na nL nF
    refine wpAny_handleBy_cons (codeAny_handlers_test ?_) (by intro q; cases q)
    refine ht a oe3 _ σ1 H1 _ S3 (by rw [z3.1]; exact hT) _ _ ?_
    intro h4 tk4 k4
    have fl4 := fly_keep k4 fl3
    apply codeAny_handlers_suite_as
    apply HandSPX.lands_againZ fl4
    intro h5 fl5 up5
    obtain ⟨oe5, vs5, at5, z5, dat5⟩ := fl5.there
    have up4 : h3.UpToSlots h4 := fun b o q _ => ⟨o.slots, k4 b o q⟩
    have J5 : Inv X pins σ1 H1 { s1 with heap := h5, toks := tk4 } := by
      have z := Inv.landed (s' := { s1 with heap := h5, toks := tk4 }) J nb fl5.1 (((up.trans up3).trans up4).trans up5) os gens
      exact z
    refine store_ok (X := X.suite a ((a, oe5) :: (X.pn ++ pins))) (v := .ref a) (J5.suite at5 dat5 na nL nF) hN hi (.inl hn) rfl ?_ (.inr hn)
    intro s6 S6
    refine wpAny_mono ((hsu a oe5 cls d (X.pn ++ pins)).run [] s6 _ H1 _ S6 (want a na)) ?_ fun _ _ z => False.elim z
    intro f s7 hsp
    have fin : ∀ {σ7 : L2.St} {H7 : Hp} {G : Shared → Prop}, Inv (X.suite a ((a, oe5) :: (X.pn ++ pins))) [] σ7 H7 s7 → (∀ s8, Inv X pins (σ7.set i none) (upd H7 a (exHO cls d a)) s8 → G s8) →
        wpAny (model X.prog X.w) X.A (do bindName X.env n .none; unbindBehindTheSuite X.env n pos') (fun _ s8 => G s8) X.xe s7 := by
      intro σ7 H7 G S7 hG
      have P7 : Inv X ((a, oe5) :: pins) σ7 H7 s7 := (S7.unsuite ok).pins_of fun p hp => by
        rcases List.mem_cons.mp hp with e | hp
        · rw [e]
          exact S7.pin (a, oe5) (List.mem_append_left _ (List.mem_cons_self ..))
        · exact S7.pin p (List.mem_append_left _ (List.mem_cons_of_mem _ (List.mem_append_right _ hp)))
      refine gone_ok P7 hN hi hn fun s8 J8 => hG s8 ?_
      obtain ⟨at8, _⟩ := J8.pin (a, oe5) (List.mem_append_right _ (List.mem_cons_self ..))
      exact track J8 new0 newP dat5 ⟨⟨oe5, vs5, at8, z5, dat5⟩, ⟨oe5, at8⟩, fun h1 h2 ⟨o, v, q, r⟩ k => ⟨o, v, k o q, r⟩⟩
    cases f with
    | next =>
      obtain ⟨σ7, H7, S7, q⟩ := hsp
      exact fin S7 fun s8 J8 => ⟨_, _, J8, q⟩
    | brk =>
      obtain ⟨σ7, H7, S7, q⟩ := hsp
      exact fin S7 fun s8 J8 => ⟨_, _, J8, q⟩
    | cont =>
      obtain ⟨σ7, H7, S7, q⟩ := hsp
      exact fin S7 fun s8 J8 => ⟨_, _, J8, q⟩
    | ret u =>
      obtain ⟨v, σ7, H7, S7, r, q⟩ := hsp
      exact fin S7 fun s8 J8 => ⟨v, _, _, J8, r, q⟩
  · intro f s1 hsp
    cases f with
    | next =>
      obtain ⟨σ1, H1, J, q⟩ := hsp
      exact wpAny_execs_nil ⟨σ1, H1, J.ofTry ok, q⟩
    | brk =>
      obtain ⟨σ1, H1, J, q⟩ := hsp
      exact ⟨σ1, H1, J.ofTry ok, q⟩
    | cont =>
      obtain ⟨σ1, H1, J, q⟩ := hsp
      exact ⟨σ1, H1, J.ofTry ok, q⟩
    | ret u =>
      obtain ⟨v, σ1, H1, J, r, q⟩ := hsp
      exact ⟨v, σ1, H1, J.ofTry ok, r, q⟩
end
end Pm

namespace Pm
open PySem PySem.Spec PyProof.Rows L2
/-! ### calls in a try's body -/
def tCallX (sp : Sp) (dvs : List V) (E : L2.St → XK) (t : TA) : TE := fun σ H Q => t σ H fun vs H1 => sp (vs ++ dvs) H1 Q (E σ)
def tCallNX (n m : Nat) (sp : Sp) (gV : List V → List V → List V) (E : L2.St → XK) (t tk : TA) : TE := fun σ H Q => t σ H fun vs H1 => tk σ H1 fun zs H2 => vs.length = n ∧ zs.length = m ∧ sp (gV vs zs) H2 Q (E σ)
section
variable {X : Cx} {CX : CXT} {k n : Nat} {f : Addr} {fd : FuncData} {ps ks : List Str} {sp : Sp} {E : L2.St → XK} {x : Str} {p pos : Pos} {e : Expr} {es : List Expr} {kws : List Keyword} {t tk : TA} {dvs : List V} {gV : List V → List V → List V}
theorem runGX {pins : List (Addr × Obj)} {σ : L2.St} {H : Hp} {s : Shared} {Q : VK} {us us2 : List Value} {kv : List (Str × Value)} {vs : List V} (F : FnG X.prog X.w X.K X.mg X.base CX k f fd ps sp) (hG : X.A.guards = some []) (hr : Room k X.A)
    (hb : BindsTo s fd ⟨us, kv⟩ (ps.zip us2)) (hx : PassesAt CX X σ (E σ)) (I : Inv X pins σ H s) (r : Vals vs us2) (h : sp vs H Q (E σ)) : wpAny (model X.prog X.w) X.A (call (.ref f) us kv) (EP X pins σ Q) X.xe s := by
  apply wpAny_call
  refine codeAny_mono (F.run X.A hG X.stack s H ⟨us, kv⟩ us2 vs Q (E σ) hr I.env0 hb r h) ?_
  rintro (e | fl) s' hq
  · exact hx pins H s e s' I hq
  · cases fl <;> first | exact I.after hq | exact False.elim hq
theorem pe_ownX (O : Own X.prog X.w X.K X.mg X.base CX k x ps dvs sp) (hG : X.A.guards = some []) (hr : Room k X.A) (hx : ∀ σ, PassesAt CX X σ (E σ)) (ha : PA X (e :: es) t) (hg : Gl X x := by rfl)
    (hdb : (x == ("__debug__" : Str)) = false := by decide) (he : starEach (e :: es) X.env = (false, eval e X.env) :: starEach es X.env := by rfl) (hpl : (backTo pos (starEach es X.env)).any (·.1) = false := by rfl) :
    PE X (.Call (.Name x p) (e :: es) [] pos) (tCallX sp dvs E t) := by
  obtain ⟨f, fd, ds, F, hm, hk, hb, hd⟩ := O.ex
  refine ⟨fun pins s σ H Q I h => wpAny_Call_Name_kw (ld_glob I hg hm ?_ hdb)⟩
  apply PySem.W.callWith_K (h₀ := X.base) I.ok.mod.kin hk _ he hpl
  refine thn (ha.run pos pins s σ H _ I h) ?_
  rintro us s1 ⟨vs, H1, I1, r, q⟩
  have r2 := r.append hd
  exact ⟨I1.kIn, runGX F hG hr (hb s1 us I1.kIn (by rw [← r2.length]; exact F.len _ _ _ _ q)) (hx σ) I1 r2 q⟩
theorem pe_ownKX (O : OwnK X.prog X.w X.K X.mg X.base CX k x ps n ks gV sp) (hG : X.A.guards = some []) (hr : Room k X.A) (hx : ∀ σ, PassesAt CX X σ (E σ)) (ha : PA X (e :: es) t) (hkw : PK X kws tk) (hg : Gl X x := by rfl)
    (hall : (backToKw pos (keywordEach kws X.env)).all (·.1.isSome) = true := by rfl) (hks : (backToKw pos (keywordEach kws X.env)).filterMap (·.1) = ks := by rfl)
    (hdb : (x == ("__debug__" : Str)) = false := by decide) (he : starEach (e :: es) X.env = (false, eval e X.env) :: starEach es X.env := by rfl)
    (hpl : ((backTo pos (starEach (e :: es) X.env)).any (·.1) || (backToKw pos (keywordEach kws X.env)).any (·.1.isNone)) = false := by rfl) :
    PE X (.Call (.Name x p) (e :: es) kws pos) (tCallNX n ks.length sp gV E t tk) := by
  obtain ⟨f, fd, g, F, hm, hk, hb⟩ := O.ex
  refine ⟨fun pins s σ H Q I h => wpAny_Call_Name_kw (ld_glob I hg hm ?_ hdb)⟩
  apply PySem.W.callWith_KW (h₀ := X.base) I.ok.mod.kin hk hall _ hpl he
  refine thn (ha.run pos pins s σ H _ I h) ?_
  rintro us s1 ⟨vs, H1, I1, r, q⟩
  refine thn (hkw.run pos pins s1 σ H1 _ I1 q) ?_
  rintro ws s2 ⟨zs, H2, I2, rz, l1, l2, q2⟩
  rw [hks]
  exact ⟨I2.kIn, runGX F hG hr (hb.to s2 us ws I2.kIn (r.length.symm.trans l1) (rz.length.symm.trans l2)) (hx σ) I2 (hb.rel r rz) q2⟩
theorem pe_ownKX0 (O : OwnK X.prog X.w X.K X.mg X.base CX k x ps 0 ks gV sp) (hG : X.A.guards = some []) (hr : Room k X.A) (hx : ∀ σ, PassesAt CX X σ (E σ)) (hkw : PK X kws tk) (hg : Gl X x := by rfl)
    (hall : (backToKw pos (keywordEach kws X.env)).all (·.1.isSome) = true := by rfl) (hks : (backToKw pos (keywordEach kws X.env)).filterMap (·.1) = ks := by rfl)
    (hdb : (x == ("__debug__" : Str)) = false := by decide)
    (hpl : ((backTo pos (starEach [] X.env)).any (·.1) || (backToKw pos (keywordEach kws X.env)).any (·.1.isNone)) = false := by rfl) :
    PE X (.Call (.Name x p) [] kws pos) (tCallNX 0 ks.length sp gV E tNil tk) := by
  obtain ⟨f, fd, g, F, hm, hk, hb⟩ := O.ex
  refine ⟨fun pins s σ H Q I h => wpAny_Call_Name_kw (ld_glob I hg hm ?_ hdb)⟩
  refine PySem.W.callWith_KW0 (h₀ := X.base) I.ok.mod.kin hk hall ?_ hpl
  refine thn (hkw.run pos pins s σ H _ I h) ?_
  rintro ws s2 ⟨zs, H2, I2, rz, l1, l2, q2⟩
  rw [hks]
  exact ⟨I2.kIn, runGX F hG hr (us := []) (hb.to s2 [] ws I2.kIn rfl (rz.length.symm.trans l2)) (hx σ) I2 (hb.rel (.nil : Vals [] []) rz) q2⟩
end
/-! ### isinstance of a caught exception -/
def rIsX (K : PySem.W.Frag) (D : Addr) : List V → Hp → VK → Prop := fun xs H Q => ∃ (a : Addr) (c : V) (cv : Value) (b : Bool), xs = [.ref a, c] ∧ H a = some (exHO (.ref D) none a) ∧ ClsV c cv ∧ PySem.W.kitOne K (.ref D) cv = some b ∧ Q (.bl b) H
def rIsXT (K : PySem.W.Frag) (D : Addr) : List V → Hp → VK → Prop := fun xs H Q => ∃ (a tp : Addr) (cs : List V) (us : List Value) (b : Bool), xs = [.ref a, .ref tp] ∧ H a = some (exHO (.ref D) none a) ∧ H tp = some (.tup cs) ∧ Paired ClsV cs us ∧ PySem.W.kitAny K (.ref D) us = some b ∧ Q (.bl b) H
section
variable {X : Cx} {D : Addr}
theorem inst_of {pins : List (Addr × Obj)} {σ : L2.St} {H : Hp} {s : Shared} {a : Addr} (I : Inv X pins σ H s) (h : H a = some (exHO (.ref D) none a)) : ∃ oe, PySem.W.InstAt s.heap a oe D none := by
  obtain ⟨⟨oe, vs, at_, z, d⟩, _⟩ := (show ObjOk X.prog X.w H s.heap a (exHO (.ref D) none a) from I.hok a _ h)
  obtain ⟨oc, od, oda, osl⟩ := oe
  obtain ⟨h1, h2⟩ := z
  dsimp only at h1 h2 d
  subst h1 h2 d
  exact ⟨_, at_, rfl, rfl, trivial⟩
theorem call_isX (C : ExcC X.K D) : CallR X (.builtin "isinstance") (rIsX X.K D) := by
  intro pins s σ H xs us Q I r h
  obtain ⟨a, c, cv, b, rfl, ha, hc, e, q⟩ := h
  obtain ⟨u1, u2, rfl, r1, r2⟩ := vals2 r
  cases (show u1 = Value.ref a from r1)
  obtain ⟨oe, J⟩ := inst_of I ha
  have e2 := hc.eq r2
  subst e2
  exact PySem.W.kia_one (PySem.W.handS_kitx_exc C.hg C.hk C.hs C.hd C.ha C.hn C.ht C.hm) I.kIn J e (fun z => nomatch z) fun tk => ⟨.bl b, H, I.kept (t' := tk) fun _ _ z => z, rfl, q⟩
theorem call_isXT (C : ExcC X.K D) : CallR X (.builtin "isinstance") (rIsXT X.K D) := by
  intro pins s σ H xs us Q I r h
  obtain ⟨a, tp, cs, ws, b, rfl, ha, hT, hc, e, q⟩ := h
  obtain ⟨u1, u2, rfl, r1, r2⟩ := vals2 r
  cases (show u1 = Value.ref a from r1)
  cases (show u2 = Value.ref tp from r2)
  obtain ⟨oe, J⟩ := inst_of I ha
  obtain ⟨_, its, rv, o, h1, h2, n, h3⟩ := (show ObjOk X.prog X.w H s.heap tp (.tup cs) from I.hok tp _ hT)
  have e3 := ClsV.all hc rv
  subst e3
  obtain ⟨oc, od, dt, sl⟩ := o
  dsimp only at h2 h3
  subst h2 h3
  exact PySem.W.kia_tup (PySem.W.handS_kitx_exc C.hg C.hk C.hs C.hd C.ha C.hn C.ht C.hm) I.kIn J h1 e (fun z => nomatch z) fun tk => ⟨.bl b, H, I.kept (t' := tk) fun _ _ z => z, rfl, q⟩
end
section
variable {K : PySem.W.Frag} {σ : L2.St} {H : Hp} {Q : VK} {tA tK : TA}
theorem i_callX {sp : Sp} {dvs : List V} {E : L2.St → XK} (h : tA σ H fun vs H1 => sp (vs ++ dvs) H1 Q (E σ)) : tCallX sp dvs E tA σ H Q := h
theorem i_callNX {sp : Sp} {n m : Nat} {gV : List V → List V → List V} {E : L2.St → XK} (h : tA σ H fun vs H1 => tK σ H1 fun zs H2 => vs.length = n ∧ zs.length = m ∧ sp (gV vs zs) H2 Q (E σ)) : tCallNX n m sp gV E tA tK σ H Q := h
theorem i_isX {D a : Addr} {c : V} {cv : Value} {b : Bool} (h1 : H a = some (exHO (.ref D) none a)) (hc : ClsV c cv) (e : PySem.W.kitOne K (.ref D) cv = some b) (h : Q (.bl b) H) : rIsX K D [.ref a, c] H Q := ⟨a, c, cv, b, rfl, h1, hc, e, h⟩
theorem i_isXT {D a tp : Addr} {cs : List V} {us : List Value} {b : Bool} (h1 : H a = some (exHO (.ref D) none a)) (h2 : H tp = some (.tup cs)) (hc : Paired ClsV cs us) (e : PySem.W.kitAny K (.ref D) us = some b) (h : Q (.bl b) H) : rIsXT K D [.ref a, .ref tp] H Q := ⟨a, tp, cs, us, b, rfl, h1, h2, hc, e, h⟩
end
end Pm

namespace Pm
open PySem PySem.Spec PyProof.Rows L2
/-! ### the rules once more, the written part K named -/
section
variable {X : Cx} {k : Nat}
theorem k_add (K : PySem.W.Frag) (hK : X.K = K := by rfl) : OpR X (binaryOp .Add) (rAddU K) := by subst hK; exact op_addU
theorem k_eq (K : PySem.W.Frag) (hr : Room k X.A) (hK : X.K = K := by rfl) : OpR X (compareOp .Eq) (rEqU K) := by subst hK; exact op_eqU hr
theorem k_ne (K : PySem.W.Frag) (hr : Room k X.A) (hK : X.K = K := by rfl) : OpR X (compareOp .NotEq) (rNeU K) := by subst hK; exact op_neU hr
theorem k_in (K : PySem.W.Frag) (hK : X.K = K := by rfl) : OpR X (compareOp .In) (rIn K false) := by subst hK; exact op_in_seq
theorem k_notIn (K : PySem.W.Frag) (hK : X.K = K := by rfl) : OpR X (compareOp .NotIn) (rIn K true) := by subst hK; exact op_notIn_seq
theorem k_ix (K : PySem.W.Frag) (hK : X.K = K := by rfl) : IxR X (rIx K) := by subst hK; exact ix_seq
theorem k_slL (K : PySem.W.Frag) (hK : X.K = K := by rfl) : SlR X (rSlL K) := by subst hK; exact sl_list
theorem k_slT (K : PySem.W.Frag) (hK : X.K = K := by rfl) : SlR X (rSlT K) := by subst hK; exact sl_tup
theorem k_len (K : PySem.W.Frag) (hK : X.K = K := by rfl) : CallR X (.builtin "len") (rLenU K) := by subst hK; exact call_lenU
theorem k_tupL (K : PySem.W.Frag) (hK : X.K = K := by rfl) : CallR X (.type "tuple") (rTupL K) := by subst hK; exact call_tupL
theorem k_repr (K : PySem.W.Frag) (hG : X.A.guards = some []) (hr : Room k X.A) (hK : X.K = K := by rfl) : CallR X (.builtin "repr") (rReprD K) := by subst hK; exact call_reprD hG hr
theorem k_isi (K : PySem.W.Frag) (hK : X.K = K := by rfl) : CallR X (.builtin "isinstance") (rIsi K) := by subst hK; exact call_isi
theorem k_isiT (K : PySem.W.Frag) (hK : X.K = K := by rfl) : CallR X (.builtin "isinstance") (rIsiT K) := by subst hK; exact call_isiT
theorem k_isX {K : PySem.W.Frag} {D : Addr} (C : ExcC K D) (hK : X.K = K := by rfl) : CallR X (.builtin "isinstance") (rIsX K D) := by subst hK; exact call_isX C
theorem k_isXT {K : PySem.W.Frag} {D : Addr} (C : ExcC K D) (hK : X.K = K := by rfl) : CallR X (.builtin "isinstance") (rIsXT K D) := by subst hK; exact call_isXT C
theorem k_all (K : PySem.W.Frag) (hc : X.calm = true) (hK : X.K = K := by rfl) : CallR X (.builtin "all") (rAll K) := by subst hK; exact cr_all hc
theorem k_any (K : PySem.W.Frag) (hc : X.calm = true) (hK : X.K = K := by rfl) : CallR X (.builtin "any") (rAny K) := by subst hK; exact cr_any hc
theorem k_sum (K : PySem.W.Frag) (hc : X.calm = true) (hK : X.K = K := by rfl) : CallR X (.builtin "sum") (rSum K) := by subst hK; exact cr_sum hc
theorem k_piL (K : PySem.W.Frag) {tg l : Expr} {tl : TE} (hl : PE X l tl) (hK : X.K = K := by rfl) : PI X tg l (iList K tl) := by subst hK; exact pi_list hl
theorem k_piT (K : PySem.W.Frag) {tg l : Expr} {tl : TE} (hl : PE X l tl) (hK : X.K = K := by rfl) : PI X tg l (iTup K tl) := by subst hK; exact pi_tup hl
theorem k_piE (K : PySem.W.Frag) {e : Expr} {ta : TA} {p pos tpos : Pos} {elts : List Expr} {kk : Nat} (hg : Gl X "enumerate") (hm : X.mg "enumerate" = none) (ha : PA X [e] ta) (hs : starEach [e] X.env = [(false, eval e X.env)] := by rfl) (hK : X.K = K := by rfl) :
    PI X (.Tuple elts kk tpos) (.Call (.Name "enumerate" p) [e] [] pos) (iEnum K ta) := by subst hK; exact pi_enum hg hm ha hs
theorem k_gt (K : PySem.W.Frag) (n : Nat) {es : List Expr} {q : Nat} {t : TGs} {pos : Pos} (hc : X.calm = true) (h : PGs X es t) (hn : (assignEach es X.env).length = n := by rfl)
    (hst : (assignEach es X.env).findIdx? (·.1) = none := by rfl) (hK : X.K = K := by rfl) : PG X (.Tuple es q pos) (gTup K n t) := by subst hK; exact pg_tup hc h hn hst
end
theorem ite_1 {P Q : Prop} (h : P) : (if (true = true) then P else Q : Prop) := h
end Pm

namespace Pm
open PySem PySem.Spec PyProof.Rows L2
/-! ### what a caller holds, from the def as the top has written it -/
theorem vals_getD : ∀ {vs : List V} {us : List Value}, Vals vs us → ∀ i, RelV (vs.getD i .non) (us.getD i .none)
  | _, _, .nil, _ => rfl
  | _, _, .cons h _, 0 => h
  | _, _, .cons _ r, i + 1 => by simpa using vals_getD r i
section
variable {P : Program} {w : World} {K : PySem.W.Frag} {mg : Str → Option Value} {base : Heap} {CX : CXT} {k : Nat} {x qual : Str} {params : Arguments} {body : List Stmt} {scope : Scope} {dvs : List V} {f : Addr} {fd : FuncData} {ps : List Str} {sp : Sp}
theorem own_n (F : FunD K x qual params body scope [] [] f fd) (g : mg x = some (.ref f)) (a : FnG P w K mg base CX k f fd ps sp)
    (h : ∀ (kV doc pm : Value) (an : Option Addr) (cdv ct : Value) (us : List Value), us.length = ps.length → bindArgs (PySem.W.fnOf x qual params body scope .none kV doc pm an cdv ct) ⟨us, []⟩ = pure (ps.zip us)) : Own P w K mg base CX k x ps [] sp :=
  ⟨f, fd, [], a, g, F.kp, F.bindsN h, .nil⟩
theorem own_d (F : FunD K x qual params body scope dvs [] f fd) (g : mg x = some (.ref f)) (a : FnG P w K mg base CX k f fd ps sp) (n j : Nat) (hd : dvs ≠ []) (hn : n + (dvs.length - j) = ps.length)
    (h : ∀ (T : Addr) (kV doc pm : Value) (an : Option Addr) (cdv ct : Value) (us its : List Value), us.length = n → its.length = dvs.length →
      ∃ k, bindArgs (PySem.W.fnOf x qual params body scope (.ref T) kV doc pm an cdv ct) ⟨us, []⟩ = seqItems? (.ref T) >>= k ∧ k (some its.toArray) = pure (ps.zip (us ++ its.drop j))) : Own P w K mg base CX k x ps (dvs.drop j) sp := by
  obtain ⟨ds, h1, h2⟩ := F.binds1 n j hd hn h
  exact ⟨f, fd, ds, a, g, F.kp, h2, h1⟩
theorem ownK_d (F : FunD K x qual params body scope dvs [] f fd) (g : mg x = some (.ref f)) (a : FnG P w K mg base CX k f fd ps sp) (n : Nat) (ks : List Str) (hd : dvs ≠ [])
    (G : List Value → List Value → List Value → List Value) (GV : List V → List V → List V → List V)
    (hrel : ∀ {vs ds zs : List V} {us its ws : List Value}, Vals vs us → Vals ds its → Vals zs ws → Vals (GV vs ds zs) (G us its ws))
    (h : ∀ (T : Addr) (kV doc pm : Value) (an : Option Addr) (cdv ct : Value) (us its ws : List Value), us.length = n → its.length = dvs.length → ws.length = ks.length →
      ∃ k, bindArgs (PySem.W.fnOf x qual params body scope (.ref T) kV doc pm an cdv ct) ⟨us, ks.zip ws⟩ = seqItems? (.ref T) >>= k ∧ k (some its.toArray) = pure (ps.zip (G us its ws))) : OwnK P w K mg base CX k x ps n ks (fun vs zs => GV vs dvs zs) sp := by
  have kp := F.kp
  obtain ⟨oc, od, dV, kV, doc, pm, an, cdv, ct, osl, rfl, lk, hcd, hD, hK⟩ := F.ex
  rcases hD with ⟨e, _⟩ | ⟨_, T, o, its, m, rfl, lT, oT, rT⟩
  · exact absurd e hd
  · refine ⟨f, _, fun us ws => G us its ws, a, g, kp, ⟨fun s us ws X l1 l2 => ?_, fun r1 r2 => hrel r1 rT r2⟩⟩
    obtain ⟨k, e1, e2⟩ := h T kV doc pm an cdv ct us its ws l1 rT.length.symm l2
    refine BindsTo.of_looks fun M => ?_
    rw [e1]
    exact looks_items X lT oT (.of_pure e2)
theorem ownK_n (F : FunD K x qual params body scope [] [] f fd) (g : mg x = some (.ref f)) (a : FnG P w K mg base CX k f fd ps sp) (n : Nat) (ks : List Str)
    (G : List Value → List Value → List Value) (GV : List V → List V → List V)
    (hrel : ∀ {vs zs : List V} {us ws : List Value}, Vals vs us → Vals zs ws → Vals (GV vs zs) (G us ws))
    (h : ∀ (kV doc pm : Value) (an : Option Addr) (cdv ct : Value) (us ws : List Value), us.length = n → ws.length = ks.length →
      bindArgs (PySem.W.fnOf x qual params body scope .none kV doc pm an cdv ct) ⟨us, ks.zip ws⟩ = pure (ps.zip (G us ws))) : OwnK P w K mg base CX k x ps n ks GV sp := by
  have kp := F.kp
  obtain ⟨oc, od, dV, kV, doc, pm, an, cdv, ct, osl, rfl, lk, hcd, hD, hK⟩ := F.ex
  rcases hD with ⟨_, rfl⟩ | ⟨e, _⟩
  · exact ⟨f, _, G, a, g, kp, ⟨fun s us ws X l1 l2 => .of_eq (h kV doc pm an cdv ct us ws l1 l2), fun r1 r2 => hrel r1 r2⟩⟩
  · exact absurd rfl e
end
/-! ### showing and comparing, the bound made on the way -/
section
variable {K : PySem.W.Frag} {H : Hp} {Q : VK}
theorem OkAll.nil' : OkAll 0 0 [] := .nil
theorem OkAll.cons' {n m n' m' : Nat} {d : PyData} {ds : List PyData} (h : Ok n m d) (r : OkAll n' m' ds) : OkAll (max n n') (max m m') (d :: ds) :=
  .cons (h.mono (Nat.le_max_left ..) (Nat.le_max_left ..)) ⟨r.sh, r.cl, Nat.le_trans r.dp (Nat.le_max_right ..), fun t ht => Nat.le_trans (r.ln t ht) (Nat.le_max_right ..)⟩
theorem Ok.lst' {n m : Nat} {ds : List PyData} (h : OkAll n m ds) : Ok (n + 1) (ds.length * (m + 2) + 3) (.list ds) := .lst h (Nat.le_refl _)
theorem Ok.tup' {n m : Nat} {ds : List PyData} (h : OkAll n m ds) : Ok (n + 1) (ds.length * (m + 2) + 3) (.tuple ds) := .tup h (Nat.le_refl _)
theorem i_repr {p : Addr} {d : PyData} {n m : Nat} (h1 : Dp K H (.ref p) d) (h2 : Ok n m d) (hn : n ≤ 60) (hm : m ≤ 1000000) (h : Q (.str d.shown) H) : rReprD K [.ref p] H Q :=
  i_reprD h1 h2.sh h2.noDict (Nat.le_trans h2.dp hn) (Nat.le_trans (Nat.le_trans h2.ln hm) (by decide)) h
theorem i_neS {a b : Str} (e : a = b) (h : Q (.bl false) H) : rNeU K (.str a) (.str b) H Q := by
  subst e
  refine .inl ⟨rfl, ?_⟩
  rw [decide_eq_true rfl]
  exact h
theorem i_eqS {a b : Str} (e : a = b) (h : Q (.bl true) H) : rEqU K (.str a) (.str b) H Q := by
  subst e
  refine .inl ⟨rfl, ?_⟩
  rw [decide_eq_true rfl]
  exact h
/-- a tuple that the module holds -/
def TpK (K : PySem.W.Frag) (a : Addr) (xs : List V) : Prop := ∃ (o : Obj) (its : Array Value) (n : Nat), K.lookup a = some o ∧ o.cls = .type "tuple" ∧ o.data = .seq its n ∧ its.size ≤ sizeLine ∧ Vals xs its.toList
theorem TpK.tp {a : Addr} {xs : List V} (h : TpK K a xs) : Tp K H a xs := .inr h
theorem i_lens {vs zs : List V} {n m : Nat} {P : Prop} (h1 : vs.length = n) (h2 : zs.length = m) (h : P) : vs.length = n ∧ zs.length = m ∧ P := ⟨h1, h2, h⟩
theorem ite_0 {P Q : Prop} (h : Q) : (if (false = true) then P else Q : Prop) := h
theorem ite_n0 {P Q : Prop} (h : P) : (if ((!false) = true) then P else Q : Prop) := h
theorem ite_n1 {P Q : Prop} (h : Q) : (if ((!true) = true) then P else Q : Prop) := h
end
theorem natAbs_up {a : Int} {n m : Nat} (h : a.natAbs < 2 ^ n) (e : n ≤ m) : a.natAbs < 2 ^ m := Nat.lt_of_lt_of_le h (Nat.pow_le_pow_right (by decide) e)
theorem part_one (a : Int) : (Rat.divInt a 1).num = a ∧ ((Rat.divInt a 1).den : Int) = 1 := part_of a 1 (by decide) (by simp)
theorem dP_one (a : Int) : dP (Rat.divInt a 1) = .tuple [.int a, .int 1] := by
  unfold dP
  rw [(part_one a).1, (part_one a).2]
/-! ### the defs as the top has written them -/
section
variable {K : PySem.W.Frag} {x qual : Str} {st : Stmt} {f T : Addr} {oc oT kV doc pm cdv ct : Value} {od an odT : Option Addr} {sl slT : Array (Option Value)} {its : Array Value} {n : Nat} {dvs : List V}
theorem funD_n (l : K.lookup f = some ⟨oc, od, .func (PySem.W.fnOf x qual (defArgs st) (defBody st) (defScope st) .none kV doc pm an cdv ct), sl⟩) (c : PySem.W.codeIn K cdv qual = true) (k : PySem.W.keepIn K (.ref f) = true) :
    FunD K x qual (defArgs st) (defBody st) (defScope st) [] [] f (PySem.W.fnOf x qual (defArgs st) (defBody st) (defScope st) .none kV doc pm an cdv ct) := ⟨⟨_, _, _, _, _, _, _, _, _, _, rfl, l, c, .inl ⟨rfl, rfl⟩, .inl rfl⟩, k⟩
theorem funD_d (l : K.lookup f = some ⟨oc, od, .func (PySem.W.fnOf x qual (defArgs st) (defBody st) (defScope st) (.ref T) kV doc pm an cdv ct), sl⟩) (c : PySem.W.codeIn K cdv qual = true) (k : PySem.W.keepIn K (.ref f) = true)
    (lT : K.lookup T = some ⟨oT, odT, .seq its n, slT⟩) (r : Vals dvs its.toList) (hd : dvs ≠ []) :
    FunD K x qual (defArgs st) (defBody st) (defScope st) dvs [] f (PySem.W.fnOf x qual (defArgs st) (defBody st) (defScope st) (.ref T) kV doc pm an cdv ct) :=
  ⟨⟨_, _, _, _, _, _, _, _, _, _, rfl, l, c, .inr ⟨hd, T, _, its.toList, n, rfl, lT, by simp, r⟩, .inl rfl⟩, k⟩
theorem TpK.of {xs : List V} (lT : K.lookup T = some ⟨.type "tuple", odT, .seq its n, slT⟩) (r : Vals xs its.toList) (hl : xs.length ≤ 1000) : TpK K T xs :=
  ⟨_, its, n, lT, rfl, rfl, by have e : xs.length = its.size := (by simpa using r.length); exact Nat.le_trans (by omega) (by decide : 1000 ≤ sizeLine), r⟩
end
end Pm

namespace Pm
open PySem PySem.Spec PyProof.Rows L2
/-! ### promises at wider contexts, and two in one -/
section
variable {P : Program} {w : World} {K : PySem.W.Frag} {mg : Str → Option Value} {base : Heap} {CX : CXT} {j k : Nat} {f : Addr} {fd : FuncData} {ps : List Str} {sp sp' sp2 : Sp}
theorem FnG.any (a : FnG P w K mg base CX0 k f fd ps sp) : FnG P w K mg base CX k f fd ps sp := by
  refine ⟨a.len, fun A g o s H args us vs Q E r e b v h => codeAny_mono (a.run A g o s H args us vs Q E r e b v h) ?_⟩
  rintro (e | fl) s' hq
  · exact False.elim hq
  · cases fl <;> exact hq
end
/-! ### isinstance of values, is None, lists repeated -/
section
variable {K : PySem.W.Frag} {H : Hp} {Q : VK}
theorem i_isi {x : V} {t n : String} {b : Bool} (h1 : TyX K H x (.type t)) (h2 : kitB t n = some b) (h : Q (.bl b) H) : rIsi K [x, .ty n] H Q := ⟨x, .ty n, .type t, .type n, b, rfl, .ty n, h1, kit_ty h2, h⟩
theorem i_isN {x : V} (h : Q (.bl (decide (x = .non))) H) : rIsN x .non H Q := ⟨rfl, h⟩
theorem i_notN {x : V} (h : Q (.bl (!decide (x = .non))) H) : rNotN x .non H Q := ⟨rfl, h⟩
theorem i_ixV {p : Addr} {xs : List V} {j : Int} (h1 : SqL K H p xs) (h0 : 0 ≤ j) (hl : j < xs.length) (h : ∀ (i : Nat) (v : V), xs[i]? = some v → Q v H) : rIx K (.ref p) (.int j) H Q := by
  obtain ⟨i, rfl⟩ := Int.eq_ofNat_of_zero_le h0
  have hi : i < xs.length := by omega
  exact i_ixL h1 (atI_nat (List.getElem?_eq_getElem hi)) (h i _ (List.getElem?_eq_getElem hi))
theorem i_neB {a b : Bool} (e : a = b) (h : Q (.bl false) H) : rNeU K (.bl a) (.bl b) H Q := by
  subst e
  refine .inl ⟨rfl, ?_⟩
  rw [decide_eq_true rfl]
  exact h
theorem i_eqB {a b : Bool} (e : a = b) (h : Q (.bl true) H) : rEqU K (.bl a) (.bl b) H Q := by
  subst e
  refine .inl ⟨rfl, ?_⟩
  rw [decide_eq_true rfl]
  exact h
theorem i_rep {l : Addr} {xs : List V} {k : Int} (h1 : H l = some (.lst xs)) (h2 : 0 ≤ k) (h3 : k ≤ 100000) (h4 : xs.length ≤ 1) (h : ∀ p H', New H p → Same H H' → H' p = some (.lst (List.replicate k.toNat xs).flatten) → Q (.ref p) H') : rMulU (.ref l) (.int k) H Q := by
  refine .inr ⟨l, k, xs, rfl, rfl, h1, by omega, by omega, ?_, i_new h⟩
  have : xs.length * k.toNat ≤ 1 * k.toNat := Nat.mul_le_mul_right _ h4
  exact Nat.le_trans (by omega) (by decide : 100000 ≤ sizeLine)
end
/-! ### floors and ceilings of parts -/
theorem floor_low (x : Rat) : x.num.fdiv x.den * x.den ≤ x.num := by
  rw [Int.fdiv_eq_ediv_of_nonneg _ (Int.le_of_lt (den_gt x))]
  exact Int.ediv_mul_le _ (den_ne x)
theorem floor_high (x : Rat) : x.num < (x.num.fdiv x.den + 1) * x.den := by
  rw [Int.fdiv_eq_ediv_of_nonneg _ (Int.le_of_lt (den_gt x))]
  exact Int.lt_ediv_add_one_mul_self _ (den_gt x)
theorem ceil_high (x : Rat) : x.num ≤ (0 - (0 - x.num).fdiv x.den) * x.den := by
  rw [Int.fdiv_eq_ediv_of_nonneg _ (Int.le_of_lt (den_gt x))]
  have h := Int.ediv_mul_le (0 - x.num) (den_ne x)
  rw [Int.sub_mul]
  omega
theorem ceil_low (x : Rat) : (0 - (0 - x.num).fdiv x.den - 1) * x.den < x.num := by
  rw [Int.fdiv_eq_ediv_of_nonneg _ (Int.le_of_lt (den_gt x))]
  have h := Int.lt_ediv_add_one_mul_self (0 - x.num) (den_gt x)
  rw [Int.add_mul] at h
  rw [Int.sub_mul, Int.sub_mul]
  omega
theorem fdiv_small {a : Int} {b : Nat} {n : Nat} (hb : 0 < (b : Int)) (ha : a.natAbs < 2 ^ n) : (a.fdiv b).natAbs < 2 ^ n := by
  rw [Int.fdiv_eq_ediv_of_nonneg _ (Int.le_of_lt hb)]
  exact Nat.lt_of_le_of_lt (Int.natAbs_ediv_le_natAbs _ _) ha
theorem kb_int_int : kitB "int" "int" = some true := by decide +kernel
theorem kb_int_bool : kitB "int" "bool" = some false := by decide +kernel
theorem kb_int_tuple : kitB "int" "tuple" = some false := by decide +kernel
theorem kb_int_list : kitB "int" "list" = some false := by decide +kernel
theorem kb_int_str : kitB "int" "str" = some false := by decide +kernel
theorem kb_bool_int : kitB "bool" "int" = some true := by decide +kernel
theorem kb_bool_bool : kitB "bool" "bool" = some true := by decide +kernel
theorem kb_bool_tuple : kitB "bool" "tuple" = some false := by decide +kernel
theorem kb_bool_list : kitB "bool" "list" = some false := by decide +kernel
theorem kb_bool_str : kitB "bool" "str" = some false := by decide +kernel
theorem kb_str_int : kitB "str" "int" = some false := by decide +kernel
theorem kb_str_bool : kitB "str" "bool" = some false := by decide +kernel
theorem kb_str_tuple : kitB "str" "tuple" = some false := by decide +kernel
theorem kb_str_list : kitB "str" "list" = some false := by decide +kernel
theorem kb_str_str : kitB "str" "str" = some true := by decide +kernel
theorem kb_tuple_int : kitB "tuple" "int" = some false := by decide +kernel
theorem kb_tuple_bool : kitB "tuple" "bool" = some false := by decide +kernel
theorem kb_tuple_tuple : kitB "tuple" "tuple" = some true := by decide +kernel
theorem kb_tuple_list : kitB "tuple" "list" = some false := by decide +kernel
theorem kb_tuple_str : kitB "tuple" "str" = some false := by decide +kernel
theorem kb_list_int : kitB "list" "int" = some false := by decide +kernel
theorem kb_list_bool : kitB "list" "bool" = some false := by decide +kernel
theorem kb_list_tuple : kitB "list" "tuple" = some false := by decide +kernel
theorem kb_list_list : kitB "list" "list" = some true := by decide +kernel
theorem kb_list_str : kitB "list" "str" = some false := by decide +kernel
theorem kb_NoneType_int : kitB "NoneType" "int" = some false := by decide +kernel
theorem kb_NoneType_bool : kitB "NoneType" "bool" = some false := by decide +kernel
theorem kb_NoneType_tuple : kitB "NoneType" "tuple" = some false := by decide +kernel
theorem kb_NoneType_list : kitB "NoneType" "list" = some false := by decide +kernel
theorem kb_NoneType_str : kitB "NoneType" "str" = some false := by decide +kernel
theorem kb_dict_int : kitB "dict" "int" = some false := by decide +kernel
theorem kb_dict_bool : kitB "dict" "bool" = some false := by decide +kernel
theorem kb_dict_tuple : kitB "dict" "tuple" = some false := by decide +kernel
theorem kb_dict_list : kitB "dict" "list" = some false := by decide +kernel
theorem kb_dict_str : kitB "dict" "str" = some false := by decide +kernel
end Pm

namespace Pm
open PySem PySem.Spec PyProof.Rows L2
theorem i_dnew {σ : L2.St} {H : Hp} {Q : VK} (h : ∀ p H', New H p → Same H H' → H' p = some (.dK []) → Q (.ref p) H') : tDNewK σ H Q := i_new h
/-! ### list(..) of a list or a tuple -/
def rLstC (K : PySem.W.Frag) : List V → Hp → VK → Prop := fun xs H Q => ∃ p ys, xs = [.ref p] ∧ (SqL K H p ys ∨ SqT K H p ys) ∧ ∀ l, H l = none → Q (.ref l) (upd H l (.lst ys))
theorem k_lstC {X : Cx} (K : PySem.W.Frag) (hK : X.K = K := by rfl) : CallR X (.type "list") (rLstC K) := by subst hK; exact call_list_of
theorem i_lstC {K : PySem.W.Frag} {H : Hp} {Q : VK} {p : Addr} {xs : List V} (h1 : SqL K H p xs ∨ Tp K H p xs) (h : ∀ a H', New H a → Same H H' → H' a = some (.lst xs) → Q (.ref a) H') : rLstC K [.ref p] H Q := ⟨p, xs, rfl, h1.imp id Tp.sq, i_new h⟩
/-- one of two numbers -/
theorem ite_c {c : Bool} {x y : Int} {σ : L2.St} {H : Hp} {Q : VK} (h : ∀ z : Int, z = x ∨ z = y → Q (.int z) H) : if c = true then tC (.int x) σ H Q else tC (.int y) σ H Q := by
  cases c
  · exact h y (.inr rfl)
  · exact h x (.inl rfl)
/-! ### what stands is found from the leaf: the fact of the place first, then the way from its heap to this one -/
/-- a tuple stands -/
structure TpH (H : Hp) (p : Addr) (xs : List V) : Prop where
  eq : H p = some (.tup xs)
/-- tuples stay -/
structure Tm (H H' : Hp) : Prop where
  t : ∀ b xs, H b = some (.tup xs) → H' b = some (.tup xs)
section
variable {K : PySem.W.Frag} {H H' H1 : Hp} {m n p : Addr} {xs : List V} {Q : VK}
theorem Tm.refl (H : Hp) : Tm H H := ⟨fun _ _ h => h⟩
theorem Tm.same (e : Same H H') : Tm H H' := ⟨fun b xs h => e b _ h⟩
theorem Tm.fx (e : Fx m n H H') : Tm H H' := ⟨fun b xs h => e.tup b xs h⟩
theorem Tm.trans (a : Tm H H1) (b : Tm H1 H') : Tm H H' := ⟨fun c xs h => b.t c xs (a.t c xs h)⟩
theorem Tp.tm (h : Tp K H p xs) (e : Tm H H') : Tp K H' p xs := h.elim (fun h => .inl (e.t _ _ h)) .inr
theorem TpH.tm (h : TpH H p xs) (e : Tm H H') : Tp K H' p xs := .inl (e.t _ _ h.eq)
theorem i_newTH {xs : List V} (hl : xs.length ≤ 100000) (h : ∀ p H', New H p → Same H H' → TpH H' p xs → Q (.ref p) H') : NewT xs H Q :=
  ⟨Nat.le_trans hl (by decide), fun p hp => h p _ hp (same_new hp) ⟨upd_same⟩⟩
end
/-! ### defs with keyword-only defaults -/
section
variable {P : Program} {w : World} {K : PySem.W.Frag} {mg : Str → Option Value} {base : Heap} {CX : CXT} {k : Nat} {x qual : Str} {params : Arguments} {body : List Stmt} {scope : Scope} {kws : List (Str × V)} {f : Addr} {fd : FuncData} {ps : List Str} {sp : Sp}
theorem funD_k {st : Stmt} {D : Addr} {oc doc pm cdv ct : Value} {od an : Option Addr} {sl : Array (Option Value)} (l : K.lookup f = some ⟨oc, od, .func (PySem.W.fnOf x qual (defArgs st) (defBody st) (defScope st) .none (.ref D) doc pm an cdv ct), sl⟩) (c : PySem.W.codeIn K cdv qual = true) (k : PySem.W.keepIn K (.ref f) = true)
    (h : ∀ q ∈ kws, ∃ u, PySem.W.nsIn K D q.1 = some (some u) ∧ RelV q.2 u) :
    FunD K x qual (defArgs st) (defBody st) (defScope st) [] kws f (PySem.W.fnOf x qual (defArgs st) (defBody st) (defScope st) .none (.ref D) doc pm an cdv ct) := ⟨⟨_, _, _, _, _, _, _, _, _, _, rfl, l, c, .inl ⟨rfl, rfl⟩, .inr ⟨D, rfl, h⟩⟩, k⟩
/-- all keyword-only ones lack -/
theorem own_k (F : FunD K x qual params body scope [] kws f fd) (g : mg x = some (.ref f)) (a : FnG P w K mg base CX k f fd ps sp) (n : Nat) (hk : kws ≠ []) (hn : n + kws.length = ps.length)
    (h : ∀ (D : Addr) (doc pm : Value) (an : Option Addr) (cdv ct : Value) (us ks : List Value), us.length = n → ks.length = kws.length →
      KwChain D ((kws.map (·.1)).zip ks) (bindArgs (PySem.W.fnOf x qual params body scope .none (.ref D) doc pm an cdv ct) ⟨us, []⟩) (ps.zip (us ++ ks))) : Own P w K mg base CX k x ps (kws.map (·.2)) sp := by
  obtain ⟨ds, h1, h2⟩ := F.binds0 n hk hn h
  exact ⟨f, fd, ds, a, g, F.kp, h2, h1⟩
/-- n by place, the names ks by keyword; ms: those that lack -/
theorem ownK_k (F : FunD K x qual params body scope [] kws f fd) (g : mg x = some (.ref f)) (a : FnG P w K mg base CX k f fd ps sp) (n : Nat) (ks : List Str) (ms : List (Str × V)) (hk : kws ≠ []) (hms : ∀ q ∈ ms, q ∈ kws)
    (G : List Value → List Value → List Value → List Value) (GV : List V → List V → List V → List V)
    (hrel : ∀ {vs mz zs : List V} {us mv ws : List Value}, Vals vs us → Vals mz mv → Vals zs ws → Vals (GV vs mz zs) (G us mv ws))
    (h : ∀ (D : Addr) (doc pm : Value) (an : Option Addr) (cdv ct : Value) (us mv ws : List Value), us.length = n → mv.length = ms.length → ws.length = ks.length →
      KwChain D ((ms.map (·.1)).zip mv) (bindArgs (PySem.W.fnOf x qual params body scope .none (.ref D) doc pm an cdv ct) ⟨us, ks.zip ws⟩) (ps.zip (G us mv ws))) : OwnK P w K mg base CX k x ps n ks (fun vs zs => GV vs (ms.map (·.2)) zs) sp := by
  have kp := F.kp
  obtain ⟨oc, od, dV, kV, doc, pm, an, cdv, ct, osl, rfl, lk, hcd, hD, hK⟩ := F.ex
  rcases hD with ⟨_, rfl⟩ | ⟨e, _⟩
  · rcases hK with e | ⟨D, rfl, hq⟩
    · exact absurd e hk
    · obtain ⟨mv, hl, rk, hks⟩ := kwd_vals (ms := ms) fun q hm => hq q (hms q hm)
      exact ⟨f, _, fun us ws => G us mv ws, a, g, kp, ⟨fun s us ws X l1 l2 => BindsTo.of_looks fun M => KwChain.looks X hks (h D doc pm an cdv ct us mv ws l1 hl l2), fun r1 r2 => hrel r1 rk r2⟩⟩
  · exact absurd rfl e
end
end Pm

namespace Pm
open PySem PySem.Spec PyProof.Rows L2
/-! ### parts over a common bottom -/
theorem rat_mul_den (q : Rat) : q * (q.den : Rat) = (q.num : Rat) := by
  have h : Rat.divInt q.num q.den = q := Rat.num_divInt_den q
  rw [Rat.divInt_eq_div, Rat.intCast_natCast] at h
  have d : (q.den : Rat) ≠ 0 := by
    have := q.den_nz
    exact_mod_cast this
  have e := Rat.div_mul_cancel (a := (q.num : Rat)) d
  rw [h] at e
  exact e
theorem den_dvd_iff {q : Rat} {D : Nat} : q.den ∣ D ↔ ∃ z : Int, q * (D : Rat) = (z : Rat) := by
  constructor
  · rintro ⟨k, rfl⟩
    refine ⟨q.num * k, ?_⟩
    have h := rat_mul_den q
    have e : ((q.den * k : Nat) : Rat) = (q.den : Rat) * (k : Rat) := by simp
    have e2 : ((q.num * (k : Int) : Int) : Rat) = (q.num : Rat) * (k : Rat) := by rw [Rat.intCast_mul, Rat.intCast_natCast]
    rw [e, e2, ← h]
    grind
  · rintro ⟨z, hz⟩
    have h := rat_mul_den q
    have h2 : (q.num : Rat) * (D : Rat) = (z : Rat) * (q.den : Rat) := by rw [← h, ← hz]; grind
    have h3 : ((q.num * (D : Int) : Int) : Rat) = ((z * (q.den : Int) : Int) : Rat) := by simp only [Rat.intCast_mul, Rat.intCast_natCast]; exact h2
    have h4 : q.num * (D : Int) = z * (q.den : Int) := Rat.intCast_inj.mp h3
    have h5 : q.den ∣ q.num.natAbs * D := ⟨z.natAbs, by
      have := congrArg Int.natAbs h4
      rw [Int.natAbs_mul, Int.natAbs_mul, Int.natAbs_natCast, Int.natAbs_natCast] at this
      rw [this, Nat.mul_comm]⟩
    exact (Nat.Coprime.symm q.reduced).dvd_of_dvd_mul_left h5
theorem dd_add {p q : Rat} {D : Nat} (hp : p.den ∣ D) (hq : q.den ∣ D) : (p + q).den ∣ D := by
  obtain ⟨a, ha⟩ := den_dvd_iff.mp hp
  obtain ⟨b, hb⟩ := den_dvd_iff.mp hq
  refine den_dvd_iff.mpr ⟨a + b, ?_⟩
  rw [Rat.intCast_add, ← ha, ← hb]
  grind
theorem dd_sub {p q : Rat} {D : Nat} (hp : p.den ∣ D) (hq : q.den ∣ D) : (p - q).den ∣ D := by
  obtain ⟨a, ha⟩ := den_dvd_iff.mp hp
  obtain ⟨b, hb⟩ := den_dvd_iff.mp hq
  refine den_dvd_iff.mpr ⟨a - b, ?_⟩
  rw [Rat.intCast_sub, ← ha, ← hb]
  grind
theorem dd_mul {p q : Rat} {D E : Nat} (hp : p.den ∣ D) (hq : q.den ∣ E) : (p * q).den ∣ D * E := by
  obtain ⟨a, ha⟩ := den_dvd_iff.mp hp
  obtain ⟨b, hb⟩ := den_dvd_iff.mp hq
  refine den_dvd_iff.mpr ⟨a * b, ?_⟩
  rw [Rat.intCast_mul, ← ha, ← hb, Rat.natCast_mul]
  grind
theorem den_divInt_dvd {a b : Int} (h : b ≠ 0) : (Rat.divInt a b).den ∣ b.natAbs := by
  rw [Rat.den_divInt, if_neg h]
  exact Nat.div_dvd_of_dvd (Nat.gcd_dvd_left _ _)
/-- a bottom that divides D, worth from -B to B -/
def Dv (D B : Nat) (q : Rat) : Prop := q.den ∣ D ∧ -(B : Rat) ≤ q ∧ q ≤ (B : Rat)
theorem Dv.up {D B E C : Nat} {q : Rat} (h : Dv D B q) (e : D ∣ E) (b : B ≤ C) : Dv E C q := by
  have b' : (B : Rat) ≤ (C : Rat) := by exact_mod_cast b
  exact ⟨Nat.dvd_trans h.1 e, by have := h.2.1; grind, by have := h.2.2; grind⟩
theorem Dv.add {D B C : Nat} {p q : Rat} (hp : Dv D B p) (hq : Dv D C q) : Dv D (B + C) (p + q) := by
  obtain ⟨h1, h2, h3⟩ := hp
  obtain ⟨h4, h5, h6⟩ := hq
  refine ⟨dd_add h1 h4, ?_, ?_⟩ <;> rw [Rat.natCast_add] <;> grind
theorem Dv.sub {D B C : Nat} {p q : Rat} (hp : Dv D B p) (hq : Dv D C q) : Dv D (B + C) (p - q) := by
  obtain ⟨h1, h2, h3⟩ := hp
  obtain ⟨h4, h5, h6⟩ := hq
  refine ⟨dd_sub h1 h4, ?_, ?_⟩ <;> rw [Rat.natCast_add] <;> grind
theorem abs_mul_le {p q b c : Rat} (h2 : -b ≤ p) (h3 : p ≤ b) (h5 : -c ≤ q) (h6 : q ≤ c) : -(b * c) ≤ p * q ∧ p * q ≤ b * c := by
  have a1 := Rat.mul_nonneg (a := b - p) (b := c + q) (by grind) (by grind)
  have a2 := Rat.mul_nonneg (a := b + p) (b := c - q) (by grind) (by grind)
  have a3 := Rat.mul_nonneg (a := b - p) (b := c - q) (by grind) (by grind)
  have a4 := Rat.mul_nonneg (a := b + p) (b := c + q) (by grind) (by grind)
  constructor <;> grind
theorem Dv.mul {D B E C : Nat} {p q : Rat} (hp : Dv D B p) (hq : Dv E C q) : Dv (D * E) (B * C) (p * q) := by
  obtain ⟨h1, h2, h3⟩ := hp
  obtain ⟨h4, h5, h6⟩ := hq
  have := abs_mul_le h2 h3 h5 h6
  refine ⟨dd_mul h1 h4, ?_, ?_⟩ <;> rw [Rat.natCast_mul]
  · exact this.1
  · exact this.2
theorem num_le_of {q : Rat} {B : Nat} (h1 : -(B : Rat) ≤ q) (h2 : q ≤ (B : Rat)) : q.num.natAbs ≤ B * q.den := by
  have d0 : (0 : Rat) ≤ (q.den : Rat) := by exact_mod_cast Nat.zero_le _
  have e := rat_mul_den q
  have a1 : (q.num : Rat) ≤ ((B * q.den : Nat) : Rat) := by
    rw [← e, Rat.natCast_mul]
    exact Rat.mul_le_mul_of_nonneg_right h2 d0
  have a2 : -((B * q.den : Nat) : Rat) ≤ (q.num : Rat) := by
    rw [← e, Rat.natCast_mul]
    have := Rat.mul_le_mul_of_nonneg_right h1 d0
    grind
  have b1 : q.num ≤ ((B * q.den : Nat) : Int) := by exact_mod_cast a1
  have b2 : -((B * q.den : Nat) : Int) ≤ q.num := by
    rw [← Rat.intCast_le_intCast, Rat.intCast_neg, Rat.intCast_natCast]
    exact a2
  omega
theorem Dv.bd {D B n : Nat} {q : Rat} (h : Dv D B q) (h0 : 0 < D) (h1 : D < 2 ^ n) (h2 : B * D < 2 ^ n) : Bd n q := by
  have hd := Nat.le_of_dvd h0 h.1
  refine ⟨?_, by omega⟩
  have := num_le_of h.2.1 h.2.2
  have : B * q.den ≤ B * D := Nat.mul_le_mul_left _ hd
  omega
theorem Bd.dv {n : Nat} {q : Rat} (h : Bd n q) : Dv q.den (2 ^ n) q := by
  refine ⟨Nat.dvd_refl _, ?_, ?_⟩
  all_goals
    have d1 : 1 ≤ q.den := q.den_pos
    have h1 := h.1
    have e := rat_mul_den q
    have d0 : (1 : Rat) ≤ (q.den : Rat) := by exact_mod_cast d1
    have h3 : (q.num : Rat) ≤ ((2 ^ n : Nat) : Rat) := by
      have : q.num ≤ ((2 ^ n : Nat) : Int) := by omega
      exact_mod_cast this
    have h4 : -((2 ^ n : Nat) : Rat) ≤ (q.num : Rat) := by
      have : -((2 ^ n : Nat) : Int) ≤ q.num := by omega
      rw [← Rat.intCast_le_intCast, Rat.intCast_neg, Rat.intCast_natCast] at this
      exact this
    have n0 : (0 : Rat) ≤ ((2 ^ n : Nat) : Rat) := by exact_mod_cast Nat.zero_le _
    generalize ((2 ^ n : Nat) : Rat) = N at *
    generalize hd : (q.den : Rat) = d at *
  · rcases (Rat.le_total : -N ≤ q ∨ q ≤ -N) with c | c
    · exact c
    · have := Rat.mul_nonneg (show (0 : Rat) ≤ -N - q by grind) (show (0 : Rat) ≤ d - 1 by grind)
      have := Rat.mul_nonneg n0 (show (0 : Rat) ≤ d - 1 by grind)
      grind
  · rcases (Rat.le_total : q ≤ N ∨ N ≤ q) with c | c
    · exact c
    · have := Rat.mul_nonneg (show (0 : Rat) ≤ q - N by grind) (show (0 : Rat) ≤ d - 1 by grind)
      have := Rat.mul_nonneg n0 (show (0 : Rat) ≤ d - 1 by grind)
      grind
theorem num_pos_iff {q : Rat} : 0 < q.num ↔ 0 < q := by
  rw [Rat.lt_iff]
  simp
theorem num_nonpos_iff {q : Rat} : q.num ≤ 0 ↔ q ≤ 0 := by
  rw [Rat.le_iff]
  simp
theorem num_nonneg_iff {q : Rat} : 0 ≤ q.num ↔ 0 ≤ q := Rat.num_nonneg
theorem num_le_den_iff {q : Rat} : q.num ≤ (q.den : Int) ↔ q ≤ 1 := by
  rw [Rat.le_iff]
  simp
end Pm

namespace Pm
open PySem PySem.Spec PyProof.Rows L2
/-! ### deep data of tuples: they stay whatever lists do -/
inductive TD (K : PySem.W.Frag) (H : Hp) : V → PyData → Prop
  | int (i : Int) : TD K H (.int i) (.int i)
  | bl (b : Bool) : TD K H (.bl b) (.bool b)
  | non : TD K H .non .none
  | str (z : Str) : TD K H (.str z) (.str z)
  | tup {p : Addr} {xs : List V} {ds : List PyData} (h : Tp K H p xs) (l : xs.length = ds.length) (a : ∀ (i : Nat) (h1 : i < xs.length) (h2 : i < ds.length), TD K H xs[i] ds[i]) : TD K H (.ref p) (.tuple ds)
/-- a row of values that stand for data -/
structure TL (K : PySem.W.Frag) (H : Hp) (xs : List V) (ds : List PyData) : Prop where
  len : xs.length = ds.length
  at_ : ∀ (i : Nat) (h1 : i < xs.length) (h2 : i < ds.length), TD K H xs[i] ds[i]
section
variable {K : PySem.W.Frag} {H H' : Hp} {v x y z : V} {p : Addr} {xs : List V} {d : PyData} {ds : List PyData}
theorem TD.tm (h : TD K H v d) (e : Tm H H') : TD K H' v d := by
  induction h with
  | int i => exact .int i
  | bl b => exact .bl b
  | non => exact .non
  | str z => exact .str z
  | tup h l a ih => exact .tup (h.tm e) l fun i h1 h2 => ih i h1 h2
theorem TL.tm (h : TL K H xs ds) (e : Tm H H') : TL K H' xs ds := ⟨h.len, fun i h1 h2 => (h.at_ i h1 h2).tm e⟩
theorem TL.nil : TL K H [] [] := ⟨rfl, fun i h1 _ => absurd h1 (Nat.not_lt_zero _)⟩
theorem TL.cons (h : TD K H v d) (r : TL K H xs ds) : TL K H (v :: xs) (d :: ds) := ⟨by simp [r.len], fun i h1 h2 => by
  cases i with
  | zero => exact h
  | succ i => exact r.at_ i (by simpa using h1) (by simpa using h2)⟩
theorem TL.snoc (r : TL K H xs ds) (h : TD K H v d) : TL K H (xs ++ [v]) (ds ++ [d]) := ⟨by simp [r.len], fun i h1 h2 => by
  have l := r.len
  by_cases c : i < xs.length
  · rw [List.getElem_append_left c, List.getElem_append_left (by omega)]
    exact r.at_ i c (by omega)
  · simp at h1
    have e : i = xs.length := by omega
    have e2 : i = ds.length := by omega
    rw [List.getElem_append_right (by omega), List.getElem_append_right (by omega)]
    simpa using h⟩
theorem TL.append {ys : List V} {es : List PyData} (r : TL K H xs ds) (h : TL K H ys es) : TL K H (xs ++ ys) (ds ++ es) := ⟨by simp [r.len, h.len], fun i h1 h2 => by
  have l := r.len
  by_cases c : i < xs.length
  · rw [List.getElem_append_left c, List.getElem_append_left (by omega)]
    exact r.at_ i c (by omega)
  · rw [List.getElem_append_right (by omega), List.getElem_append_right (by omega)]
    have e : i - xs.length = i - ds.length := by omega
    simp at h1 h2
    have := h.at_ (i - xs.length) (by omega) (by omega)
    simp only [e] at this ⊢
    exact this⟩
theorem TL.get (r : TL K H xs ds) {i : Nat} (h : xs[i]? = some v) : ∃ d, ds[i]? = some d ∧ TD K H v d := by
  obtain ⟨h1, rfl⟩ := List.getElem?_eq_some_iff.mp h
  have l := r.len
  exact ⟨ds[i], List.getElem?_eq_getElem (by omega), r.at_ i h1 (by omega)⟩
theorem TL.to (r : TL K H xs ds) {i : Nat} (h : ds[i]? = some d) : ∃ v, xs[i]? = some v ∧ TD K H v d := by
  obtain ⟨h1, rfl⟩ := List.getElem?_eq_some_iff.mp h
  have l := r.len
  exact ⟨xs[i], List.getElem?_eq_getElem (by omega), r.at_ i (by omega) h1⟩
theorem TD.of (h : Tp K H p xs) (r : TL K H xs ds) : TD K H (.ref p) (.tuple ds) := .tup h r.len r.at_
theorem TD.inv (h : TD K H v (.tuple ds)) : ∃ p xs, v = .ref p ∧ Tp K H p xs ∧ TL K H xs ds := by
  cases h with
  | tup h l a => exact ⟨_, _, rfl, h, l, a⟩
theorem TD.inv_int {i : Int} (h : TD K H v (.int i)) : v = .int i := by cases h; rfl
theorem TD.inv_bool {b : Bool} (h : TD K H v (.bool b)) : v = .bl b := by cases h; rfl
theorem TD.inv_none (h : TD K H v .none) : v = .non := by cases h; rfl
theorem TL.inv1 (r : TL K H xs [d]) : ∃ x, xs = [x] ∧ TD K H x d := by
  have l := r.len
  match xs, l with
  | [x], _ => exact ⟨x, rfl, r.at_ 0 (by simp) (by simp)⟩
theorem TL.inv2 {d e : PyData} (r : TL K H xs [d, e]) : ∃ x y, xs = [x, y] ∧ TD K H x d ∧ TD K H y e := by
  have l := r.len
  match xs, l with
  | [x, y], _ => exact ⟨x, y, rfl, r.at_ 0 (by simp) (by simp), r.at_ 1 (by simp) (by simp)⟩
theorem TL.inv3 {d e f : PyData} (r : TL K H xs [d, e, f]) : ∃ x y z, xs = [x, y, z] ∧ TD K H x d ∧ TD K H y e ∧ TD K H z f := by
  have l := r.len
  match xs, l with
  | [x, y, z], _ => exact ⟨x, y, z, rfl, r.at_ 0 (by simp) (by simp), r.at_ 1 (by simp) (by simp), r.at_ 2 (by simp) (by simp)⟩
theorem dpAll_of : ∀ {xs : List V} {ds : List PyData}, xs.length = ds.length → (∀ (i : Nat) (h1 : i < xs.length) (h2 : i < ds.length), Dp K H xs[i] ds[i]) → DpAll K H xs ds
  | [], [], _, _ => .nil
  | x :: xs, d :: ds, l, a => .cons (a 0 (by simp) (by simp)) (dpAll_of (by simpa using l) fun i h1 h2 => a (i + 1) (by simpa using h1) (by simpa using h2))
theorem TD.dp (h : TD K H v d) : Dp K H v d := by
  induction h with
  | int i => exact .int i
  | bl b => exact .bl b
  | non => exact .non
  | str z => exact .str z
  | tup h l a ih => exact .tup h.sq (dpAll_of l ih)
theorem TL.dp (r : TL K H xs ds) : DpAll K H xs ds := dpAll_of r.len fun i h1 h2 => (r.at_ i h1 h2).dp
/-! shape and length of rows -/
theorem ShAll.all {n : Nat} : ∀ {ds : List PyData}, (∀ d ∈ ds, Sh n d) → ShAll n ds
  | [], _ => .nil
  | d :: ds, h => .cons (h d (List.mem_cons_self ..)) (ShAll.all fun e he => h e (List.mem_cons_of_mem _ he))
theorem OkAll.all {n m : Nat} : ∀ {ds : List PyData}, (∀ d ∈ ds, Ok n m d) → OkAll n m ds
  | [], _ => .nil
  | d :: ds, h => .cons (h d (List.mem_cons_self ..)) (OkAll.all fun e he => h e (List.mem_cons_of_mem _ he))
theorem i_reprW {p : Addr} {n m : Nat} {Q : VK} (h1 : Dp K H (.ref p) d) (h2 : Ok n m d) (hn : n ≤ 60) (hm : m ≤ 16000000) (h : Q (.str d.shown) H) : rReprD K [.ref p] H Q :=
  i_reprD h1 h2.sh h2.noDict (Nat.le_trans h2.dp hn) (Nat.le_trans (Nat.le_trans h2.ln hm) (by decide)) h
/-! data alike -/
theorem eqvAll_refl : ∀ {ds : List PyData}, (∀ d ∈ ds, PyData.eqv d d = true) → PyData.eqvAll ds ds = true
  | [], _ => by simp only [PyData.eqvAll]
  | d :: ds, h => by
    simp only [PyData.eqvAll, h d (List.mem_cons_self ..), eqvAll_refl fun e he => h e (List.mem_cons_of_mem _ he), Bool.and_self]
theorem eqv_refl_tup (h : ∀ d ∈ ds, PyData.eqv d d = true) : PyData.eqv (.tuple ds) (.tuple ds) = true := by simp only [PyData.eqv, eqvAll_refl h]
theorem eqv_refl_lst (h : ∀ d ∈ ds, PyData.eqv d d = true) : PyData.eqv (.list ds) (.list ds) = true := by simp only [PyData.eqv, eqvAll_refl h]
theorem eqv_refl_P (q : Rat) : PyData.eqv (dP q) (dP q) = true := by rw [eqv_P, decide_eq_true rfl]
theorem eqv_refl_int (i : Int) : PyData.eqv (.int i) (.int i) = true := by simp [PyData.eqv]
theorem eqvAll_P : ∀ ps qs : List Rat, PyData.eqvAll (ps.map dP) (qs.map dP) = decide (ps = qs)
  | [], [] => by simp [PyData.eqvAll]
  | [], q :: qs => by simp [PyData.eqvAll]
  | p :: ps, [] => by simp [PyData.eqvAll]
  | p :: ps, q :: qs => by
    rw [List.map_cons, List.map_cons]
    simp only [PyData.eqvAll, eqv_P, eqvAll_P ps qs]
    rw [Bool.eq_iff_iff]
    simp
theorem eqv_list_nil (d : PyData) (ds : List PyData) : PyData.eqv (.list (d :: ds)) (.list []) = false := by simp [PyData.eqv, PyData.eqvAll]
end
end Pm

namespace Pm
open PySem PySem.Spec PyProof.Rows L2
/-! ### payments, plain -/
structure Row where
  now : Rat
  inall : Rat
  debt : Rat
def dRow (r : Row) : PyData := .tuple [dP r.now, dP r.inall, dP r.debt]
def payNext (x : Rat) (r : Row) (t l : Rat) : Row :=
  if t - l ≤ 0 then ⟨0, r.inall, r.debt - (t - l)⟩
  else if r.debt < x * (t - l) then ⟨t - l - r.debt, r.inall + (t - l - r.debt), r.debt - r.debt⟩
  else ⟨t - l - x * (t - l), r.inall + (t - l - x * (t - l)), r.debt - x * (t - l)⟩
def tot (qs : List Rat) : Nat → Rat
  | 0 => 0
  | i + 1 => qs.getD i 0
def rowAt (x : Rat) (qs : List Rat) : Nat → Row
  | 0 => ⟨0, 0, 0⟩
  | i + 1 => payNext x (rowAt x qs i) (tot qs (i + 1)) (tot qs i)
def rowsTo (x : Rat) (qs : List Rat) (i : Nat) : List Row := (List.range i).map fun j => rowAt x qs (j + 1)
theorem rowsTo_zero (x : Rat) (qs : List Rat) : rowsTo x qs 0 = [] := rfl
theorem rowsTo_succ (x : Rat) (qs : List Rat) (i : Nat) : rowsTo x qs (i + 1) = rowsTo x qs i ++ [rowAt x qs (i + 1)] := by
  unfold rowsTo
  rw [List.range_succ, List.map_append]
  rfl
theorem rowsTo_len (x : Rat) (qs : List Rat) (i : Nat) : (rowsTo x qs i).length = i := by simp [rowsTo]
/-- a share -/
structure Shr (E : Nat) (x : Rat) : Prop where
  d : x.den ∣ E
  x0 : 0 < x
  x1 : x ≤ 1
structure RowOk (D E B C : Nat) (r : Row) : Prop where
  now : Dv (D * E) (2 * B) r.now
  now0 : 0 ≤ r.now
  inall : Dv (D * E) C r.inall
  debt : Dv (D * E) C r.debt
  debt0 : 0 ≤ r.debt
theorem Shr.fold {E : Nat} {x n : Rat} (h : Shr E x) (hn : 0 < n) : 0 ≤ x * n ∧ x * n ≤ n := by
  have := Rat.mul_nonneg (show 0 ≤ x by have := h.x0; grind) (show 0 ≤ n by grind)
  have := Rat.mul_nonneg (show 0 ≤ 1 - x by have := h.x1; grind) (show 0 ≤ n by grind)
  constructor <;> grind
theorem Shr.dv {E : Nat} {x : Rat} (h : Shr E x) : Dv E 1 x := ⟨h.d, by have := h.x0; grind, by have := h.x1; grind⟩
theorem dv_zero (D B : Nat) : Dv D B 0 := by
  have : (0 : Rat) ≤ (B : Rat) := by exact_mod_cast Nat.zero_le _
  exact ⟨Nat.one_dvd _, by grind, by grind⟩
theorem next_ok {D E B C : Nat} {x t l : Rat} {r : Row} (hx : Shr E x) (ht : Dv D B t) (hl : Dv D B l) (h : RowOk D E B C r) : RowOk D E B (C + 2 * B) (payNext x r t l) := by
  have hn : Dv D (2 * B) (t - l) := by
    have := ht.sub hl
    rwa [show B + B = 2 * B by omega] at this
  have hn2 : Dv (D * E) (2 * B) (t - l) := hn.up (Nat.dvd_mul_right ..) (Nat.le_refl _)
  have z2 : Dv (D * E) (2 * B) 0 := dv_zero _ _
  unfold payNext
  by_cases c : t - l ≤ 0
  · rw [if_pos c]
    refine ⟨z2, by grind, h.inall.up (Nat.dvd_refl _) (by omega), h.debt.sub hn2, ?_⟩
    have := h.debt0
    grind
  · rw [if_neg c]
    have hk := hx.fold (n := t - l) (by grind)
    have hk2 : Dv (D * E) (2 * B) (x * (t - l)) := by
      have := hx.dv.mul hn
      rwa [Nat.mul_comm E D, Nat.one_mul] at this
    have e2 : ((2 * B : Nat) : Rat) = ((2 * B : Nat) : Rat) := rfl
    have hn3 := hn2.2
    have key : ∀ k : Rat, 0 ≤ k → k ≤ t - l → k.den ∣ D * E → k ≤ r.debt → RowOk D E B (C + 2 * B) ⟨t - l - k, r.inall + (t - l - k), r.debt - k⟩ := by
      intro k k0 k1 kd k2
      have kD : Dv (D * E) (2 * B) k := ⟨kd, by grind, by grind⟩
      have nD : Dv (D * E) (2 * B) (t - l - k) := ⟨dd_sub hn2.1 kd, by grind, by grind⟩
      exact ⟨nD, by grind, h.inall.add nD, h.debt.sub kD, by grind⟩
    by_cases c2 : r.debt < x * (t - l)
    · rw [if_pos c2]
      exact key r.debt h.debt0 (by grind) h.debt.1 (by grind)
    · rw [if_neg c2]
      exact key (x * (t - l)) hk.1 hk.2 hk2.1 (by grind)
theorem tot_ok {D B : Nat} {qs : List Rat} (h : ∀ q ∈ qs, Dv D B q) : ∀ i, i ≤ qs.length → Dv D B (tot qs i)
  | 0, _ => dv_zero _ _
  | i + 1, hi => by
    have e : tot qs (i + 1) = qs[i] := by simp [tot, List.getD_eq_getElem?_getD, List.getElem?_eq_getElem (show i < qs.length by omega)]
    rw [e]
    exact h _ (List.getElem_mem _)
theorem row_ok {D E B : Nat} {x : Rat} {qs : List Rat} (hx : Shr E x) (h : ∀ q ∈ qs, Dv D B q) : ∀ i, i ≤ qs.length → RowOk D E B (i * (2 * B)) (rowAt x qs i)
  | 0, _ => by
    have z : ∀ C : Nat, Dv (D * E) C 0 := fun C => dv_zero _ _
    exact ⟨z _, Rat.le_refl, z _, z _, Rat.le_refl⟩
  | i + 1, hi => by
    have := next_ok hx (tot_ok h (i + 1) hi) (tot_ok h i (by omega)) (row_ok hx h i (by omega))
    rwa [show i * (2 * B) + 2 * B = (i + 1) * (2 * B) by rw [Nat.add_mul, Nat.one_mul]] at this
/-- how great it all may be -/
structure Lim (D E : Nat) : Prop where
  p : 0 < D * E
  l : D * E * 2 ^ 40 < 2 ^ 1900
theorem Lim.bd {D E B : Nat} {q : Rat} (L : Lim D E) (h : Dv (D * E) B q) (hB : B ≤ 2 ^ 40) : Bd 1900 q := by
  refine h.bd L.p ?_ ?_
  · have := L.l
    have := Nat.le_mul_of_pos_right (D * E) (show 0 < 2 ^ 40 by decide)
    omega
  · rw [Nat.mul_comm B]
    exact Nat.lt_of_le_of_lt (Nat.mul_le_mul_left _ hB) L.l
theorem Lim.bdL {D E B : Nat} {q : Rat} (L : Lim D E) (h : Dv D B q) (hB : B ≤ 2 ^ 40) : Bd 1900 q := L.bd (h.up (Nat.dvd_mul_right ..) (Nat.le_refl _)) hB
theorem Lim.bdR {D E B : Nat} {q : Rat} (L : Lim D E) (h : Dv E B q) (hB : B ≤ 2 ^ 40) : Bd 1900 q := L.bd (h.up (Nat.dvd_mul_left ..) (Nat.le_refl _)) hB
theorem ok_row {r : Row} (h1 : Bd 1900 r.now) (h2 : Bd 1900 r.inall) (h3 : Bd 1900 r.debt) : Ok 2 12100 (dRow r) :=
  (Ok.tup' (.cons' (ok_P (h1.mono (by decide))) (.cons' (ok_P (h2.mono (by decide))) (.cons' (ok_P (h3.mono (by decide))) .nil')))).mono (by decide) (Nat.le_of_ble_eq_true rfl)
theorem sh_row (r : Row) : Sh 2 (dRow r) := .tup (.cons (sh_P (n := 0) _) (.cons (sh_P (n := 0) _) (.cons (sh_P (n := 0) _) .nil)))
theorem eqv_refl_row (r : Row) : PyData.eqv (dRow r) (dRow r) = true := eqv_refl_tup fun d hd => by
  simp only [List.mem_cons, List.not_mem_nil, or_false] at hd
  rcases hd with rfl | rfl | rfl <;> exact eqv_refl_P _
def dRows (rs : List Row) : PyData := .tuple (rs.map dRow)
theorem sh_rows (rs : List Row) : Sh 3 (dRows rs) := .tup (.all fun d hd => by
  obtain ⟨r, _, rfl⟩ := List.mem_map.mp hd
  exact sh_row r)
theorem eqv_refl_rows (rs : List Row) : PyData.eqv (dRows rs) (dRows rs) = true := eqv_refl_tup fun d hd => by
  obtain ⟨r, _, rfl⟩ := List.mem_map.mp hd
  exact eqv_refl_row r
theorem rows_bd {D E B : Nat} {x : Rat} {qs : List Rat} (L : Lim D E) (hx : Shr E x) (h : ∀ q ∈ qs, Dv D B q) (hl : qs.length ≤ 122) (hB : B ≤ 2 ^ 30) : ∀ i, i ≤ qs.length → Bd 1900 (rowAt x qs i).now ∧ Bd 1900 (rowAt x qs i).inall ∧ Bd 1900 (rowAt x qs i).debt := fun i hi => by
  have r := row_ok hx h i hi
  have b : i * (2 * B) ≤ 2 ^ 40 := by
    have := Nat.mul_le_mul (show i ≤ 122 by omega) (show 2 * B ≤ 2 ^ 31 by omega)
    exact Nat.le_trans this (by decide)
  exact ⟨L.bd r.now (by omega), L.bd r.inall b, L.bd r.debt b⟩
theorem ok_rows {D E B : Nat} {x : Rat} {qs : List Rat} (L : Lim D E) (hx : Shr E x) (h : ∀ q ∈ qs, Dv D B q) (hl : qs.length ≤ 122) (hB : B ≤ 2 ^ 30) : Ok 3 1500000 (dRows (rowsTo x qs qs.length)) := by
  refine (Ok.tup (n := 2) (m := 12100) (k := 122) (.all fun d hd => ?_) ?_).mono (by decide) (by decide)
  · obtain ⟨r, hr, rfl⟩ := List.mem_map.mp hd
    obtain ⟨j, hj, rfl⟩ := List.mem_map.mp hr
    obtain ⟨b1, b2, b3⟩ := rows_bd L hx h hl hB (j + 1) (by have := List.mem_range.mp hj; omega)
    exact ok_row b1 b2 b3
  · rw [List.length_map, rowsTo_len]
    exact hl
/-! where it stands -/
section
variable {K : PySem.W.Frag} {H H' : Hp} {p : Addr} {q : Rat} {v : V} {qs : List Rat} {xs : List V}
theorem PartTp.td (h : Tp K H p [.int q.num, .int (q.den : Int)]) : TD K H (.ref p) (dP q) := .of h (.cons (.int _) (.cons (.int _) .nil))
theorem TD.partTp (h : TD K H v (dP q)) : ∃ p, v = .ref p ∧ Tp K H p [.int q.num, .int (q.den : Int)] := by
  obtain ⟨p, xs, rfl, h1, r⟩ := TD.inv h
  obtain ⟨x, y, rfl, h2, h3⟩ := r.inv2
  cases h2.inv_int
  cases h3.inv_int
  exact ⟨p, rfl, h1⟩
end
end Pm

namespace Pm
open PySem PySem.Spec PyProof.Rows L2
/-! ### for a, b in zip(list, tuple) -/
/-- a list and a tuple, walked together -/
def ItLT (K : PySem.W.Frag) (a b : Addr) : It where
  go := fun i H => ∃ (xs ys : List V) (x y : V), (SqL K H a xs ∧ SqT K H b ys) ∧ xs[i]? = some x ∧ ys[i]? = some y
  yld := fun i H v H' => ∃ T x y, (v = .ref T ∧ H T = none) ∧ H' = upd H T (.tup [x, y]) ∧ ∀ xs ys, SqL K H a xs → SqT K H b ys → xs[i]? = some x ∧ ys[i]? = some y
  stop := fun i H => ∃ xs ys : List V, (SqL K H a xs ∧ SqT K H b ys) ∧ i = xs.length ∧ i = ys.length
/-- how its cells stand ahead of turn i -/
structure LTs (z TI TO j1 j2 a b : Addr) (i : Nat) (h : Heap) : Prop where
  hz : IsZip h z TI TO .none
  hI : IsTupOf2 h TI (.ref j1) (.ref j2)
  hO : ∃ u v, IsTupOf2 h TO u v
  l1 : h.IsListIter j1 a i
  l2 : h.IsTupleIter j2 b i
theorem five {c z TI TO j1 j2 : Addr} {R : Addr → Prop} (h : c ∈ [z, TI, TO, j1, j2]) (a1 : R z) (a2 : R TI) (a3 : R TO) (a4 : R j1) (a5 : R j2) : R c := by
  simp only [List.mem_cons, List.not_mem_nil, or_false] at h
  rcases h with rfl | rfl | rfl | rfl | rfl <;> assumption
theorem LTs.some {z TI TO j1 j2 a b : Addr} {i : Nat} {h : Heap} (st : LTs z TI TO j1 j2 a b i h) : ∀ c ∈ [z, TI, TO, j1, j2], ∃ o, h.get? c = .some o ∧ ∀ m, o.data ≠ .cell m := by
  intro c hc
  obtain ⟨u, v, hO⟩ := st.hO
  obtain ⟨oa, ea, _, da⟩ := st.l1
  obtain ⟨ob, eb, _, db⟩ := st.l2
  exact five (R := fun c => ∃ o, h.get? c = .some o ∧ ∀ m, o.data ≠ .cell m) hc ⟨_, st.hz, fun _ q => nomatch q⟩ ⟨_, st.hI, fun _ q => nomatch q⟩ ⟨_, hO, fun _ q => nomatch q⟩ ⟨oa, ea, fun m q => by rw [da] at q; cases q⟩ ⟨ob, eb, fun m q => by rw [db] at q; cases q⟩
theorem turn_LT {P : Program} {w : World} {K : PySem.W.Frag} {es : List Expr} {kk : Nat} {tp : Pos} {a b z TI TO j1 j2 : Addr} (S : ZipSep2 z TI TO j1 j2 [j1, a] [j2, b]) (na : a ≠ j1) (nb : b ≠ j2) :
    Turn P w K (.Tuple es kk tp) (ItLT K a b) [z, TI, TO, j1, j2] z (LTs z TI TO j1 j2 a b) := by
  have nf : ∀ {c : Addr}, c ∉ [z, TI, TO, j1, j2] → (c ≠ z ∧ c ≠ TI) ∧ c ≠ TO ∧ c ≠ j1 ∧ c ≠ j2 := by
    intro c hc
    simp only [List.mem_cons, List.not_mem_nil, or_false, not_or] at hc
    exact ⟨⟨hc.1, hc.2.1⟩, hc.2.2.1, hc.2.2.2.1, hc.2.2.2.2⟩
  refine { mem := List.mem_cons_self .., obj := fun i h st => st.some, keep := fun i h h2 st kp => ?_, item := ?_, done := ?_, self := fun A i s Q E st q => wpAny_pyIter_zip st.hz q }
  · obtain ⟨u, v, hO⟩ := st.hO
    exact { hz := kp z (by simp) _ st.hz, hI := kp TI (by simp) _ st.hI, hO := ⟨u, v, kp TO (by simp) _ hO⟩, l1 := st.l1.at fun o q => kp j1 (by simp) o q, l2 := st.l2.at fun o q => kp j2 (by simp) o q }
  · intro X eP ew eK calm i pins s σ H E I fp st go
    cases eP
    cases ew
    cases eK
    obtain ⟨xs, ys, x, y, ⟨qa, qb⟩, hx, hy⟩ := go
    obtain ⟨us, ru, pu, _⟩ := I.list qa
    obtain ⟨vs, rv, pv, _⟩ := I.tuple qb
    obtain ⟨u, hu, r1⟩ := ru.get hx
    obtain ⟨v, hv, r2⟩ := rv.get hy
    obtain ⟨u0, v0, hO⟩ := st.hO
    have low : ∀ c ∈ [z, TI, TO, j1, j2], c < s.heap.objs.size := fun c hc => let ⟨_, e, _⟩ := st.some c hc; Heap.lt_size e
    have iu : i < us.toArray.size := by
      have := (List.getElem?_eq_some_iff.mp hu).1
      simpa using this
    have iv : i < vs.toArray.size := by
      have := (List.getElem?_eq_some_iff.mp hv).1
      simpa using this
    refine wpAny_pyNext_zipD2_item S (Draws.list (A := X.A.in1) (I.ok.hd calm) j1 a na us.toArray) (Draws.tuple (A := X.A.in1) (I.ok.hd calm) j2 b nb vs.toArray) st.hz st.hI hO ⟨st.l1, pu.isList⟩ ⟨st.l2, pv⟩ iu iv ?_
    intro u1 v1 h1 tk e1 e2 z1 O1 d1 d2 T1 sz kp
    obtain rfl : u1 = u := by
      have e3 : us[i]? = .some u1 := by simpa using e1
      exact Option.some.inj (e3.symm.trans hu)
    obtain rfl : v1 = v := by
      have e3 : vs[i]? = .some v1 := by simpa using e2
      exact Option.some.inj (e3.symm.trans hv)
    refine ⟨_, rfl, wpAny_letOwnedTupleGo_zip (s := { s with heap := h1, toks := tk }) z1 fun h2 z2 sb => ?_⟩
    have Tz : s.heap.objs.size ≠ z := fun e => absurd (low z (by simp)) (by rw [← e]; exact Nat.lt_irrefl _)
    have T2 := (sb.2 _ Tz).trans T1
    have fresh : H s.heap.objs.size = none := I.hok.fresh (Nat.le_refl _)
    have made : ObjOk X.prog X.w (upd H s.heap.objs.size (.tup [x, y])) h2 s.heap.objs.size (.tup [x, y]) := ⟨Nat.le_trans (Nat.le_refl 2) (by decide), [u1, v1], .cons r1 (.cons r2 .nil), ⟨_, T2, rfl, _, rfl⟩⟩
    have J := I.turnedNew (t' := tk) (ch := [z, TI, TO, j1, j2]) (T := s.heap.objs.size) (ob := .tup [x, y]) (h' := h2) (fun c o hc q => by
      obtain ⟨⟨c1, c2⟩, c3, c4, c5⟩ := nf hc
      exact (sb.2 c c1).trans (kp c o c1 c3 c4 c5 q)) fp (Nat.le_refl _) made
    refine ⟨.ref s.heap.objs.size, _, J, rfl, ⟨_, x, y, ⟨rfl, fresh⟩, rfl, fun l m hl hm => ?_⟩, ?_, fun c hc => ?_⟩
    · rw [I.list_inj hl qa, I.tuple_inj hm qb]
      exact ⟨hx, hy⟩
    · exact { hz := z2, hI := (sb.2 _ S.TIz).trans (kp TI _ S.TIz S.TITO S.TIi1 S.TIi2 st.hI), hO := ⟨u1, v1, (sb.2 _ S.TOz).trans O1⟩, l1 := d1.1.at fun o q => (sb.2 j1 (Ne.symm S.zi1)).trans q, l2 := d2.1.at fun o q => (sb.2 j2 (Ne.symm S.zi2)).trans q }
    · rw [upd_ne (Nat.ne_of_lt (low c hc))]
      exact (fp c hc).1
  · intro X eP ew eK calm i pins s σ H E I fp st en
    cases eP
    cases ew
    cases eK
    obtain ⟨xs, ys, ⟨qa, qb⟩, ex, ey⟩ := en
    obtain ⟨us, ru, pu, _⟩ := I.list qa
    obtain ⟨vs, rv, pv, _⟩ := I.tuple qb
    obtain ⟨u0, v0, hO⟩ := st.hO
    have k1 := ru.length
    have k2 := rv.length
    refine wpAny_pyNext_zipD2_end S (Draws.list (A := X.A.in1) (I.ok.hd calm) j1 a na us.toArray) (Draws.tuple (A := X.A.in1) (I.ok.hd calm) j2 b nb vs.toArray) st.hz st.hI hO ⟨st.l1, pu.isList⟩ ⟨st.l2, pv⟩ (by simp; omega) (by simp; omega) (.inl (by simp; omega)) ?_
    intro h1 tk kp
    refine ⟨rfl, I.turnedL (t' := tk) (ch := [z, TI, TO, j1, j2]) (fun c o hc q => ?_) fp⟩
    obtain ⟨⟨c1, c2⟩, c3, c4, c5⟩ := nf hc
    exact kp c o c1 c3 c4 c5 q
def iZipLT (K : PySem.W.Frag) (ta : TA) : TI := fun σ H R => ta σ H fun vs H1 => ∃ a b xs ys, vs = [.ref a, .ref b] ∧ (SqL K H1 a xs ∧ SqT K H1 b ys) ∧ R (ItLT K a b) H1
theorem pi_zipLT {X : Cx} {e f : Expr} {ta : TA} {p q tp : Pos} {es : List Expr} {kk : Nat} (hg : Gl X "zip") (hm : X.mg "zip" = none) (ha : PA X [e, f] ta)
    (hs : starEach [e, f] X.env = (false, eval e X.env) :: starEach [f] X.env := by rfl) (hpl : (backTo q (starEach [f] X.env)).any (·.1) = false := by rfl) :
    PI X (.Tuple es kk tp) (.Call (.Name "zip" p) [e, f] [] q) (iZipLT X.K ta) := by
  constructor
  intro pins s σ H R I h
  refine Call_ (ld_blt I hg hm boot_zip (callWith_type1 (thn (ha.run q pins s σ H _ I h) ?_) hs hpl))
  rintro ws s1 ⟨vs, H1, I1, r1, a, b, xs, ys, rfl, ⟨qa, qb⟩, want⟩
  cases r1 with
  | cons ra rr =>
    cases rr with
    | cons rb rr =>
      cases rr
      cases ra
      cases rb
      obtain ⟨us, ru, pu, _⟩ := I1.list qa
      obtain ⟨vs, rv, pv, _⟩ := I1.tuple qb
      have la : a < s1.heap.objs.size := pu.lt
      have lb : b < s1.heap.objs.size := by
        obtain ⟨o, ho, _⟩ := id pv
        exact Heap.lt_size ho
      refine zip_begins2 (begins_list a us.toArray) (begins_tuple b vs.toArray) pu.isList pv fun h2 hz hI hO e1 e2 sz kp => wpAny_pyIter_zip hz ?_
      have I2 : Inv X pins σ H1 { s1 with heap := h2 } := I1.kept (t' := s1.toks) kp
      have Z := zip_sep2 (N := s1.heap.objs.size) (fp1 := [a]) (fp2 := [b]) (by simpa using la) (by simpa using lb)
      refine ⟨s1.heap.objs.size + 4, [s1.heap.objs.size + 4, s1.heap.objs.size + 2, s1.heap.objs.size + 3, s1.heap.objs.size, s1.heap.objs.size + 1], _, _, H1, rfl, I2, turn_LT Z (Nat.ne_of_lt la) (Nat.ne_of_lt (Nat.lt_succ_of_lt lb)), { hz := hz, hI := hI, hO := ⟨_, _, hO⟩, l1 := ⟨_, e1, rfl, rfl⟩, l2 := ⟨_, e2, rfl, rfl⟩ }, fun c hc => ?_, want⟩
      have le : s1.heap.objs.size ≤ c := five (R := fun c => s1.heap.objs.size ≤ c) hc (Nat.le_add_right ..) (Nat.le_add_right ..) (Nat.le_add_right ..) (Nat.le_refl _) (Nat.le_add_right ..)
      exact I1.fpOk le (I1.hok.fresh le)
theorem k_piZLT (K : PySem.W.Frag) {X : Cx} {e f : Expr} {ta : TA} {p q tp : Pos} {es : List Expr} {kk : Nat} (hg : Gl X "zip") (hm : X.mg "zip" = none) (ha : PA X [e, f] ta)
    (hs : starEach [e, f] X.env = (false, eval e X.env) :: starEach [f] X.env := by rfl) (hpl : (backTo q (starEach [f] X.env)).any (·.1) = false := by rfl) (hK : X.K = K := by rfl) :
    PI X (.Tuple es kk tp) (.Call (.Name "zip" p) [e, f] [] q) (iZipLT K ta) := by subst hK; exact pi_zipLT hg hm ha hs hpl
section
variable {K : PySem.W.Frag} {σ : L2.St} {H : Hp} {ts : TS} {D : Ends} {g : TG} {tA : TA}
theorem i_iZLT {R : It → Hp → Prop} (h : tA σ H fun vs H1 => ∃ a b xs ys, vs = [.ref a, .ref b] ∧ (SqL K H1 a xs ∧ SqT K H1 b ys) ∧ R (ItLT K a b) H1) : iZipLT K tA σ H R := h
theorem i_itZLT {R : Addr → Addr → Prop} {a b : Addr} {xs ys : List V} (h1 : SqL K H a xs) (h2 : Tp K H b ys) (h : R a b) : ∃ a' b' xs ys, [V.ref a, V.ref b] = [.ref a', .ref b'] ∧ (SqL K H a' xs ∧ SqT K H b' ys) ∧ R a' b' := ⟨a, b, xs, ys, rfl, ⟨h1, h2.sq⟩, h⟩
theorem i_forZLT {a b : Addr} {xs ys : List V} (hl : xs.length = ys.length) (I : Nat → L2.St → Hp → Prop) (h0 : I 0 σ H) (hq : ∀ i σ H, i ≤ xs.length → I i σ H → SqL K H a xs ∧ Tp K H b ys)
    (hs : ∀ i x y σ' H0 T H', xs[i]? = some x → ys[i]? = some y → I i σ' H0 → New H0 T → Same H0 H' → TpH H' T [x, y] → g (.ref T) σ' H' fun σ2 H2 => ts { D with nx := I (i + 1), ct := I (i + 1), bk := D.nx } σ2 H2)
    (hd : ∀ σ' H', I xs.length σ' H' → D.nx σ' H') : ForI (ItLT K a b) g ts D σ H := by
  refine ⟨fun i m σ H => (m = xs.length - i ∧ i ≤ xs.length) ∧ I i σ H, ⟨_, ⟨rfl, Nat.zero_le _⟩, h0⟩, ?_⟩
  rintro i m σ' H' ⟨⟨rfl, hi⟩, hI⟩
  obtain ⟨q1, q2⟩ := hq i σ' H' hi hI
  by_cases c : i < xs.length
  · refine .inr ⟨⟨xs, ys, xs[i], ys[i]'(by omega), ⟨q1, q2.sq⟩, List.getElem?_eq_getElem c, List.getElem?_eq_getElem (by omega)⟩, fun σ2 H2 => I (i + 1) σ2 H2, fun σ2 H2 h2 => ⟨xs.length - (i + 1), by omega, ⟨rfl, by omega⟩, h2⟩, ?_⟩
    rintro v H2 ⟨T, x, y, ⟨rfl, nT⟩, rfl, hxy⟩
    obtain ⟨hx, hy⟩ := hxy xs ys q1 q2.sq
    exact hs i x y σ' H' T _ hx hy hI nT (same_new nT) ⟨upd_same⟩
  · have e : i = xs.length := by omega
    subst e
    exact .inl ⟨⟨xs, ys, ⟨q1, q2.sq⟩, rfl, hl⟩, hd σ' H' hI⟩
end
end Pm

namespace Pm
open PySem PySem.Spec PyProof.Rows L2
/-! ### for i, b in enumerate(tuple) -/
/-- an enumerate's cell, as it is made over the iterator at j -/
abbrev enO (j : Addr) : Obj := { cls := .type "enumerate", data := .fields #[.none, .bool false, .ref j, rawInt 0, .none, .none] }
theorem en_new {v : Value} {o : Obj} {P : Heap → Prop} (B : Begins v o P) : Meets (Builtin.«enumerate.__new__» ⟨[.type "enumerate", v], []⟩) (fun _ R s => P s.heap ∧
    R (.ok (.ret (.ref (s.heap.push o).objs.size))) { s with heap := (s.heap.push o).push (enO s.heap.objs.size) }) := by
  refine .of_wp fun prog w A R s hh => ?_
  obtain ⟨hp, g, d, tk, os⟩ := s
  obtain ⟨p1, want⟩ := hh
  have su := sub_enumerate
  have go : ∀ {A' : Around} {E : Value → Shared → Prop} {Q : Value → Shared → Prop}, Q (.ref hp.objs.size) ⟨hp.push o, g, d, tk, os⟩ → wpAny (model prog w) A' (pyIter v) Q E ⟨hp, g, d, tk, os⟩ := fun q => B.iter prog w _ _ _ _ p1 q
  wp_walk using go
  refine wpAny_stack_any fun st => wpAny_pure ?_
  split
  · rename_i cc _ _ _ _ _
    cases (cc == Value.type "enumerate")
    all_goals
      wp_walk using go
      exact ⟨_, rfl, want⟩
  · wp_walk using go
    exact ⟨_, rfl, want⟩
theorem call_en {prog : Program} {w : World} {A : Around} {E : Value → Shared → Prop} {s : Shared} {v : Value} {o : Obj} {P : Heap → Prop} {Q : Value → Shared → Prop} (B : Begins v o P) (p1 : P s.heap)
    (want : ∀ h2, IsEnum h2 (s.heap.objs.size + 1) s.heap.objs.size 0 .none → h2.get? s.heap.objs.size = some o → (∀ c x, s.heap.get? c = some x → h2.get? c = some x) → Q (.ref (s.heap.objs.size + 1)) { s with heap := h2 }) :
    wpAny (model prog w) A (call (.type "enumerate") [v]) Q E s := by
  refine callType_new F.called_enumerate (by decide) (F.typeCall_enumerate_1 _) (F.newCall_enumerate_1 _) (fun x => F.args_object_init_2 x _) F.entry_enumerate_new (en_new B) ⟨p1, ?_⟩
  have sz : (s.heap.push o).objs.size = s.heap.objs.size + 1 := Heap.size_push ..
  show _ ∧ _
  rw [sz]
  have made := Heap.get?_push_size (s.heap.push o) (o := enO s.heap.objs.size) rfl
  rw [sz] at made
  have en : IsEnum ((s.heap.push o).push (enO s.heap.objs.size)) (s.heap.objs.size + 1) s.heap.objs.size 0 .none := made
  exact ⟨⟨_, en, rfl⟩, want _ en (Heap.get?_push_of_some _ (Heap.get?_push_size _ B.free)) fun c x q => Heap.get?_push_of_some _ (Heap.get?_push_of_some _ q)⟩
/-- a tuple, walked with numbers -/
def ItET (K : PySem.W.Frag) (a : Addr) : It where
  go := fun i H => ∃ (xs : List V) (x : V), SqT K H a xs ∧ xs[i]? = some x
  yld := fun i H v H' => ∃ T x, (v = .ref T ∧ H T = none) ∧ H' = upd H T (.tup [.int (i : Nat), x]) ∧ ∀ xs, SqT K H a xs → xs[i]? = some x
  stop := fun i H => ∃ xs : List V, SqT K H a xs ∧ i = xs.length
structure ETs (e j a : Addr) (i : Nat) (h : Heap) : Prop where
  he : ∃ u, IsEnum h e j ((i : Nat) : Int) u
  l : h.IsTupleIter j a i
theorem turn_ET {P : Program} {w : World} {K : PySem.W.Frag} {es : List Expr} {kk : Nat} {tp : Pos} {a e j : Addr} (ne : e ≠ j) (na : a ≠ j) (nea : e ≠ a) :
    Turn P w K (.Tuple es kk tp) (ItET K a) [e, j] e (ETs e j a) := by
  have two : ∀ {c : Addr} {R : Addr → Prop}, c ∈ [e, j] → R e → R j → R c := by
    intro c R hc r1 r2
    simp only [List.mem_cons, List.not_mem_nil, or_false] at hc
    rcases hc with rfl | rfl <;> assumption
  have nf : ∀ {c : Addr}, c ∉ [e, j] → c ≠ e ∧ c ≠ j := by
    intro c hc
    simp only [List.mem_cons, List.not_mem_nil, or_false, not_or] at hc
    exact hc
  refine { mem := List.mem_cons_self .., obj := fun i h st c hc => ?_, keep := fun i h h2 st kp => ?_, item := ?_, done := ?_, self := fun A i s Q E st q => ?_ }
  · obtain ⟨u, hu⟩ := st.he
    obtain ⟨o, eo, _, dd⟩ := st.l
    exact two (R := fun c => ∃ o, h.get? c = some o ∧ ∀ m, o.data ≠ .cell m) hc ⟨_, hu, fun _ q => nomatch q⟩ ⟨o, eo, fun m q => by rw [dd] at q; cases q⟩
  · obtain ⟨u, hu⟩ := st.he
    exact { he := ⟨u, kp e (by simp) _ hu⟩, l := st.l.at fun o q => kp j (by simp) o q }
  · intro X eP ew eK calm i pins s σ H E I fp st go
    cases eP
    cases ew
    cases eK
    obtain ⟨xs, x, qa, hx⟩ := go
    obtain ⟨vs, rv, pv, _⟩ := I.tuple qa
    obtain ⟨v, hv, r2⟩ := rv.get hx
    obtain ⟨u0, hu0⟩ := st.he
    have le : e < s.heap.objs.size := Heap.lt_size hu0
    have lj : j < s.heap.objs.size := by
      obtain ⟨_, q, _⟩ := st.l
      exact Heap.lt_size q
    have iv : i < vs.toArray.size := by
      have := (List.getElem?_eq_some_iff.mp hv).1
      simpa using this
    refine wpAny_pyNext_enum_itemD (Draws.tuple (A := X.A.in1) (I.ok.hd calm) j a na vs.toArray) hu0 ⟨st.l, pv⟩ iv ne (by simp [ne, nea]) ?_
    intro v1 h1 tk e2 O1 d2 T1 sz kp
    obtain rfl : v1 = v := by
      have e3 : vs[i]? = some v1 := by simpa using e2
      exact Option.some.inj (e3.symm.trans hv)
    refine ⟨_, rfl, wpAny_letOwnedTupleGo_enum (s := { s with heap := h1, toks := tk + 1 }) O1 fun h2 z2 sb => ?_⟩
    have T2 := (sb.2 _ (Nat.ne_of_gt le)).trans T1
    have fresh : H s.heap.objs.size = none := I.hok.fresh (Nat.le_refl _)
    have made : ObjOk X.prog X.w (upd H s.heap.objs.size (.tup [.int (i : Nat), x])) h2 s.heap.objs.size (.tup [.int (i : Nat), x]) := ⟨Nat.le_trans (Nat.le_refl 2) (by decide), [.int i tk, v1], .cons ⟨_, rfl⟩ (.cons r2 .nil), ⟨_, T2, rfl, _, rfl⟩⟩
    have J := I.turnedNew (t' := tk + 1) (ch := [e, j]) (T := s.heap.objs.size) (ob := .tup [.int (i : Nat), x]) (h' := h2) (fun c o hc q => by
      obtain ⟨c1, c2⟩ := nf hc
      exact (sb.2 c c1).trans (kp c o c1 c2 q)) fp (Nat.le_refl _) made
    refine ⟨.ref s.heap.objs.size, _, J, rfl, ⟨_, x, ⟨rfl, fresh⟩, rfl, fun m hm => ?_⟩, ?_, fun c hc => ?_⟩
    · rw [I.tuple_inj hm qa]
      exact hx
    · have e5 : ((i + 1 : Nat) : Int) = (i : Int) + 1 := by omega
      exact { he := ⟨v1, by rw [e5]; exact z2⟩, l := d2.1.at fun o q => (sb.2 j (Ne.symm ne)).trans q }
    · rw [upd_ne (Nat.ne_of_lt (two (R := fun c => c < s.heap.objs.size) hc le lj))]
      exact (fp c hc).1
  · intro X eP ew eK calm i pins s σ H E I fp st en
    cases eP
    cases ew
    cases eK
    obtain ⟨xs, qa, ex⟩ := en
    obtain ⟨vs, rv, pv, _⟩ := I.tuple qa
    obtain ⟨u0, hu0⟩ := st.he
    have k1 := rv.length
    have k2 : i = vs.toArray.size := by simp; omega
    have D := Draws.tuple (prog := X.prog) (w := X.w) (A := X.A.in1) (I.ok.hd calm) j a na vs.toArray
    have st2 : s.heap.IsTupleIter j a vs.toArray.size ∧ s.heap.IsTuple a vs.toArray := ⟨by rw [← k2]; exact st.l, pv⟩
    refine wpAny_pyNext_enum_endD D hu0 st2 fun h1 eb => ⟨rfl, ?_⟩
    obtain ⟨f0, f1, f2, f3, f4, f5⟩ := fp j (by simp)
    exact I.turned (t' := s.toks) (fun c o hc q => eb c o hc q) f0 f1 f3 f4 f5
  · obtain ⟨u, hu⟩ := st.he
    exact wpAny_pyIter_enum hu q
def iEnT (K : PySem.W.Frag) (ta : TA) : TI := fun σ H R => ta σ H fun vs H1 => ∃ a xs, vs = [.ref a] ∧ SqT K H1 a xs ∧ R (ItET K a) H1
theorem pi_enT {X : Cx} {e : Expr} {ta : TA} {p q tp : Pos} {es : List Expr} {kk : Nat} (hg : Gl X "enumerate") (hm : X.mg "enumerate" = none) (ha : PA X [e] ta) (hs : starEach [e] X.env = [(false, eval e X.env)] := by rfl) :
    PI X (.Tuple es kk tp) (.Call (.Name "enumerate" p) [e] [] q) (iEnT X.K ta) := by
  constructor
  intro pins s σ H R I h
  refine Call_ (ld_blt I hg hm boot_enumerate (callWith_type1 (thn (ha.run q pins s σ H _ I h) ?_) hs rfl))
  rintro ws s1 ⟨vs, H1, I1, r1, a, xs, rfl, qa, want⟩
  cases r1 with
  | cons ra rr =>
    cases rr
    cases ra
    obtain ⟨us, ru, pv, _⟩ := I1.tuple qa
    have la : a < s1.heap.objs.size := by
      obtain ⟨o, ho, _⟩ := id pv
      exact Heap.lt_size ho
    refine call_en (begins_tuple a us.toArray) pv fun h2 he e1 kp => wpAny_pyIter_enum he ?_
    have I2 : Inv X pins σ H1 { s1 with heap := h2 } := I1.kept (t' := s1.toks) kp
    refine ⟨s1.heap.objs.size + 1, [s1.heap.objs.size + 1, s1.heap.objs.size], _, _, H1, rfl, I2, turn_ET (Nat.succ_ne_self _) (Nat.ne_of_lt la) (Ne.symm (Nat.ne_of_lt (Nat.lt_succ_of_lt la))), { he := ⟨_, he⟩, l := ⟨_, e1, rfl, rfl⟩ }, fun c hc => ?_, want⟩
    have low : s1.heap.objs.size ≤ c := by
      simp only [List.mem_cons, List.not_mem_nil, or_false] at hc
      rcases hc with rfl | rfl
      · exact Nat.le_add_right ..
      · exact Nat.le_refl _
    exact I1.fpOk low (I1.hok.fresh low)
theorem k_piET (K : PySem.W.Frag) {X : Cx} {e : Expr} {ta : TA} {p q tp : Pos} {es : List Expr} {kk : Nat} (hg : Gl X "enumerate") (hm : X.mg "enumerate" = none) (ha : PA X [e] ta) (hs : starEach [e] X.env = [(false, eval e X.env)] := by rfl) (hK : X.K = K := by rfl) :
    PI X (.Tuple es kk tp) (.Call (.Name "enumerate" p) [e] [] q) (iEnT K ta) := by subst hK; exact pi_enT hg hm ha hs
section
variable {K : PySem.W.Frag} {σ : L2.St} {H : Hp} {ts : TS} {D : Ends} {g : TG} {tA : TA}
theorem i_iET {R : It → Hp → Prop} (h : tA σ H fun vs H1 => ∃ a xs, vs = [.ref a] ∧ SqT K H1 a xs ∧ R (ItET K a) H1) : iEnT K tA σ H R := h
theorem i_itET {R : Addr → Prop} {a : Addr} {xs : List V} (h1 : Tp K H a xs) (h : R a) : ∃ b ys, [V.ref a] = [.ref b] ∧ SqT K H b ys ∧ R b := ⟨a, xs, rfl, h1.sq, h⟩
theorem i_forET {a : Addr} {xs : List V} (I : Nat → L2.St → Hp → Prop) (h0 : I 0 σ H) (hq : ∀ i σ H, i ≤ xs.length → I i σ H → Tp K H a xs)
    (hs : ∀ i x σ' H0 T H', xs[i]? = some x → I i σ' H0 → New H0 T → Same H0 H' → H' T = some (.tup [.int (i : Nat), x]) → g (.ref T) σ' H' fun σ2 H2 => ts { D with nx := I (i + 1), ct := I (i + 1), bk := D.nx } σ2 H2)
    (hd : ∀ σ' H', I xs.length σ' H' → D.nx σ' H') : ForI (ItET K a) g ts D σ H := by
  refine ⟨fun i m σ H => (m = xs.length - i ∧ i ≤ xs.length) ∧ I i σ H, ⟨_, ⟨rfl, Nat.zero_le _⟩, h0⟩, ?_⟩
  rintro i m σ' H' ⟨⟨rfl, hi⟩, hI⟩
  have q1 := hq i σ' H' hi hI
  by_cases c : i < xs.length
  · refine .inr ⟨⟨xs, xs[i], q1.sq, List.getElem?_eq_getElem c⟩, fun σ2 H2 => I (i + 1) σ2 H2, fun σ2 H2 h2 => ⟨xs.length - (i + 1), by omega, ⟨rfl, by omega⟩, h2⟩, ?_⟩
    rintro v H2 ⟨T, x, ⟨rfl, nT⟩, rfl, hx⟩
    exact hs i x σ' H' T _ (hx xs q1.sq) hI nT (same_new nT) upd_same
  · have e : i = xs.length := by omega
    subst e
    exact .inl ⟨⟨xs, q1.sq, rfl⟩, hd σ' H' hI⟩
end
end Pm

namespace Pm
open PySem PySem.Spec PyProof.Rows L2
/-! first, *rest = a list or a tuple -/
section
variable {X : Cx} {pins : List (Addr × Obj)} {s : Shared} {σ : L2.St} {H : Hp}
/-- the list of what is left, behind the walk, by whatever road -/
theorem star_new (I : Inv X pins σ H s) {h₂ : Heap} {tk : Nat} {xs : List V} {us : List Value} {Q : Value → Shared → Prop} (rv : Vals xs us) (hz : us.length ≤ 16383) (hk : ∀ b o, s.heap.get? b = some o → h₂.get? b = some o)
    (q : ∀ D s', H D = none → Inv X pins σ (upd H D (.lst xs)) s' → Q (.ref D) s') :
    wpAny (model X.prog X.w) X.A (newList us) Q X.xe { s with heap := h₂, toks := tk } := by
  have I1 : Inv X pins σ H { s with heap := h₂, toks := tk } := I.kept hk
  refine wpAny_newList ?_ (by rw [sizeLine_eq]; omega)
  exact q h₂.objs.size _ (I1.hok.fresh (Nat.le_refl _)) (I1.laid (t' := tk) (fun b u e => Heap.get?_push_of_some _ e) (Nat.le_refl _)
    (show ObjOk X.prog X.w _ _ _ (.lst xs) from ⟨by rw [sizeLine_eq]; have := rv.length; omega, us, 0, rv, Heap.get?_push_size _ rfl⟩))
/-- `first, *rest` of what is walked by I2 over `its`, the first value drawn -/
theorem star_end (I : Inv X pins σ H s) {z : V} {xs : List V} {its : List Value} {l IT : Addr} {T : String} {St : Nat → Heap → Prop} {h₁ : Heap} {Q : List Value → Shared → Prop} (rv : Vals (z :: xs) its) (hz : xs.length ≤ 16383)
    (hT : T = "str_ascii_iterator" ∨ T = "str_iterator" ∨ T = "list_iterator" ∨ T = "tuple_iterator") (W : Walks X.prog X.w X.A.in1 IT [IT, l] [IT] its.toArray.size (fun i v => its.toArray[i]? = some v) St)
    (ht : ∀ i (u : Shared), St i u.heap → u.TypeIs (.ref IT) T) (st : St 1 h₁) (i1 : IT < h₁.objs.size) (i2 : l < h₁.objs.size) (n1 : s.heap.get? IT = none) (hk : ∀ b o, s.heap.get? b = some o → h₁.get? b = some o)
    (q : ∀ uz D s', RelV z uz → H D = none → Inv X pins σ (upd H D (.lst xs)) s' → Q [uz, .ref D] s') :
    wpAny (model X.prog X.w) X.A (do
      let rest ← holding (its.toArray.toList.take 1) (collect (.ref IT))
      if rest.length < 2 - 1 - 1 then
        rule "unpack.star.too-few"
        raiseError "ValueError" s!"not enough values to unpack (expected at least {2 - 1}, got {1 + rest.length})"
      return (its.toArray.toList.take 1) ++ [← newList (rest.take (rest.length - (2 - 1 - 1)))] ++ rest.drop (rest.length - (2 - 1 - 1))) Q X.xe { s with heap := h₁ } := by
  obtain ⟨uz, us, rfl, rz, ru⟩ : ∃ uz us, its = uz :: us ∧ RelV z uz ∧ Vals xs us := by
    cases rv with
    | cons a b => exact ⟨_, _, rfl, a, b⟩
  have hl := ru.length
  have e0 : (uz :: us).toArray.toList = uz :: us := by simp
  refine wpAny_bind (wpAny_holding (PySem.W.kun_collect (s := { s with heap := h₁ }) hT W ht (k := 1) (by simp) st i1 i2 (fun h₂ tk hk2 => ?_) (by rw [sizeLine_eq]; simp; omega)))
  rw [e0]
  show wpAny _ _ (if us.length < 0 then _ else _) _ _ _
  rw [if_neg (Nat.not_lt_zero _)]
  show wpAny _ _ (newList (us.take (us.length - 0)) >>= fun d => pure ([uz] ++ [d] ++ us.drop (us.length - 0))) _ _ _
  rw [Nat.sub_zero, List.take_length, List.drop_length]
  have kk : ∀ b o, s.heap.get? b = some o → h₂.get? b = some o := fun b o e => hk2 b o (fun z => by rw [z] at e; rw [n1] at e; cases e) (hk b o e)
  exact wpAny_bind (star_new (s := s) (tk := tk) I ru (by omega) kk fun D s' hD I' => wpAny_pure (q uz D s' rz hD I'))
end
def gStar (K : PySem.W.Frag) (t : TGs) : TG := fun v σ H Q => ∃ a z xs, v = .ref a ∧ (SqL K H a (z :: xs) ∨ SqT K H a (z :: xs)) ∧ xs.length ≤ 16000 ∧ ∀ p, H p = none → t [z, .ref p] σ (upd H p (.lst xs)) Q
theorem pg_star {X : Cx} {pos : Pos} {e1 e2 : Expr} {sp : Pos} {k : Nat} {t : TGs} (hc : X.calm = true) (h : PGs X [e1, e2] t)
    (he : assignEach [e1, .Starred e2 sp] X.env = [(false, assign e1 X.env), (true, assign e2 X.env)] := by rfl) (he2 : (assignEach [e1, e2] X.env).map (·.2) = [assign e1 X.env, assign e2 X.env] := by rfl) : PG X (.Tuple [e1, .Starred e2 sp] k pos) (gStar X.K t) := by
  refine ⟨fun pins s σ H v u Q I r hw => ?_⟩
  obtain ⟨a, z, xs, e, hq, hl, hw⟩ := hw
  subst e
  cases r
  have fin : ∀ uz D s', RelV z uz → H D = none → Inv X pins σ (upd H D (.lst xs)) s' → wpAny (model X.prog X.w) X.A (assignInOrder [assign e1 X.env, assign e2 X.env] [uz, .ref D]) (fun _ s' => ∃ σ' H', Inv X pins σ' H' s' ∧ Q σ' H') X.xe s' := fun uz D s' rz hD I' => by
    have := h.run pins s' σ _ [z, .ref D] [uz, .ref D] Q I' (.cons rz (.cons rfl .nil)) (hw D hD)
    rwa [he2] at this
  have hh := I.ok.hd hc
  rw [PyProof.Rows.assign_Tuple]
  refine wpAny_bind (wpAny_standAt ?_)
  unfold unpack
  rw [he]
  show wpAny _ _ (holding _ (unpackItems _ 2 (some 1)) >>= fun us => assignInOrder [assign e1 X.env, assign e2 X.env] us) _ _ _
  refine wpAny_bind (wpAny_holding ?_)
  rcases hq with hq | hq
  · obtain ⟨its, rv, pl, hz⟩ := I.list hq
    have hl' : s.heap.IsList a its.toArray := by
      obtain ⟨o, m, e, c, d, q⟩ := pl
      exact ⟨o, e, c, m, q⟩
    have hlt : a < s.heap.objs.size := by obtain ⟨o, ho, _⟩ := hl'; exact Heap.lt_size ho
    have hne : a ≠ s.heap.objs.size := Nat.ne_of_lt hlt
    have hsz : its.toArray.size = xs.length + 1 := by have := rv.length; simp at this; simp; omega
    unfold unpackItems notIterableAtAll
    refine wpAny_bind (wpAny_bind (wpAny_specialOf hl'.typeIs slot_list_iter.lookup (wpAny_pure ?_)))
    rw [if_neg (by simp)]
    refine wpAny_bind (wpAny_holding (wpAny_pyIter_list hl' (wpAny_bind (wpAny_holding (PySem.W.kun_draw hne 1 0 _ _ ⟨_, Heap.get?_push_size _ rfl, rfl, rfl⟩ (hl'.push _) (by omega) fun h₁ t1 t2 => ?_)))))
    have hl₁ : h₁.IsList a its.toArray := (hl'.push _).extBut t2.extBut hne
    have hk : ∀ b o, s.heap.get? b = some o → h₁.get? b = some o := fun b o e => t2.extBut b o (Nat.ne_of_lt (Heap.lt_size e)) (Heap.get?_push_of_some _ e)
    rw [List.drop_zero, if_neg (by rw [List.length_take, List.toList_toArray, ← rv.length, List.length_cons]; omega)]
    have hit : h₁.IsListIter s.heap.objs.size a 1 := t1
    have i1 : s.heap.objs.size < h₁.objs.size := by obtain ⟨o, ho, _⟩ := hit; exact Heap.lt_size ho
    have i2 : a < h₁.objs.size := by obtain ⟨o, ho, _⟩ := hl₁; exact Heap.lt_size ho
    refine star_end I rv (by omega) (T := "list_iterator") (.inr (.inr (.inl rfl))) (Walks.list (A := X.A.in1) hh s.heap.objs.size a hne its.toArray) (fun j u st => st.1.typeIs) ⟨hit, hl₁⟩ i1 i2 (by cases e : s.heap.get? s.heap.objs.size with | none => rfl | some o => exact absurd (Heap.lt_size e) (Nat.lt_irrefl _)) hk fin
  · obtain ⟨its, rv, hl', hz⟩ := I.tuple hq
    have hlt : a < s.heap.objs.size := by obtain ⟨o, ho, _⟩ := hl'; exact Heap.lt_size ho
    have hne : a ≠ s.heap.objs.size := Nat.ne_of_lt hlt
    have hsz : its.toArray.size = xs.length + 1 := by have := rv.length; simp at this; simp; omega
    unfold unpackItems notIterableAtAll
    refine wpAny_bind (wpAny_bind (wpAny_specialOf hl'.typeIs slot_tuple_iter.lookup (wpAny_pure ?_)))
    rw [if_neg (by simp)]
    refine wpAny_bind (wpAny_holding (iter_tuple hl' (wpAny_bind (wpAny_holding (draw_tuple hne 1 0 _ _ ⟨_, Heap.get?_push_size _ rfl, rfl, rfl⟩ (hl'.push _) (by omega) fun h₁ t1 t2 => ?_)))))
    have hl₁ : IsTup h₁ a its.toArray := (hl'.push _).extBut t2.extBut hne
    have hk : ∀ b o, s.heap.get? b = some o → h₁.get? b = some o := fun b o e => t2.extBut b o (Nat.ne_of_lt (Heap.lt_size e)) (Heap.get?_push_of_some _ e)
    rw [List.drop_zero, if_neg (by rw [List.length_take, List.toList_toArray, ← rv.length, List.length_cons]; omega)]
    have hit : IsTupIter h₁ s.heap.objs.size a 1 := t1
    have i1 : s.heap.objs.size < h₁.objs.size := by obtain ⟨o, ho, _⟩ := hit; exact Heap.lt_size ho
    have i2 : a < h₁.objs.size := by obtain ⟨o, ho, _⟩ := hl₁; exact Heap.lt_size ho
    refine star_end I rv (by omega) (T := "tuple_iterator") (.inr (.inr (.inr rfl))) (Walks.tuple (A := X.A.in1) hh s.heap.objs.size a hne its.toArray) (fun j u st => st.1.typeIs) ⟨hit, hl₁⟩ i1 i2 (by cases e : s.heap.get? s.heap.objs.size with | none => rfl | some o => exact absurd (Heap.lt_size e) (Nat.lt_irrefl _)) hk fin
theorem k_gstar {X : Cx} {pos : Pos} {e1 e2 : Expr} {sp : Pos} {k : Nat} {t : TGs} (K : PySem.W.Frag) (hc : X.calm = true) (h : PGs X [e1, e2] t) (he : assignEach [e1, .Starred e2 sp] X.env = [(false, assign e1 X.env), (true, assign e2 X.env)] := by rfl)
    (he2 : (assignEach [e1, e2] X.env).map (·.2) = [assign e1 X.env, assign e2 X.env] := by rfl) (hK : X.K = K := by rfl) : PG X (.Tuple [e1, .Starred e2 sp] k pos) (gStar K t) := by subst hK; exact pg_star hc h he he2
section
variable {K : PySem.W.Frag} {σ : L2.St} {H : Hp} {Q : VK} {te : TE} {tt : TT} {g : TG} {v y : V} {vs : List Nat}
theorem i_gstar {a : Addr} {z : V} {xs : List V} {t : TGs} {N : L2.St → Hp → Prop} (h1 : SqL K H a (z :: xs) ∨ Tp K H a (z :: xs)) (hl : xs.length ≤ 16000) (h : ∀ p H', New H p → Same H H' → H' p = some (.lst xs) → t [z, .ref p] σ H' N) : gStar K t (.ref a) σ H N :=
  ⟨a, z, xs, rfl, h1.imp id Tp.sq, hl, fun p hp => h p _ hp (same_new hp) upd_same⟩
/-! repr of whatever is data -/
def rReprV (K : PySem.W.Frag) : List V → Hp → VK → Prop := fun xs H Q => ∃ (v : V) (d : PyData), xs = [v] ∧ Dp K H v d ∧ d.showable = true ∧ d.hasDict = false ∧ d.depth ≤ 60 ∧ d.shown.length ≤ sizeLine ∧ Q (.str d.shown) H
theorem call_reprV {X : Cx} {k : Nat} (hG : X.A.guards = some []) (hr : Room k X.A) : CallR X (.builtin "repr") (rReprV X.K) := by
  intro pins s σ H xs us Q I r h
  obtain ⟨v, d, rfl, hd, hs, hn, hdp, hz, q⟩ := h
  cases hd with
  | non =>
    obtain ⟨u, rfl, ru⟩ := vals1 r
    cases ru
    exact PySem.P.repr_of_none ⟨.str _, H, I.tok _, ⟨_, rfl⟩, by simpa only [PyData.shown] using q⟩
  | bl b =>
    obtain ⟨u, rfl, ru⟩ := vals1 r
    cases ru
    exact PySem.P.repr_of_bool ⟨.str _, H, I.tok _, ⟨_, rfl⟩, by simpa only [PyData.shown] using q⟩
  | int i =>
    obtain ⟨u, rfl, t, rfl⟩ := vals1 r
    exact PySem.P.repr_of_int (by simpa [PyData.showable] using hs) ⟨.str _, H, I.tok _, ⟨_, rfl⟩, by simpa only [PyData.shown] using q⟩
  | str x =>
    obtain ⟨u, rfl, t, rfl⟩ := vals1 r
    exact PySem.P.repr_of_str ⟨.str _, H, I.tok _, ⟨_, rfl⟩, by simpa only [PyData.shown] using q⟩ (by simpa only [PyData.shown] using hz)
  | lst a b => exact call_reprD hG hr pins s σ H _ us Q I r ⟨_, _, rfl, .lst a b, hs, hn, hdp, hz, q⟩
  | tup a b => exact call_reprD hG hr pins s σ H _ us Q I r ⟨_, _, rfl, .tup a b, hs, hn, hdp, hz, q⟩
theorem k_reprV {X : Cx} {k : Nat} (K : PySem.W.Frag) (hG : X.A.guards = some []) (hr : Room k X.A) (hK : X.K = K := by rfl) : CallR X (.builtin "repr") (rReprV K) := by subst hK; exact call_reprV hG hr
theorem i_reprV {d : PyData} {n m : Nat} (h1 : Dp K H v d) (h2 : Ok n m d) (hn : n ≤ 60) (hm : m ≤ 16000000) (h : Q (.str d.shown) H) : rReprV K [v] H Q := ⟨v, d, rfl, h1, h2.sh, h2.noDict, Nat.le_trans h2.dp hn, Nat.le_trans (Nat.le_trans h2.ln hm) (by decide), h⟩
theorem Ok.str {z : Str} {m : Nat} (e : PyData.strOk z = true) (h : (PyData.str z).shown.length ≤ m) : Ok 0 m (.str z) := ⟨by simp only [PyData.showable], by simp only [PyData.canLay0, e], by simp only [PyData.depth]; omega, h⟩
/-! comprehensions that change what stands -/
theorem i_lcG {a : Addr} {xs : List V} (I : Addr → Nat → Hp → Prop) (h0 : ∀ A, New H A → I A 0 (upd H A (.lst []))) (hq : ∀ A i H', New H A → I A i H' → SqL K H' a xs)
    (hs : ∀ A i x H', New H A → xs[i]? = some x → i < xs.length → I A i H' → g x (wipe σ vs) H' fun σ2 H2 => wipe σ2 vs = wipe σ vs ∧ tt σ2 H2 fun b H3 =>
      if b = true then te σ2 H3 fun y H4 => ∃ acc, H4 A = some (.lst acc) ∧ acc.length < sizeLine ∧ I A (i + 1) (upd H4 A (.lst (acc ++ [y]))) else I A (i + 1) H3)
    (h : ∀ A H', New H A → I A xs.length H' → Q (.ref A) H') : LcI (Itl K a) g tt te vs Q σ H := by
  intro A hA
  exact lc_list (a := a) (xs := xs) (fun i H' => I A i H') (h0 A hA) (fun i H' _ p => hq A i H' hA p) (fun i x H' hx p => hs A i x H' hA hx (List.getElem?_eq_some_iff.mp hx).1 p) fun H' p => h A H' hA p
theorem i_lcGT {a : Addr} {xs : List V} (I : Addr → Nat → Hp → Prop) (h0 : ∀ A, New H A → I A 0 (upd H A (.lst []))) (hq : ∀ A i H', New H A → I A i H' → Tp K H' a xs)
    (hs : ∀ A i x H', New H A → xs[i]? = some x → i < xs.length → I A i H' → g x (wipe σ vs) H' fun σ2 H2 => wipe σ2 vs = wipe σ vs ∧ tt σ2 H2 fun b H3 =>
      if b = true then te σ2 H3 fun y H4 => ∃ acc, H4 A = some (.lst acc) ∧ acc.length < sizeLine ∧ I A (i + 1) (upd H4 A (.lst (acc ++ [y]))) else I A (i + 1) H3)
    (h : ∀ A H', New H A → I A xs.length H' → Q (.ref A) H') : LcI (Itt K a) g tt te vs Q σ H := by
  intro A hA
  exact lc_tup (a := a) (xs := xs) (fun i H' => I A i H') (h0 A hA) (fun i H' _ p => (hq A i H' hA p).sq) (fun i x H' hx p => hs A i x H' hA hx (List.getElem?_eq_some_iff.mp hx).1 p) fun H' p => h A H' hA p
theorem i_lcGR {lo : Int} {n : Nat} (I : Addr → Nat → Hp → Prop) (h0 : ∀ A, New H A → I A 0 (upd H A (.lst [])))
    (hs : ∀ A i H', New H A → i < n → I A i H' → g (.int (lo + i)) (wipe σ vs) H' fun σ2 H2 => wipe σ2 vs = wipe σ vs ∧ tt σ2 H2 fun b H3 =>
      if b = true then te σ2 H3 fun y H4 => ∃ acc, H4 A = some (.lst acc) ∧ acc.length < sizeLine ∧ I A (i + 1) (upd H4 A (.lst (acc ++ [y]))) else I A (i + 1) H3)
    (h : ∀ A H', New H A → I A n H' → Q (.ref A) H') : LcI (Itr lo n) g tt te vs Q σ H := by
  intro A hA
  exact lc_range (fun i H' => I A i H') (h0 A hA) (fun i H' hi p => hs A i H' hA hi p) fun H' p => h A H' hA p
theorem i_acc {A : Addr} {H4 : Hp} {acc : List V} {I : Hp → Prop} (h : H4 A = some (.lst acc)) (hl : acc.length ≤ 100000) (k : ∀ H', Fx A A H4 H' → H' A = some (.lst (acc ++ [y])) → I H') : ∃ acc, H4 A = some (.lst acc) ∧ acc.length < sizeLine ∧ I (upd H4 A (.lst (acc ++ [y]))) :=
  ⟨acc, h, Nat.lt_of_le_of_lt hl (by decide), k _ (fx_upd h) upd_same⟩
theorem i_popAt {p : Addr} {xs : List V} {j : Int} (h1 : H p = some (.lst xs)) (j0 : 0 ≤ j) (j1 : j < xs.length) (hl : xs.length ≤ 100000) (h : ∀ (k : Nat) (y : V) H', k = j.toNat → xs[k]? = some y → Fx p p H H' → H' p = some (.lst (xs.eraseIdx k)) → Q y H') : rPopAt (.ref p) [.int j] H Q :=
  ⟨p, xs, j, j.toNat, xs[j.toNat]'(by omega), rfl, rfl, h1, by omega, by omega, by
    obtain ⟨k, rfl⟩ : ∃ k : Nat, j = k := ⟨j.toNat, by omega⟩
    exact seqIndex_of (by omega) (by omega), List.getElem?_eq_getElem (by omega), h _ _ _ rfl (List.getElem?_eq_getElem (by omega)) (fx_upd h1) upd_same⟩
end
/-! a loop over a list or a tuple -/
def iSeq (K : PySem.W.Frag) (tl : TE) : TI := fun σ H R => tl σ H fun x H1 => ∃ a, x = .ref a ∧ (((∃ xs, SqL K H1 a xs) ∧ R (Itl K a) H1) ∨ ((∃ xs, SqT K H1 a xs) ∧ R (Itt K a) H1))
theorem pi_seq {X : Cx} {tg l : Expr} {tl : TE} (hl : PE X l tl) : PI X tg l (iSeq X.K tl) := ⟨fun pins s σ H R I h => thn (hl.run pins s σ H _ I h) fun v s1 ⟨x, H1, I1, r1, a, e, q⟩ => by
  subst e
  cases r1
  have kp : ∀ o, Inv X pins σ H1 { s1 with heap := s1.heap.push o, toks := s1.toks } := fun o => I1.kept fun b u e => Heap.get?_push_of_some _ e
  have fp : ∀ b ∈ [s1.heap.objs.size], FpOk X pins H1 b := fun b hb => by
    obtain rfl := List.mem_singleton.mp hb
    exact I1.fpOk (Nat.le_refl _) (I1.hok.fresh (Nat.le_refl _))
  rcases q with ⟨⟨xs, hq⟩, q⟩ | ⟨⟨xs, hq⟩, q⟩
  · obtain ⟨its, rv, p, hz⟩ := I1.list hq
    exact wpAny_pyIter_list p.isList ⟨_, [_], _, _, H1, rfl, kp _, turn_list a _, ⟨_, Heap.get?_push_size _ rfl, rfl, rfl⟩, fp, q⟩
  · obtain ⟨its, rv, p, hz⟩ := I1.tuple hq
    exact wpAny_pyIter_tuple (show s1.heap.IsTuple a its.toArray from p) ⟨_, [_], _, _, H1, rfl, kp _, turn_tuple a _, ⟨_, Heap.get?_push_size _ rfl, rfl, rfl⟩, fp, q⟩⟩
theorem k_piS {X : Cx} (K : PySem.W.Frag) {tg l : Expr} {tl : TE} (hl : PE X l tl) (hK : X.K = K := by rfl) : PI X tg l (iSeq K tl) := by subst hK; exact pi_seq hl
/-- a list (false) or a tuple (true) -/
def SqV (K : PySem.W.Frag) (H : Hp) (p : Addr) (t : Bool) (xs : List V) : Prop := if t = true then Tp K H p xs else SqL K H p xs
section
variable {K : PySem.W.Frag} {σ : L2.St} {H H' : Hp} {Q : VK} {D : Ends} {g : TG} {ts : TS} {a p : Addr} {t : Bool} {xs : List V}
theorem SqV.same (h : SqV K H p t xs) (e : Same H H') : SqV K H' p t xs := by
  cases t
  · exact b_L e h
  · exact Tp.mono e h
theorem SqV.or (h : SqV K H p t xs) : SqL K H p xs ∨ Tp K H p xs := by
  cases t
  · exact .inl h
  · exact .inr h
theorem i_lenV (h1 : SqV K H p t xs) (h : Q (.int xs.length) H) : rLenU K [.ref p] H Q := ⟨p, xs, rfl, h1.or.imp id Tp.sq, h⟩
theorem i_iS {R : It → Hp → Prop} {tl : TE} (h : tl σ H fun x H1 => ∃ a, x = .ref a ∧ (((∃ xs, SqL K H1 a xs) ∧ R (Itl K a) H1) ∨ ((∃ xs, SqT K H1 a xs) ∧ R (Itt K a) H1))) : iSeq K tl σ H R := h
theorem i_forS (h1 : SqV K H a t xs) (I : Nat → L2.St → Hp → Prop) (h0 : I 0 σ H) (hl : ∀ i σ H, i ≤ xs.length → I i σ H → SqV K H a t xs)
    (hs : ∀ i x σ' H', xs[i]? = some x → I i σ' H' → g x σ' H' fun σ2 H2 => ts { D with nx := I (i + 1), ct := I (i + 1), bk := D.nx } σ2 H2)
    (hd : ∀ σ' H', I xs.length σ' H' → D.nx σ' H') : ∃ b, V.ref a = .ref b ∧ (((∃ xs, SqL K H b xs) ∧ ForI (Itl K b) g ts D σ H) ∨ ((∃ xs, SqT K H b xs) ∧ ForI (Itt K b) g ts D σ H)) := by
  refine ⟨a, rfl, ?_⟩
  cases t
  · exact .inl ⟨⟨xs, h1⟩, i_forL (xs := xs) I h0 hl hs hd⟩
  · exact .inr ⟨⟨xs, Tp.sq h1⟩, i_forT (xs := xs) I h0 hl hs hd⟩
end
/-! methods within a comprehension -/
theorem k_bm {X : Cx} {o e : Expr} {es : List Expr} {to : TE} {t : TA} {name : Str} {apos cpos : Pos} {T id : String} {r : V → List V → Hp → VK → Prop} (K : PySem.W.Frag) (pa : PlainAttrs T) (slot : Slot T name id) (hty : typeOf (.builtin id) = pure (.type "method_descriptor")) (hm : MtR X id r) (ho : PE X o to) (ha : PA X (e :: es) t)
    (hbase : attributeBase o name X.env (eval o X.env) = eval o X.env := by rfl)
    (hfew : ((backTo cpos (starEach (e :: es) X.env)).all (fun x => !x.1) && (backToKw cpos (keywordEach [] X.env)).all (fun x => x.1.isSome) && decide ((e :: es).length + ([] : List Keyword).length + (if ([] : List Keyword).isEmpty then 0 else 1) < 30)) = true := by rfl)
    (hline : (apos.endLine == cpos.line) = true := by rfl) (hs : starEach (e :: es) X.env = (false, eval e X.env) :: starEach es X.env := by rfl) (hplain : (backTo cpos (starEach es X.env)).any (·.1) = false := by rfl) (hK : X.K = K := by rfl) :
    PE X (.Call (.Attribute o name apos) (e :: es) [] cpos) (tBM K T r to t) := by subst hK; exact pe_bm pa slot hty hm ho ha hbase hfew hline hs hplain
theorem k_bm0 {X : Cx} {o : Expr} {to : TE} {name : Str} {apos cpos : Pos} {T id : String} {r : V → List V → Hp → VK → Prop} (K : PySem.W.Frag) (pa : PlainAttrs T) (slot : Slot T name id) (hty : typeOf (.builtin id) = pure (.type "method_descriptor")) (hm : MtR X id r) (ho : PE X o to)
    (hbase : attributeBase o name X.env (eval o X.env) = eval o X.env := by rfl) (hline : (apos.endLine == cpos.line) = true := by rfl) (hK : X.K = K := by rfl) : PE X (.Call (.Attribute o name apos) [] [] cpos) (tBM0 K T r to) := by subst hK; exact pe_bm0 pa slot hty hm ho hbase hline
theorem eqv_list_empty (ds : List PyData) : PyData.eqv (.list ds) (.list []) = decide (ds = []) := by
  cases ds <;> simp [PyData.eqv, PyData.eqvAll]
end Pm

namespace Pm
open PySem PySem.Spec PyProof.Rows L2
/-! l.count(x): flat items -/
def rCntF (K : PySem.W.Frag) : V → List V → Hp → VK → Prop := fun x xs H Q => ∃ (p : Addr) (ys : List V) (y : V), x = .ref p ∧ xs = [y] ∧ SqL K H p ys ∧ flatV y = true ∧ ys.all flatV = true ∧ Q (.int (ys.countP fun z => eqV z y)) H
theorem count_flat {y : V} {uy : Value} : ∀ {ys : List V} {its : List Value}, Vals ys its → ys.all flatV = true → its.countP (eqU y) = ys.countP fun z => eqV z y
  | [], [], .nil, _ => rfl
  | z :: ys, u :: its, .cons a b, f => by
    simp only [List.all_cons, Bool.and_eq_true] at f
    rw [List.countP_cons, List.countP_cons, count_flat (uy := uy) b f.2, eqU_of a f.1]
theorem mt_countF {X : Cx} : MtR X "list.count" (rCntF X.K) := fun pins s σ H x xs v us Q I rx rxs ⟨a, ys, y, e1, e2, hs, fy, fys, q⟩ => by
  subst e1 e2
  cases rx
  obtain ⟨uy, rfl, ry⟩ := rxs.one
  obtain ⟨its, rv, ⟨⟨cls, dd, data, sl⟩, n, ho, hc, hdn, hd⟩, hlen⟩ := I.list hs
  obtain rfl : cls = .type "list" := hc
  obtain rfl : data = .seq its.toArray n := hd
  refine call_meets PySem.F.slot_list_count ⟨_, ho, rfl⟩ PySem.F.entry_list_count (PySem.F.args_list_count_2 _ _) (SeqAt.list_countAt a its.toArray n dd sl uy (eqU y)) ⟨ho, fun u' hu' => mem_eqAt ry fy rv fys u' (by simpa using hu'), .int _, H, I.tok _, ⟨s.toks, ?_⟩, q⟩
  have e : its.toArray.toList.countP (eqU y) = ys.countP fun z => eqV z y := by rw [List.toList_toArray]; exact count_flat (uy := uy) rv fys
  exact congrArg (fun m : Nat => Value.int (m : Int) s.toks) e
theorem k_countF {X : Cx} (K : PySem.W.Frag) (hK : X.K = K := by rfl) : MtR X "list.count" (rCntF K) := by subst hK; exact mt_countF
theorem k_indexF {X : Cx} (K : PySem.W.Frag) (hK : X.K = K := by rfl) : MtR X "list.index" (rIndex K) := by subst hK; exact mt_index
section
variable {K : PySem.W.Frag} {H : Hp} {Q : VK}
theorem i_countF {p : Addr} {ys : List V} {y : V} {n : Nat} (h : SqL K H p ys) (f : flatV y = true) (g : ys.all flatV = true) (e : (ys.countP fun z => eqV z y) = n) (k : Q (.int (n : Nat)) H) : rCntF K (.ref p) [y] H Q := ⟨p, ys, y, rfl, rfl, h, f, g, by rw [e]; exact k⟩
theorem i_indexF {p : Addr} {ys : List V} {y z : V} {j : Nat} (h : SqL K H p ys) (f : flatV y = true) (g : ys.all flatV = true) (e : ys[j]? = some z) (e2 : eqV z y = true) (e3 : ∀ (m : Nat) (z' : V), m < j → ys[m]? = some z' → eqV z' y = false) (k : Q (.int (j : Nat)) H) : rIndex K (.ref p) [y] H Q := ⟨p, ys, y, j, z, rfl, rfl, h, f, g, e, e2, e3, k⟩
theorem i_insert {p : Addr} {xs : List V} {i : Int} {y : V} (h : H p = some (.lst xs)) (hl : xs.length ≤ 100000) (i0 : 0 ≤ i) (i1 : i < 1000000) (k : ∀ H', Fx p p H H' → H' p = some (.lst (xs.take i.toNat ++ [y] ++ xs.drop i.toNat)) → Q .non H') : ∃ (l : Addr) (xs : List V) (i_1 : Int) (y_1 : V), V.ref p = .ref l ∧ [V.int i, y] = [.int i_1, y_1] ∧ H l = some (.lst xs) ∧ xs.length < sizeLine ∧ 0 ≤ i_1 ∧ i_1 < 2 ^ 63 ∧ Q .non (upd H l (.lst (xs.take i_1.toNat ++ [y_1] ++ xs.drop i_1.toNat))) :=
  ⟨p, xs, i, y, rfl, rfl, h, Nat.lt_of_le_of_lt hl (by decide), i0, by omega, k _ (fx_upd h) upd_same⟩
end
end Pm

namespace Pm
open PySem PySem.Spec PyProof.Rows L2
/-! ### broken lines: knots, a slope behind the last -/
structure Ln where
  ks : List (Rat × Rat)
  sl : Rat
def dK (k : Rat × Rat) : PyData := .tuple [dP k.1, dP k.2]
def dL (l : Ln) : PyData := .tuple [.tuple (l.ks.map dK), dP l.sl]
def kAt (ks : List (Rat × Rat)) (i : Nat) : Rat × Rat := ks.getD i (0, 0)
theorem kAt_of {ks : List (Rat × Rat)} {i : Nat} {k : Rat × Rat} (h : ks[i]? = some k) : kAt ks i = k := by simp [kAt, List.getD_eq_getElem?_getD, h]
theorem kAt_get {ks : List (Rat × Rat)} {i : Nat} (h : i < ks.length) : ks[i]? = some (kAt ks i) := by simp [kAt, List.getD_eq_getElem?_getD, List.getElem?_eq_getElem h]
theorem kAt_mem {ks : List (Rat × Rat)} {i : Nat} (h : i < ks.length) : kAt ks i ∈ ks := List.mem_of_getElem? (kAt_get h)
/-- the slope behind the knot at a place -/
def slAt (l : Ln) (i : Nat) : Rat := if i + 1 < l.ks.length then ((kAt l.ks (i + 1)).2 - (kAt l.ks i).2) / ((kAt l.ks (i + 1)).1 - (kAt l.ks i).1) else l.sl
def yAt (l : Ln) (i : Nat) (x : Rat) : Rat := (kAt l.ks i).2 + slAt l i * (x - (kAt l.ks i).1)
/-- how many knots are no greater -/
def cnt (ks : List (Rat × Rat)) (x : Rat) : Nat := (ks.filter fun k => !decide (x < k.1)).length
def yOf (l : Ln) (x : Rat) : Rat := yAt l (cnt l.ks x - 1) x
/-- a line that begins at nought and rises, of numbers of so many bits -/
structure LnB (n : Nat) (l : Ln) : Prop where
  b : ∀ k ∈ l.ks, Bd n k.1 ∧ Bd n k.2
  s : Bd n l.sl
  r : ∀ i, i + 1 < l.ks.length → (kAt l.ks i).1 < (kAt l.ks (i + 1)).1
  f : 0 < l.ks.length ∧ (kAt l.ks 0).1 = 0
  len : l.ks.length ≤ 5000
theorem LnB.up {n m : Nat} {l : Ln} (h : LnB n l) (e : n ≤ m) : LnB m l := { h with b := fun k hk => ⟨(h.b k hk).1.mono e, (h.b k hk).2.mono e⟩, s := h.s.mono e }
theorem LnB.mono_ {n : Nat} {l : Ln} (h : LnB n l) : ∀ {i j : Nat}, i ≤ j → j < l.ks.length → (kAt l.ks i).1 ≤ (kAt l.ks j).1
  | i, 0, hij, _ => by obtain rfl : i = 0 := by omega
                       exact Rat.le_refl
  | i, j + 1, hij, hj => by
    by_cases c : i = j + 1
    · rw [c]; exact Rat.le_refl
    · have a := h.mono_ (i := i) (j := j) (by omega) (by omega)
      have b := h.r j hj
      grind
theorem LnB.ne {n : Nat} {l : Ln} (h : LnB n l) {i : Nat} (hi : i + 1 < l.ks.length) : (kAt l.ks (i + 1)).1 - (kAt l.ks i).1 ≠ 0 := by have := h.r i hi; grind
theorem LnB.slope {n : Nat} {l : Ln} (h : LnB n l) {i : Nat} (hi : i < l.ks.length) : Bd (4 * n + 2) (slAt l i) := by
  unfold slAt
  split
  · rename_i c
    have a := h.b _ (kAt_mem c)
    have b := h.b _ (kAt_mem hi)
    exact (bd_div (bd_sub a.2 b.2) (bd_sub a.1 b.1) (h.ne c)).mono (by omega)
  · exact h.s.mono (by omega)
theorem cnt_le (ks : List (Rat × Rat)) (x : Rat) : cnt ks x ≤ ks.length := List.length_filter_le ..
theorem cnt_yes {ks : List (Rat × Rat)} {x : Rat} {i : Nat} {k : Rat × Rat} (h : ks[i]? = some k) (c : ¬ x < k.1) : cnt (ks.take (i + 1)) x = cnt (ks.take i) x + 1 := by
  unfold cnt
  rw [List.take_add_one, h]
  simp [c]
theorem cnt_no {ks : List (Rat × Rat)} {x : Rat} {i : Nat} {k : Rat × Rat} (h : ks[i]? = some k) (c : x < k.1) : cnt (ks.take (i + 1)) x = cnt (ks.take i) x := by
  unfold cnt
  rw [List.take_add_one, h]
  simp [c]
theorem cnt_all {n : Nat} {l : Ln} (b : LnB n l) {x : Rat} : ∀ {i : Nat}, i < l.ks.length → ¬ x < (kAt l.ks i).1 → cnt (l.ks.take (i + 1)) x = i + 1
  | 0, hi, c => by
    rw [cnt_yes (kAt_get hi) c]
    simp [cnt]
  | i + 1, hi, c => by
    have r := b.r i hi
    rw [cnt_yes (kAt_get hi) c, cnt_all b (by omega) (by grind)]
theorem cnt_one {n : Nat} {l : Ln} (b : LnB n l) {x : Rat} (h : 0 ≤ x) : 1 ≤ cnt l.ks x := by
  obtain ⟨h0, e⟩ := b.f
  have a : ¬ x < (kAt l.ks 0).1 := by rw [e]; grind
  unfold cnt
  exact List.length_pos_iff.mpr fun z => by
    have := List.filter_eq_nil_iff.mp z (kAt l.ks 0) (kAt_mem h0)
    simp [a] at this
/-! ### a line, drawn -/
def dO : Option Rat → PyData
  | none => .none
  | some q => dP q
theorem eqv_PO (q : Rat) (o : Option Rat) : PyData.eqv (dP q) (dO o) = decide (some q = o) := by
  cases o with
  | none => simp [dO, dP, PyData.eqv]
  | some r =>
    rw [show dO (some r) = dP r from rfl, eqv_P]
    simp
theorem sh_O (o : Option Rat) : Sh 1 (dO o) := by
  cases o with
  | none => exact .none
  | some q => exact sh_P q
theorem last_getD {ss : List Rat} (h : 0 < ss.length) : ss.getLast? = some (ss.getD (ss.length - 1) 0) := by
  rw [List.getLast?_eq_getElem?, List.getD_eq_getElem?_getD, List.getElem?_eq_getElem (by omega)]
  rfl
theorem atI_end {xs : List V} {v : V} (h : xs[xs.length - 1]? = some v) : atI xs (-1) = some v := by
  obtain ⟨hl, e⟩ := List.getElem?_eq_some_iff.mp h
  have ne : xs ≠ [] := List.length_pos_iff.mp (by omega)
  have z := List.dropLast_concat_getLast ne
  rw [← z, L2.atI_last, List.getLast_eq_getElem]
  exact congrArg some e
theorem divInt_pos {a b : Int} (ha : 0 < a) (hb : 0 < b) : 0 < Rat.divInt a b := by
  have b0 : (0 : Rat) < (b : Rat) := by exact_mod_cast hb
  have a0 : (0 : Rat) < (a : Rat) := by exact_mod_cast ha
  have e : Rat.divInt a b * (b : Rat) = (a : Rat) := by
    rw [Rat.divInt_eq_div]
    exact Rat.div_mul_cancel (by grind)
  generalize Rat.divInt a b = q at *
  generalize (b : Rat) = d at *
  generalize (a : Rat) = c at *
  rcases (Rat.le_total : 0 ≤ q ∨ q ≤ 0) with h | h
  · by_cases z : q = 0
    · subst z
      grind
    · grind
  · have := Rat.mul_nonneg (show (0 : Rat) ≤ -q by grind) (show (0 : Rat) ≤ d by grind)
    grind
theorem fdiv_big {f p : Int} {n : Nat} (hp : 0 < p) (h : f.natAbs < 2 ^ n) : (f.fdiv p).natAbs < 2 ^ n := by
  rw [Int.fdiv_eq_ediv_of_nonneg _ (Int.le_of_lt hp)]
  exact Nat.lt_of_le_of_lt (Int.natAbs_ediv_le_natAbs _ _) h
/-- cut down to a number's multiples -/
theorem cut_mul {f p : Int} (h : 0 < p) : f - p < f.fdiv p * p ∧ f.fdiv p * p ≤ f := by
  rw [Int.fdiv_eq_ediv_of_nonneg f (by omega)]
  have a := Int.mul_ediv_add_emod f p
  have b := Int.emod_nonneg f (show p ≠ 0 by omega)
  have c := Int.emod_lt_of_pos f h
  rw [Int.mul_comm] at a
  omega
/-- the slopes of the knots so far, and their rise -/
structure Drw (ks : List (Rat × Rat)) (ss : List Rat) : Prop where
  f : 0 < ks.length ∧ (kAt ks 0).1 = 0
  r : ∀ i, i + 1 < ks.length → (kAt ks i).1 < (kAt ks (i + 1)).1
  s : ∀ i, i + 1 < ks.length → i < ss.length ∧ (kAt ks (i + 1)).2 = (kAt ks i).2 + ss.getD i 0 * ((kAt ks (i + 1)).1 - (kAt ks i).1)
  u : ∀ i, i + 1 < ss.length → ss.getD i 0 ≠ ss.getD (i + 1) 0
theorem kAt_left {ks : List (Rat × Rat)} {k : Rat × Rat} {i : Nat} (h : i < ks.length) : kAt (ks ++ [k]) i = kAt ks i := by simp [kAt, List.getD_eq_getElem?_getD, List.getElem?_append_left h]
theorem kAt_right {ks : List (Rat × Rat)} {k : Rat × Rat} : kAt (ks ++ [k]) ks.length = k := by simp [kAt, List.getD_eq_getElem?_getD]
theorem getD_left {ss : List Rat} {q : Rat} {i : Nat} (h : i < ss.length) : (ss ++ [q]).getD i 0 = ss.getD i 0 := by simp [List.getD_eq_getElem?_getD, List.getElem?_append_left h]
theorem getD_right {ss : List Rat} {q : Rat} : (ss ++ [q]).getD ss.length 0 = q := by simp [List.getD_eq_getElem?_getD]
theorem Drw.slope {ks : List (Rat × Rat)} {ss : List Rat} (h : Drw ks ss) {q : Rat} (c : some q ≠ ss.getLast?) : Drw ks (ss ++ [q]) := by
  refine ⟨h.f, h.r, fun i hi => ?_, fun i hi => ?_⟩
  · obtain ⟨a, b⟩ := h.s i hi
    exact ⟨by simp; omega, by rw [getD_left a]; exact b⟩
  · simp at hi
    by_cases e : i + 1 < ss.length
    · rw [getD_left e, getD_left (by omega)]
      exact h.u i e
    · have e2 : ss.length = i + 1 := by omega
      rw [← e2, getD_right, getD_left (by omega)]
      rw [last_getD (by omega), e2] at c
      exact fun z => c (by rw [← z]; rfl)
theorem Drw.knot {ks : List (Rat × Rat)} {ss : List Rat} (h : Drw ks ss) (hl : ks.length = ss.length) {q t : Rat} (t0 : 0 < t) {a b : Rat} (hk : kAt ks (ks.length - 1) = (a, b)) (hq : ss.getD (ss.length - 1) 0 = q) : Drw (ks ++ [(a + t, b + q * t)]) ss := by
  have k0 := h.f.1
  refine ⟨⟨by simp, by rw [kAt_left k0]; exact h.f.2⟩, fun i hi => ?_, fun i hi => ?_, h.u⟩
  · simp at hi
    by_cases e : i + 1 < ks.length
    · rw [kAt_left e, kAt_left (by omega)]
      exact h.r i e
    · have e2 : i + 1 = ks.length := by omega
      rw [e2, kAt_right, kAt_left (by omega), show i = ks.length - 1 by omega, hk]
      grind
  · simp at hi
    by_cases e : i + 1 < ks.length
    · rw [kAt_left e, kAt_left (by omega)]
      exact h.s i e
    · have e2 : i + 1 = ks.length := by omega
      refine ⟨by omega, ?_⟩
      rw [e2, kAt_right, kAt_left (by omega), show i = ks.length - 1 by omega, hk, show ks.length - 1 = ss.length - 1 by omega, hq]
      grind
/-- the line that was drawn -/
theorem Drw.line {ks : List (Rat × Rat)} {ss : List Rat} (h : Drw ks ss) (hl : ks.length = ss.length) {q : Rat} (hq : ss.getD (ss.length - 1) 0 = q) {i : Nat} (hi : i < ks.length) : slAt ⟨ks, q⟩ i = ss.getD i 0 := by
  unfold slAt
  show (if i + 1 < ks.length then _ else q) = _
  split
  · rename_i c
    obtain ⟨_, a⟩ := h.s i c
    have b := h.r i c
    show ((kAt ks (i + 1)).2 - (kAt ks i).2) / ((kAt ks (i + 1)).1 - (kAt ks i).1) = _
    rw [a, show (kAt ks i).2 + ss.getD i 0 * ((kAt ks (i + 1)).1 - (kAt ks i).1) - (kAt ks i).2 = ss.getD i 0 * ((kAt ks (i + 1)).1 - (kAt ks i).1) by grind]
    generalize ss.getD i 0 = u at *
    generalize e : (kAt ks (i + 1)).1 - (kAt ks i).1 = d at *
    have d0 : d ≠ 0 := by grind
    rw [Rat.div_def, Rat.mul_assoc, Rat.mul_inv_cancel _ d0, Rat.mul_one]
  · rename_i c
    rw [← hq, show i = ss.length - 1 by omega]
/-- a drawn line: all its numbers over a small bottom, unlike slopes -/
structure LnD (D : Nat) (l : Ln) : Prop where
  d0 : 0 < D
  d1 : D ≤ 24000
  b : ∀ k ∈ l.ks, Dv D (2 ^ 23) k.1 ∧ Dv D (2 ^ 23) k.2
  s : Dv D (2 ^ 14) l.sl
  r : ∀ i, i + 1 < l.ks.length → (kAt l.ks i).1 < (kAt l.ks (i + 1)).1
  f : 0 < l.ks.length ∧ (kAt l.ks 0).1 = 0
  u : ∀ i, i + 1 < l.ks.length → slAt l i ≠ slAt l (i + 1)
  sa : ∀ i, i < l.ks.length → Dv D (2 ^ 14) (slAt l i)
  len : l.ks.length ≤ 60
theorem dv22 {D B : Nat} {q : Rat} (d0 : 0 < D) (d1 : D ≤ 24000) (hB : B ≤ 2 ^ 23) (h : Dv D B q) : Bd 40 q := h.bd d0 (by omega) (by
  have := Nat.mul_le_mul hB d1
  omega)
theorem LnD.ln {D : Nat} {l : Ln} (h : LnD D l) : LnB 40 l := ⟨fun k hk => ⟨dv22 h.d0 h.d1 (by decide) (h.b k hk).1, dv22 h.d0 h.d1 (by decide) (h.b k hk).2⟩, dv22 h.d0 h.d1 (by decide) h.s, h.r, h.f, Nat.le_trans h.len (by decide)⟩
theorem divInt_lt0 {a b : Int} (ha : a < 0) (hb : 0 < b) : Rat.divInt a b < 0 := by
  have b0 : (0 : Rat) < (b : Rat) := by exact_mod_cast hb
  have a0 : (a : Rat) < 0 := by exact_mod_cast ha
  have e : Rat.divInt a b * (b : Rat) = (a : Rat) := by
    rw [Rat.divInt_eq_div]
    exact Rat.div_mul_cancel (by grind)
  generalize Rat.divInt a b = q at *
  generalize (b : Rat) = d at *
  generalize (a : Rat) = c at *
  rcases (Rat.le_total : 0 ≤ q ∨ q ≤ 0) with h | h
  · have := Rat.mul_nonneg h (show (0 : Rat) ≤ d by grind)
    grind
  · by_cases z : q = 0
    · subst z
      grind
    · grind
theorem divInt_ge0 {a b : Int} (ha : 0 ≤ a) (hb : 0 < b) : 0 ≤ Rat.divInt a b := by
  rcases (by omega : a = 0 ∨ 0 < a) with rfl | h
  · rw [Rat.zero_divInt]
    exact Rat.le_refl
  · have := divInt_pos h hb
    grind

/-! ### lines by their lists -/
abbrev Kn := Rat × Rat
def rise (p k : Kn) : Rat := (k.2 - p.2) / (k.1 - p.1)
def fs (p : Kn) (rest : List Kn) (s : Rat) : Rat := match rest with
  | [] => s
  | k :: _ => rise p k
def val (p : Kn) : List Kn → Rat → Rat → Rat
  | [], s, x => p.2 + s * (x - p.1)
  | k :: r, s, x => if x < k.1 then p.2 + rise p k * (x - p.1) else val k r s x
/-- the slope to the right of x -/
def sr (p : Kn) : List Kn → Rat → Rat → Rat
  | [], s, _ => s
  | k :: r, s, x => if x < k.1 then rise p k else sr k r s x
def Up (p : Kn) : List Kn → Prop
  | [] => True
  | k :: r => p.1 < k.1 ∧ Up k r
/-- the knots behind p at which it goes not straight on -/
def nrm (p : Kn) : List Kn → Rat → List Kn
  | [], _ => []
  | k :: r, s => if rise p k = fs k r s then nrm p r s else k :: nrm k r s
def Nml (p : Kn) : List Kn → Rat → Prop
  | [], _ => True
  | k :: r, s => rise p k ≠ fs k r s ∧ Nml k r s
theorem Up.skip {p k : Kn} {r : List Kn} (h : Up p (k :: r)) : Up p r := by
  obtain ⟨h1, h2⟩ := h
  cases r with
  | nil => trivial
  | cons k2 r => exact ⟨by have := h2.1; grind, h2.2⟩
theorem Up.lt {k : Kn} : ∀ {p : Kn} {r : List Kn}, Up p r → k ∈ r → p.1 < k.1
  | p, k0 :: r, h, hk => by
    rcases List.mem_cons.mp hk with rfl | hk
    · exact h.1
    · have := Up.lt h.2 hk
      have := h.1
      grind
theorem rise_mul {p k : Kn} (h : p.1 < k.1) : rise p k * (k.1 - p.1) = k.2 - p.2 := by
  unfold rise
  exact Rat.div_mul_cancel (by grind)
theorem rise_eq {p k : Kn} {c : Rat} (h : p.1 < k.1) (e : k.2 - p.2 = c * (k.1 - p.1)) : rise p k = c := by
  have d0 : k.1 - p.1 ≠ 0 := by grind
  unfold rise
  rw [e, Rat.div_def, Rat.mul_assoc, Rat.mul_inv_cancel _ d0, Rat.mul_one]
theorem rise_two {p k k2 : Kn} (h : p.1 < k.1) (h2 : k.1 < k2.1) (e : rise p k = rise k k2) : rise p k2 = rise p k := by
  have a := rise_mul h
  have b := rise_mul h2
  rw [← e] at b
  refine rise_eq (by grind) ?_
  generalize rise p k = c at *
  grind
theorem val_at {k : Kn} {s : Rat} : ∀ {p : Kn} {r : List Kn}, Up p r → k ∈ p :: r → val p r s k.1 = k.2
  | p, [], _, hk => by
    obtain rfl := List.mem_singleton.mp hk
    unfold val
    grind
  | p, k0 :: r, h, hk => by
    unfold val
    rcases List.mem_cons.mp hk with rfl | hk
    · rw [if_pos h.1]
      grind
    · have e : ¬ k.1 < k0.1 := by
        rcases List.mem_cons.mp hk with rfl | hk
        · grind
        · have := Up.lt h.2 hk
          grind
      rw [if_neg e]
      exact val_at h.2 hk
theorem val_step {s u v : Rat} : ∀ {p : Kn} {r : List Kn}, Up p r → p.1 ≤ u → u ≤ v → (∀ k ∈ r, ¬ (u < k.1 ∧ k.1 < v)) → val p r s v = val p r s u + sr p r s u * (v - u)
  | p, [], _, _, _, _ => by
    unfold val sr
    grind
  | p, k0 :: r, h, hp, huv, hn => by
    have c0 := hn k0 (List.mem_cons_self ..)
    unfold val sr
    by_cases c : u < k0.1
    · rw [if_pos c, if_pos c]
      by_cases c2 : v < k0.1
      · rw [if_pos c2]
        grind
      · rw [if_neg c2]
        have e : v = k0.1 := by grind
        rw [e, val_at h.2 (List.mem_cons_self ..)]
        have := rise_mul h.1
        grind
    · rw [if_neg c, if_neg c, if_neg (by grind)]
      exact val_step h.2 (by grind) huv fun k hk => hn k (List.mem_cons_of_mem _ hk)
theorem sr_end {s u : Rat} : ∀ {p : Kn} {r : List Kn}, (∀ k ∈ r, ¬ u < k.1) → sr p r s u = s
  | p, [], _ => rfl
  | p, k0 :: r, h => by
    unfold sr
    rw [if_neg (h k0 (List.mem_cons_self ..))]
    exact sr_end fun k hk => h k (List.mem_cons_of_mem _ hk)
/-! what straightening keeps -/
theorem up_nrm {s : Rat} : ∀ {p : Kn} {r : List Kn}, Up p r → Up p (nrm p r s)
  | p, [], _ => trivial
  | p, k :: r, h => by
    unfold nrm
    split
    · exact up_nrm h.skip
    · exact ⟨h.1, up_nrm h.2⟩
theorem mem_nrm {s : Rat} {x : Kn} : ∀ {p : Kn} {r : List Kn}, x ∈ nrm p r s → x ∈ r
  | p, [], h => h
  | p, k :: r, h => by
    unfold nrm at h
    split at h
    · exact List.mem_cons_of_mem _ (mem_nrm h)
    · rcases List.mem_cons.mp h with rfl | h
      · exact List.mem_cons_self ..
      · exact List.mem_cons_of_mem _ (mem_nrm h)
theorem fs_nrm {s : Rat} : ∀ {p : Kn} {r : List Kn}, Up p r → fs p (nrm p r s) s = fs p r s
  | p, [], _ => rfl
  | p, k :: r, h => by
    unfold nrm
    split
    · rename_i e
      rw [fs_nrm h.skip]
      cases r with
      | nil => exact e.symm
      | cons k2 r => exact rise_two h.1 h.2.1 e
    · rfl
theorem val_skip {s x : Rat} {p k : Kn} {r : List Kn} (h : Up p (k :: r)) (e : rise p k = fs k r s) : val p r s x = val p (k :: r) s x := by
  have a := rise_mul h.1
  cases r with
  | nil =>
    have e : rise p k = s := e
    show p.2 + s * (x - p.1) = if x < k.1 then p.2 + rise p k * (x - p.1) else k.2 + s * (x - k.1)
    rw [e] at a ⊢
    split <;> grind
  | cons k2 r =>
    have e : rise p k = rise k k2 := e
    have e2 := rise_two h.1 h.2.1 e
    have l2 : k.1 < k2.1 := h.2.1
    show (if x < k2.1 then p.2 + rise p k2 * (x - p.1) else val k2 r s x) = if x < k.1 then p.2 + rise p k * (x - p.1) else if x < k2.1 then k.2 + rise k k2 * (x - k.1) else val k2 r s x
    rw [e2, ← e]
    by_cases c : x < k.1
    · rw [if_pos (show x < k2.1 by grind), if_pos c]
    · rw [if_neg c]
      split <;> grind
theorem val_nrm {s x : Rat} : ∀ {p : Kn} {r : List Kn}, Up p r → val p (nrm p r s) s x = val p r s x
  | p, [], _ => rfl
  | p, k :: r, h => by
    unfold nrm
    split
    · rename_i e
      rw [val_nrm h.skip]
      exact val_skip h e
    · show (if x < k.1 then _ else val k (nrm k r s) s x) = if x < k.1 then _ else val k r s x
      rw [val_nrm h.2]
theorem nml_nrm {s : Rat} : ∀ {p : Kn} {r : List Kn}, Up p r → Nml p (nrm p r s) s
  | p, [], _ => trivial
  | p, k :: r, h => by
    unfold nrm
    split
    · exact nml_nrm h.skip
    · rename_i e
      exact ⟨by rw [fs_nrm h.2]; exact e, nml_nrm h.2⟩
/-- all slopes are so -/
def SlP (P : Rat → Prop) (p : Kn) : List Kn → Rat → Prop
  | [], s => P s
  | k :: r, s => P (rise p k) ∧ SlP P k r s
theorem SlP.fs {P : Rat → Prop} {p : Kn} {r : List Kn} {s : Rat} (h : SlP P p r s) : P (fs p r s) := by
  cases r with
  | nil => exact h
  | cons k r => exact h.1
theorem SlP.end_ {P : Rat → Prop} {s : Rat} : ∀ {p : Kn} {r : List Kn}, SlP P p r s → P s
  | p, [], h => h
  | p, k :: r, h => SlP.end_ h.2
theorem SlP.skip {P : Rat → Prop} {p k : Kn} {r : List Kn} {s : Rat} (h : SlP P p (k :: r) s) (u : Up p (k :: r)) (e : rise p k = Pm.fs k r s) : SlP P p r s := by
  cases r with
  | nil => exact h.2
  | cons k2 r => exact ⟨by rw [rise_two u.1 u.2.1 e]; exact h.1, h.2.2⟩
theorem SlP.nrm {P : Rat → Prop} {s : Rat} : ∀ {p : Kn} {r : List Kn}, Up p r → SlP P p r s → SlP P p (nrm p r s) s
  | p, [], _, h => h
  | p, k :: r, u, h => by
    unfold Pm.nrm
    split
    · rename_i e
      exact SlP.nrm u.skip (h.skip u e)
    · exact ⟨h.1, SlP.nrm u.2 h.2⟩
theorem SlP.sr {P : Rat → Prop} {s x : Rat} : ∀ {p : Kn} {r : List Kn}, SlP P p r s → P (sr p r s x)
  | p, [], h => h
  | p, k :: r, h => by
    unfold Pm.sr
    split
    · exact h.1
    · exact SlP.sr h.2
theorem SlP.mono {P Q : Rat → Prop} {s : Rat} (i : ∀ q, P q → Q q) : ∀ {p : Kn} {r : List Kn}, SlP P p r s → SlP Q p r s
  | p, [], h => i _ h
  | p, k :: r, h => ⟨i _ h.1, SlP.mono i h.2⟩
/-! by places -/
theorem slAt_zero {p : Kn} {r : List Kn} {s : Rat} : slAt ⟨p :: r, s⟩ 0 = fs p r s := by
  cases r with
  | nil => simp [slAt, fs]
  | cons k r => simp [slAt, fs, kAt, rise]
theorem slAt_succ {p k : Kn} {r : List Kn} {s : Rat} {i : Nat} : slAt ⟨p :: k :: r, s⟩ (i + 1) = slAt ⟨k :: r, s⟩ i := by
  simp [slAt, kAt]
theorem SlP.at {P : Rat → Prop} {s : Rat} : ∀ {p : Kn} {r : List Kn} {i : Nat}, SlP P p r s → i < (p :: r).length → P (slAt ⟨p :: r, s⟩ i)
  | p, r, 0, h, _ => by rw [slAt_zero]; exact h.fs
  | p, [], i + 1, _, hi => absurd hi (by simp)
  | p, k :: r, i + 1, h, hi => by rw [slAt_succ]; exact SlP.at h.2 (by simpa using hi)
theorem SlP.of {P : Rat → Prop} {s : Rat} : ∀ {p : Kn} {r : List Kn}, (∀ i, i < (p :: r).length → P (slAt ⟨p :: r, s⟩ i)) → SlP P p r s
  | p, [], h => by have := h 0 (by simp); rwa [slAt_zero] at this
  | p, k :: r, h => ⟨by have := h 0 (by simp); rwa [slAt_zero] at this, SlP.of fun i hi => by have := h (i + 1) (by simpa using hi); rwa [slAt_succ] at this⟩
theorem Nml.at {s : Rat} : ∀ {p : Kn} {r : List Kn} {i : Nat}, Nml p r s → i + 1 < (p :: r).length → slAt ⟨p :: r, s⟩ i ≠ slAt ⟨p :: r, s⟩ (i + 1)
  | p, [], i, _, hi => absurd hi (by simp)
  | p, k :: r, 0, h, _ => by rw [slAt_zero, slAt_succ, slAt_zero]; exact h.1
  | p, k :: r, i + 1, h, hi => by rw [slAt_succ, slAt_succ]; exact Nml.at h.2 (by simpa using hi)
theorem Nml.of {s : Rat} : ∀ {p : Kn} {r : List Kn}, (∀ i, i + 1 < (p :: r).length → slAt ⟨p :: r, s⟩ i ≠ slAt ⟨p :: r, s⟩ (i + 1)) → Nml p r s
  | p, [], _ => trivial
  | p, k :: r, h => ⟨by have := h 0 (by simp); rwa [slAt_zero, slAt_succ, slAt_zero] at this, Nml.of fun i hi => by have := h (i + 1) (by simpa using hi); rwa [slAt_succ, slAt_succ] at this⟩
theorem Up.at : ∀ {p : Kn} {r : List Kn} {i : Nat}, Up p r → i + 1 < (p :: r).length → (kAt (p :: r) i).1 < (kAt (p :: r) (i + 1)).1
  | p, [], i, _, hi => absurd hi (by simp)
  | p, k :: r, 0, h, _ => by simpa [kAt] using h.1
  | p, k :: r, i + 1, h, hi => by simpa [kAt] using Up.at (i := i) h.2 (by simpa using hi)
theorem Up.of : ∀ {p : Kn} {r : List Kn}, (∀ i, i + 1 < (p :: r).length → (kAt (p :: r) i).1 < (kAt (p :: r) (i + 1)).1) → Up p r
  | p, [], _ => trivial
  | p, k :: r, h => ⟨by simpa [kAt] using h 0 (by simp), Up.of fun i hi => by simpa [kAt] using h (i + 1) (by simpa using hi)⟩
theorem cnt_cons {p : Kn} {r : List Kn} {x : Rat} (h : ¬ x < p.1) : cnt (p :: r) x = cnt r x + 1 := by simp [cnt, h]
theorem cnt_zero {x : Rat} {r : List Kn} (h : ∀ k ∈ r, x < k.1) : cnt r x = 0 := by
  unfold cnt
  rw [List.length_eq_zero_iff, List.filter_eq_nil_iff]
  intro k hk
  simp [h k hk]
theorem yAt_succ {p k : Kn} {r : List Kn} {s x : Rat} {i : Nat} : yAt ⟨p :: k :: r, s⟩ (i + 1) x = yAt ⟨k :: r, s⟩ i x := by
  unfold yAt
  rw [slAt_succ]
  simp [kAt]
theorem yOf_val {s x : Rat} : ∀ {p : Kn} {r : List Kn}, Up p r → p.1 ≤ x → yOf ⟨p :: r, s⟩ x = val p r s x
  | p, [], _, h => by
    have c : ¬ x < p.1 := by grind
    unfold yOf
    rw [cnt_cons c]
    show yAt _ 0 x = _
    unfold yAt
    rw [slAt_zero]
    rfl
  | p, k :: r, u, h => by
    have c : ¬ x < p.1 := by grind
    unfold yOf val
    rw [cnt_cons c]
    split
    · rename_i c2
      rw [cnt_zero fun z hz => by
        rcases List.mem_cons.mp hz with rfl | hz
        · exact c2
        · have := Up.lt u.2 hz
          grind]
      show yAt _ 0 x = _
      unfold yAt
      rw [slAt_zero]
      rfl
    · rename_i c2
      rw [← yOf_val u.2 (by grind), cnt_cons c2]
      show yAt _ (cnt r x + 1) x = _
      rw [yAt_succ]
      unfold yOf
      rw [cnt_cons c2]
      rfl
/-- a line of numbers of so many bits: x, y, slopes -/
structure LnG (a b c : Nat) (l : Ln) : Prop where
  b : ∀ k ∈ l.ks, Bd a k.1 ∧ Bd b k.2
  s : ∀ i, i < l.ks.length → Bd c (slAt l i)
  r : ∀ i, i + 1 < l.ks.length → (kAt l.ks i).1 < (kAt l.ks (i + 1)).1
  f : 0 < l.ks.length ∧ (kAt l.ks 0).1 = 0
  len : l.ks.length ≤ 5000
theorem LnG.up {a b c a' b' c' : Nat} {l : Ln} (h : LnG a b c l) (e1 : a ≤ a') (e2 : b ≤ b') (e3 : c ≤ c') : LnG a' b' c' l := { h with b := fun k hk => ⟨(h.b k hk).1.mono e1, (h.b k hk).2.mono e2⟩, s := fun i hi => (h.s i hi).mono e3 }
theorem LnG.sl {a b c : Nat} {l : Ln} (h : LnG a b c l) : Bd c l.sl := by
  have z := h.s (l.ks.length - 1) (by have := h.f.1; omega)
  unfold slAt at z
  rwa [if_neg (by have := h.f.1; omega)] at z
/-- its list -/
theorem LnG.list {a b c : Nat} {l : Ln} (h : LnG a b c l) : ∃ p r, l = ⟨p :: r, l.sl⟩ ∧ p.1 = 0 ∧ Up p r ∧ SlP (Bd c) p r l.sl := by
  obtain ⟨ks, s⟩ := l
  have h0 := h.f
  cases ks with
  | nil => exact absurd h0.1 (by simp)
  | cons p r => exact ⟨p, r, rfl, h0.2, Up.of h.r, SlP.of h.s⟩
theorem LnG.of {a b c : Nat} {p : Kn} {r : List Kn} {s : Rat} (h0 : p.1 = 0) (u : Up p r) (z : SlP (Bd c) p r s) (k : ∀ x ∈ p :: r, Bd a x.1 ∧ Bd b x.2) (hl : (p :: r).length ≤ 5000) : LnG a b c ⟨p :: r, s⟩ :=
  ⟨k, fun i hi => z.at hi, fun i hi => u.at hi, ⟨by simp, h0⟩, hl⟩
theorem LnD.lng {D : Nat} {l : Ln} (h : LnD D l) : LnG 40 40 40 l := ⟨h.ln.b, fun i hi => dv22 h.d0 h.d1 (by decide) (h.sa i hi), h.r, h.f, Nat.le_trans h.len (by decide)⟩
/-- unlike slopes -/
def Nm (l : Ln) : Prop := ∀ i, i + 1 < l.ks.length → slAt l i ≠ slAt l (i + 1)
/-- the normal line of some knots -/
def nline (p : Kn) (r : List Kn) (s : Rat) : Ln := ⟨p :: nrm p r s, s⟩
theorem nline_len : ∀ (p : Kn) (r : List Kn) (s : Rat), (nrm p r s).length ≤ r.length
  | p, [], _ => by simp [nrm]
  | p, k :: r, s => by
    unfold nrm
    split
    · have := nline_len p r s
      simp
      omega
    · have := nline_len k r s
      simpa using this
theorem nline_ln {a b c : Nat} {p : Kn} {r : List Kn} {s : Rat} (h0 : p.1 = 0) (u : Up p r) (z : SlP (Bd c) p r s) (k : ∀ x ∈ p :: r, Bd a x.1 ∧ Bd b x.2) (hl : (p :: r).length ≤ 5000) : LnG a b c (nline p r s) :=
  LnG.of h0 (up_nrm u) (z.nrm u) (fun x hx => by
    rcases List.mem_cons.mp hx with rfl | hx
    · exact k _ (List.mem_cons_self ..)
    · exact k x (List.mem_cons_of_mem _ (mem_nrm hx))) (by have := nline_len p r s; simp at hl ⊢; omega)
theorem nline_nm {p : Kn} {r : List Kn} {s : Rat} (u : Up p r) : Nm (nline p r s) := fun i hi => (nml_nrm u).at hi
theorem nline_y {p : Kn} {r : List Kn} {s x : Rat} (u : Up p r) (h : p.1 ≤ x) : yOf (nline p r s) x = val p r s x := by
  unfold nline
  rw [yOf_val (up_nrm u) h, val_nrm u]
theorem LnG.mono_ {a b c : Nat} {l : Ln} (h : LnG a b c l) : ∀ {i j : Nat}, i ≤ j → j < l.ks.length → (kAt l.ks i).1 ≤ (kAt l.ks j).1
  | i, 0, hij, _ => by obtain rfl : i = 0 := by omega
                       exact Rat.le_refl
  | i, j + 1, hij, hj => by
    by_cases c : i = j + 1
    · rw [c]; exact Rat.le_refl
    · have a := h.mono_ (i := i) (j := j) (by omega) (by omega)
      have b := h.r j hj
      grind
theorem LnG.ne {a b c : Nat} {l : Ln} (h : LnG a b c l) {i : Nat} (hi : i + 1 < l.ks.length) : (kAt l.ks (i + 1)).1 - (kAt l.ks i).1 ≠ 0 := by have := h.r i hi; grind
theorem cnt_allG {a b c : Nat} {l : Ln} (h : LnG a b c l) {x : Rat} : ∀ {i : Nat}, i < l.ks.length → ¬ x < (kAt l.ks i).1 → cnt (l.ks.take (i + 1)) x = i + 1
  | 0, hi, e => by
    rw [cnt_yes (kAt_get hi) e]
    simp [cnt]
  | i + 1, hi, e => by
    have r := h.r i hi
    rw [cnt_yes (kAt_get hi) e, cnt_allG h (by omega) (by grind)]
theorem cnt_oneG {a b c : Nat} {l : Ln} (h : LnG a b c l) {x : Rat} (h0 : 0 ≤ x) : 1 ≤ cnt l.ks x := by
  obtain ⟨p, r, e, z, _⟩ := h.list
  rw [e, cnt_cons (by grind)]
  omega
theorem LnG.yo {a b c m : Nat} {l : Ln} (h : LnG a b c l) {x : Rat} (bx : Bd m x) : Bd (a + b + c + m + 5) (yOf l x) := by
  have := cnt_le l.ks x
  have := h.f.1
  have hi : cnt l.ks x - 1 < l.ks.length := by omega
  have z := h.b _ (kAt_mem hi)
  exact (bd_add z.2 (bd_mul (h.s _ hi) (bd_sub bx z.1))).mono (by omega)
theorem LnG.nn {a b c : Nat} {l : Ln} (h : LnG a b c l) {k : Kn} (hk : k ∈ l.ks) : 0 ≤ k.1 := by
  obtain ⟨j, hj, rfl⟩ := List.getElem_of_mem hk
  have z := h.mono_ (i := 0) (j := j) (by omega) hj
  rwa [h.f.2, kAt_of (List.getElem?_eq_getElem hj)] at z
/-- the value goes straight to the next knot -/
theorem LnG.step {a b c : Nat} {l : Ln} (h : LnG a b c l) {u : Rat} (u0 : 0 ≤ u) : ∃ g, Bd c g ∧ ((∀ k ∈ l.ks, ¬ u < k.1) → g = l.sl) ∧ ∀ v, u ≤ v → (∀ k ∈ l.ks, ¬ (u < k.1 ∧ k.1 < v)) → yOf l v = yOf l u + g * (v - u) := by
  obtain ⟨p, r, e, z, up, sl⟩ := h.list
  refine ⟨sr p r l.sl u, sl.sr, fun g => sr_end fun k hk => g k (by rw [e]; exact List.mem_cons_of_mem _ hk), fun v hv g => ?_⟩
  rw [e, yOf_val up (by grind), yOf_val up (by grind)]
  exact val_step up (by grind) hv fun k hk => g k (by rw [e]; exact List.mem_cons_of_mem _ hk)
/-! rising rows of numbers -/
def insR (x : Rat) : List Rat → List Rat
  | [] => [x]
  | a :: r => if a < x then a :: insR x r else if a = x then a :: r else x :: a :: r
def Ris (a : Rat) : List Rat → Prop
  | [] => True
  | b :: r => a < b ∧ Ris b r
def RisL : List Rat → Prop
  | [] => True
  | a :: r => Ris a r
theorem mem_insR {x y : Rat} : ∀ {r : List Rat}, y ∈ insR x r ↔ y = x ∨ y ∈ r
  | [] => by simp [insR]
  | a :: r => by
    unfold insR
    split
    · rw [List.mem_cons, mem_insR (r := r), List.mem_cons]
      grind
    · split
      · rename_i e
        rw [List.mem_cons]
        grind
      · simp
theorem ris_insR {x : Rat} : ∀ {a : Rat} {r : List Rat}, Ris a r → a < x → Ris a (insR x r)
  | a, [], _, c => ⟨c, trivial⟩
  | a, b :: r, h, c => by
    unfold insR
    split
    · rename_i e
      exact ⟨h.1, ris_insR h.2 e⟩
    · split
      · exact h
      · rename_i e1 e2
        exact ⟨c, by grind, h.2⟩
theorem risL_insR {x : Rat} {r : List Rat} (h : RisL r) : RisL (insR x r) := by
  cases r with
  | nil => trivial
  | cons a r =>
    unfold insR
    split
    · rename_i e
      exact ris_insR h e
    · split
      · exact h
      · exact ⟨by grind, h⟩
theorem Ris.lt {y : Rat} : ∀ {a : Rat} {r : List Rat}, Ris a r → y ∈ r → a < y
  | a, b :: r, h, hy => by
    rcases List.mem_cons.mp hy with rfl | hy
    · exact h.1
    · have := Ris.lt h.2 hy
      have := h.1
      grind
/-- how many are less -/
def lessN (x : Rat) (r : List Rat) : Nat := (r.filter fun a => decide (a < x)).length
theorem lessN_le (x : Rat) (r : List Rat) : lessN x r ≤ r.length := List.length_filter_le ..
theorem lessN_zero {x a : Rat} {r : List Rat} (h : Ris a r) (c : ¬ a < x) : lessN x r = 0 := by
  unfold lessN
  rw [List.length_eq_zero_iff, List.filter_eq_nil_iff]
  intro y hy
  have := h.lt hy
  simp
  grind
theorem RisL.tail {a : Rat} {r : List Rat} (h : RisL (a :: r)) : RisL r := by
  cases r with
  | nil => trivial
  | cons b r => exact h.2
/-- put in at its place -/
theorem insR_place {x : Rat} : ∀ {r : List Rat}, RisL r → (if lessN x r = r.length ∨ r[lessN x r]? ≠ some x then r.take (lessN x r) ++ [x] ++ r.drop (lessN x r) else r) = insR x r
  | [], _ => by simp [lessN, insR]
  | a :: r, h => by
    unfold insR
    by_cases c : a < x
    · rw [if_pos c, ← insR_place h.tail]
      have e : lessN x (a :: r) = lessN x r + 1 := by simp [lessN, c]
      rw [e]
      simp only [List.length_cons, Nat.add_right_cancel_iff, List.getElem?_cons_succ, List.take_succ_cons, List.drop_succ_cons, List.cons_append]
      split <;> rfl
    · have e : lessN x (a :: r) = 0 := by
        have z : lessN x (a :: r) = lessN x r := by simp [lessN, c]
        rw [z]
        exact lessN_zero h c
      rw [if_neg c, e]
      by_cases c2 : a = x
      · simp [c2]
      · simp [c2]
end Pm

namespace Pm
open PySem PySem.Spec PyProof.Rows L2
/-! ### a line through the points of a function that goes straight between them -/
def Itp (P : Rat → Prop) (f : Rat → Rat) (p : Kn) : List Kn → Rat → Prop
  | [], s => p.2 = f p.1 ∧ P s ∧ ∀ w, p.1 ≤ w → f w = f p.1 + s * (w - p.1)
  | k :: r, s => p.2 = f p.1 ∧ p.1 < k.1 ∧ (∃ g, P g ∧ ∀ w, p.1 ≤ w → w ≤ k.1 → f w = f p.1 + g * (w - p.1)) ∧ Itp P f k r s
theorem Itp.y {P : Rat → Prop} {f : Rat → Rat} {p : Kn} {r : List Kn} {s : Rat} (h : Itp P f p r s) : p.2 = f p.1 := by
  cases r with
  | nil => exact h.1
  | cons k r => exact h.1
theorem Itp.up {P : Rat → Prop} {f : Rat → Rat} {s : Rat} : ∀ {p : Kn} {r : List Kn}, Itp P f p r s → Up p r
  | p, [], _ => trivial
  | p, k :: r, h => ⟨h.2.1, Itp.up h.2.2.2⟩
theorem Itp.rise {P : Rat → Prop} {f : Rat → Rat} {s : Rat} {p k : Kn} {r : List Kn} (h : Itp P f p (k :: r) s) : ∃ g, P g ∧ rise p k = g ∧ ∀ w, p.1 ≤ w → w ≤ k.1 → f w = f p.1 + g * (w - p.1) := by
  obtain ⟨h1, h2, ⟨g, h3, h4⟩, h5⟩ := h
  refine ⟨g, h3, rise_eq h2 ?_, h4⟩
  have := h4 k.1 (by grind) Rat.le_refl
  rw [h5.y, h1]
  grind
theorem Itp.sl {P : Rat → Prop} {f : Rat → Rat} {s : Rat} : ∀ {p : Kn} {r : List Kn}, Itp P f p r s → SlP P p r s
  | p, [], h => h.2.1
  | p, k :: r, h => by
    obtain ⟨g, h3, h4, _⟩ := h.rise
    exact ⟨by rw [h4]; exact h3, Itp.sl h.2.2.2⟩
theorem Itp.val {P : Rat → Prop} {f : Rat → Rat} {s x : Rat} : ∀ {p : Kn} {r : List Kn}, Itp P f p r s → p.1 ≤ x → val p r s x = f x
  | p, [], h, hx => by
    unfold Pm.val
    rw [h.2.2 x hx, h.1]
  | p, k :: r, h, hx => by
    unfold Pm.val
    obtain ⟨g, h3, h4, h5⟩ := h.rise
    split
    · rename_i c
      rw [h4, h5 x hx (by grind), h.1]
    · exact Itp.val h.2.2.2 (by grind)
theorem itp_of {P : Rat → Prop} {f : Rat → Rat} {s : Rat} : ∀ {a : Rat} {r : List Rat}, Ris a r → (∀ u ∈ a :: r, ∃ g, P g ∧ ((∀ q ∈ a :: r, ¬ u < q) → g = s) ∧ ∀ v, u ≤ v → (∀ q ∈ a :: r, ¬ (u < q ∧ q < v)) → f v = f u + g * (v - u)) →
    Itp P f (a, f a) (r.map fun x => (x, f x)) s
  | a, [], _, h => by
    obtain ⟨g, g1, g2, g3⟩ := h a (List.mem_cons_self ..)
    have e : g = s := g2 fun q hq => by
      obtain rfl := List.mem_singleton.mp hq
      grind
    subst e
    exact ⟨rfl, g1, fun w hw => g3 w hw fun q hq => by
      obtain rfl := List.mem_singleton.mp hq
      grind⟩
  | a, b :: r, ri, h => by
    obtain ⟨g, g1, _, g3⟩ := h a (List.mem_cons_self ..)
    refine ⟨rfl, ri.1, ⟨g, g1, fun w hw hwb => g3 w hw fun q hq => ?_⟩, itp_of ri.2 fun u hu => ?_⟩
    · show ¬ (a < q ∧ q < w)
      have hwb : w ≤ b := hwb
      rcases List.mem_cons.mp hq with rfl | hq
      · grind
      · rcases List.mem_cons.mp hq with rfl | hq
        · grind
        · have := ri.2.lt hq
          grind
    · have ub : a < u := by
        rcases List.mem_cons.mp hu with rfl | hu
        · exact ri.1
        · have := ri.2.lt hu
          have := ri.1
          grind
      obtain ⟨g, g1, g2, g3⟩ := h u (List.mem_cons_of_mem _ hu)
      refine ⟨g, g1, fun z => g2 fun q hq => ?_, fun v hv z => g3 v hv fun q hq => ?_⟩
      · rcases List.mem_cons.mp hq with rfl | hq
        · grind
        · exact z q hq
      · rcases List.mem_cons.mp hq with rfl | hq
        · grind
        · exact z q hq
/-- a normal line that is a function, s its slope behind -/
structure LnF (a b c n : Nat) (f : Rat → Rat) (s : Rat) (l : Ln) : Prop where
  g : LnG a b c l
  nm : Nm l
  y : ∀ x, 0 ≤ x → yOf l x = f x
  e : l.sl = s
  le : l.ks.length ≤ n
theorem nline_f {a b c n : Nat} {f : Rat → Rat} {s : Rat} {p : Kn} {r : List Kn} (h : Itp (Bd c) f p r s) (h0 : p.1 = 0) (k : ∀ x ∈ p :: r, Bd a x.1 ∧ Bd b x.2) (hl : (p :: r).length ≤ n) (hn : n ≤ 5000) : LnF a b c n f s (nline p r s) :=
  ⟨nline_ln h0 h.up h.sl k (Nat.le_trans hl hn), nline_nm h.up, fun x hx => by rw [nline_y h.up (by grind), h.val (by grind)], rfl, by
    have := nline_len p r s
    show (p :: nrm p r s).length ≤ n
    simp at hl ⊢
    omega⟩
/-- a drawn one is such -/
theorem LnD.fn {D : Nat} {l : Ln} (h : LnD D l) : LnF 40 40 40 60 (yOf l) l.sl l := ⟨h.lng, h.u, fun _ _ => rfl, rfl, h.len⟩
theorem LnF.up {a b c n a' b' c' n' : Nat} {f : Rat → Rat} {s : Rat} {l : Ln} (h : LnF a b c n f s l) (e1 : a ≤ a') (e2 : b ≤ b') (e3 : c ≤ c') (e4 : n ≤ n') : LnF a' b' c' n' f s l := ⟨h.g.up e1 e2 e3, h.nm, h.y, h.e, Nat.le_trans h.le e4⟩
/-- all x of knots of two lines, rising: they begin at nought -/
theorem xs_head {l1 l2 : Ln} {a b c a' b' c' : Nat} (g1 : LnG a b c l1) (g2 : LnG a' b' c' l2) {qs : List Rat} (hr : RisL qs) (hm : ∀ x, x ∈ qs ↔ (∃ k ∈ l1.ks, k.1 = x) ∨ ∃ k ∈ l2.ks, k.1 = x) : ∃ r, qs = 0 :: r ∧ Ris 0 r ∧ ∀ q ∈ qs, 0 ≤ q := by
  have nn : ∀ q ∈ qs, 0 ≤ q := fun q hq => by
    rcases (hm q).mp hq with ⟨k, hk, rfl⟩ | ⟨k, hk, rfl⟩
    · exact g1.nn hk
    · exact g2.nn hk
  have z : (0 : Rat) ∈ qs := (hm 0).mpr (.inl ⟨_, kAt_mem g1.f.1, g1.f.2⟩)
  cases qs with
  | nil => cases z
  | cons q r =>
    have e : q = 0 := by
      rcases List.mem_cons.mp z with e | z
      · exact e.symm
      · have a1 := Ris.lt (show Ris q r from hr) z
        have a2 := nn q (List.mem_cons_self ..)
        grind
    subst e
    exact ⟨r, rfl, hr, nn⟩
theorem sum_itp {l1 l2 : Ln} {a b c a' b' c' : Nat} (g1 : LnG a b c l1) (g2 : LnG a' b' c' l2) {r : List Rat} (hr : Ris 0 r) (hm : ∀ x, x ∈ 0 :: r ↔ (∃ k ∈ l1.ks, k.1 = x) ∨ ∃ k ∈ l2.ks, k.1 = x) (nn : ∀ q ∈ 0 :: r, 0 ≤ q) :
    Itp (Bd (c + c' + 1)) (fun x => yOf l1 x + yOf l2 x) (0, yOf l1 0 + yOf l2 0) (r.map fun x => (x, yOf l1 x + yOf l2 x)) (l1.sl + l2.sl) := by
  refine itp_of (f := fun x => yOf l1 x + yOf l2 x) hr fun u hu => ?_
  obtain ⟨p1, b1, e1, s1⟩ := g1.step (nn u hu)
  obtain ⟨p2, b2, e2, s2⟩ := g2.step (nn u hu)
  refine ⟨p1 + p2, bd_add b1 b2, fun z => ?_, fun v hv z => ?_⟩
  · rw [e1 fun k hk => z _ ((hm _).mpr (.inl ⟨k, hk, rfl⟩)), e2 fun k hk => z _ ((hm _).mpr (.inr ⟨k, hk, rfl⟩))]
  · show yOf l1 v + yOf l2 v = yOf l1 u + yOf l2 u + _
    rw [s1 v hv fun k hk => z _ ((hm _).mpr (.inl ⟨k, hk, rfl⟩)), s2 v hv fun k hk => z _ ((hm _).mpr (.inr ⟨k, hk, rfl⟩))]
    grind
/-- so many times it -/
theorem times_itp {a b c d : Nat} {s q : Rat} (bq : Bd d q) : ∀ {p : Kn} {r : List Kn}, Up p r → SlP (Bd c) p r s → Itp (Bd (c + d)) (fun x => val p r s x * q) (p.1, p.2 * q) (r.map fun k => (k.1, k.2 * q)) (s * q)
  | p, [], u, h => by
    refine ⟨show p.2 * q = val p [] s p.1 * q by rw [val_at u (List.mem_cons_self ..)], bd_mul h bq, fun w hw => ?_⟩
    show (p.2 + s * (w - p.1)) * q = (p.2 + s * (p.1 - p.1)) * q + s * q * (w - p.1)
    grind
  | p, k :: r, u, h => by
    refine ⟨show p.2 * q = val p (k :: r) s p.1 * q by rw [val_at u (List.mem_cons_self ..)], u.1, ⟨rise p k * q, bd_mul h.1 bq, fun w hw hw2 => ?_⟩, ?_⟩
    · have z := val_step (s := s) u (u := p.1) (v := w) Rat.le_refl hw fun k2 hk2 => by
        have hw2 : w ≤ k.1 := hw2
        rcases List.mem_cons.mp hk2 with rfl | hk2
        · grind
        · have := Up.lt u.2 hk2
          grind
      have e : sr p (k :: r) s p.1 = rise p k := if_pos u.1
      show val p (k :: r) s w * q = val p (k :: r) s p.1 * q + rise p k * q * (w - p.1)
      rw [z, e]
      grind
    · have ih := times_itp (a := a) (b := b) bq u.2 h.2
      refine itp_ext (fun x hx => ?_) ih
      have hx : k.1 ≤ x := hx
      show val k r s x * q = val p (k :: r) s x * q
      have e : val p (k :: r) s x = val k r s x := if_neg (by grind)
      rw [e]
where
  itp_ext {P : Rat → Prop} {f g : Rat → Rat} {s : Rat} : ∀ {p : Kn} {r : List Kn}, (∀ x, p.1 ≤ x → f x = g x) → Itp P f p r s → Itp P g p r s
    | p, [], e, h => ⟨by rw [h.1, e _ Rat.le_refl], h.2.1, fun w hw => by rw [← e w hw, ← e p.1 Rat.le_refl]; exact h.2.2 w hw⟩
    | p, k :: r, e, h => ⟨by rw [h.1, e _ Rat.le_refl], h.2.1, let ⟨g0, h3, h4⟩ := h.2.2.1; ⟨g0, h3, fun w hw hw2 => by rw [← e w hw, ← e p.1 Rat.le_refl]; exact h4 w hw hw2⟩, itp_ext (fun x hx => e x (by have := h.2.1; grind)) h.2.2.2⟩
/-! one normal form alone -/
/-- up to where the first piece goes -/
def Till (r : List Kn) (x : Rat) : Prop := match r with
  | [] => True
  | k :: _ => x ≤ k.1
theorem val_fs {p : Kn} {r : List Kn} {s x : Rat} (u : Up p r) (t : Till r x) : val p r s x = p.2 + fs p r s * (x - p.1) := by
  cases r with
  | nil => rfl
  | cons k r =>
    have t : x ≤ k.1 := t
    unfold val fs
    split
    · rfl
    · have e : x = k.1 := by grind
      have := rise_mul u.1
      rw [e, val_at u.2 (List.mem_cons_self ..)]
      show k.2 = p.2 + rise p k * (k.1 - p.1)
      rw [this]
      grind
theorem till_some {p : Kn} {r : List Kn} (u : Up p r) {b : Rat} (h : p.1 < b) : ∃ e, p.1 < e ∧ e ≤ b ∧ Till r e := by
  cases r with
  | nil => exact ⟨b, h, Rat.le_refl, trivial⟩
  | cons k r =>
    by_cases c : b ≤ k.1
    · exact ⟨b, h, Rat.le_refl, c⟩
    · exact ⟨k.1, u.1, by grind, Rat.le_refl⟩
/-- behind a knot it goes on otherwise than by c -/
theorem not_on {p k : Kn} {t : List Kn} {s c b : Rat} (u : Up p (k :: t)) (n : Nml p (k :: t) s) (h : k.1 < b) (f : ∀ x, p.1 ≤ x → x ≤ b → val p (k :: t) s x = p.2 + c * (x - p.1)) : False := by
  have e1 : rise p k = c := rise_eq u.1 (by
    have := f k.1 (by have := u.1; grind) (by grind)
    rw [val_at u (List.mem_cons_of_mem _ (List.mem_cons_self ..))] at this
    grind)
  obtain ⟨e, h1, h2, h3⟩ := till_some u.2 h
  have a := f e (by have := u.1; grind) h2
  have v : val p (k :: t) s e = val k t s e := if_neg (by grind)
  rw [v, val_fs u.2 h3] at a
  have b1 := f k.1 (by have := u.1; grind) (by grind)
  rw [val_at u (List.mem_cons_of_mem _ (List.mem_cons_self ..))] at b1
  have z : (fs k t s - c) * (e - k.1) = 0 := by
    generalize fs k t s = g at *
    grind
  rcases Rat.mul_eq_zero.mp z with y | y
  · exact n.1 (by rw [e1]; grind)
  · grind
theorem val_tail {p k : Kn} {t : List Kn} {s x : Rat} (h : k.1 ≤ x) : val p (k :: t) s x = val k t s x := if_neg (by grind)
theorem nml_one {s s' : Rat} : ∀ {p p' : Kn} {r r' : List Kn}, Up p r → Nml p r s → Up p' r' → Nml p' r' s' → p.1 = p'.1 → (∀ x, p.1 ≤ x → val p r s x = val p' r' s' x) → p = p' ∧ r = r' ∧ s = s'
  | p, p', r, r', u, n, u', n', e, f => by
    have ep : p = p' := by
      have a := f p.1 Rat.le_refl
      rw [val_at u (List.mem_cons_self ..), e, val_at u' (List.mem_cons_self ..)] at a
      exact Prod.ext e a
    subst ep
    match r, r', u, n, u', n', f with
    | [], [], _, _, _, _, f =>
      have a := f (p.1 + 1) (by grind)
      have a : p.2 + s * (p.1 + 1 - p.1) = p.2 + s' * (p.1 + 1 - p.1) := a
      exact ⟨rfl, rfl, by grind⟩
    | [], k :: t, _, _, u', n', f =>
      exact (not_on u' n' (c := s) (b := k.1 + 1) (by grind) fun x hx _ => (f x hx).symm).elim
    | k :: t, [], u, n, _, _, f =>
      exact (not_on u n (c := s') (b := k.1 + 1) (by grind) fun x hx _ => f x hx).elim
    | k :: t, k' :: t', u, n, u', n', f =>
      have c1 : ¬ k.1 < k'.1 := fun c => not_on u n (c := rise p k') (b := k'.1) c fun x hx hb => by
        rw [f x hx]
        exact val_fs u' hb
      have c2 : ¬ k'.1 < k.1 := fun c => not_on u' n' (c := rise p k) (b := k.1) c fun x hx hb => by
        rw [← f x hx]
        exact val_fs u hb
      have ek : k.1 = k'.1 := by grind
      have ih := nml_one u.2 n.2 u'.2 n'.2 ek fun x hx => by
        have a := f x (by have := u.1; grind)
        rwa [val_tail hx, val_tail (by rw [← ek]; exact hx)] at a
      exact ⟨rfl, by rw [ih.1, ih.2.1], ih.2.2⟩
theorem LnF.one {a b c n a' b' c' n' : Nat} {f : Rat → Rat} {s s' : Rat} {l l' : Ln} (h : LnF a b c n f s l) (h' : LnF a' b' c' n' f s' l') : l = l' := by
  obtain ⟨p, r, e, p0, u, sl⟩ := h.g.list
  obtain ⟨p', r', e', p0', u', sl'⟩ := h'.g.list
  have nm := h.nm
  have nm' := h'.nm
  have y := h.y
  have y' := h'.y
  rw [e] at nm y
  rw [e'] at nm' y'
  obtain ⟨a1, a2, a3⟩ := nml_one u (Nml.of nm) u' (Nml.of nm') (by rw [p0, p0']) fun x hx => by
    have a := y x (by grind)
    have b := y' x (by grind)
    rw [yOf_val u hx] at a
    rw [yOf_val u' (by grind)] at b
    rw [a, b]
  rw [e, e', a1, a2, a3]
end Pm

namespace Pm
open PySem PySem.Spec PyProof.Rows L2
/-! ### where two lines cross, the greater of two -/
/-- where it crosses between a and b -/
def crPt (g : Rat → Rat) (a b : Rat) : Rat := a + g a / (g a - g b) * (b - a)
/-- behind the rising row a, r: g goes on by d -/
def crs (g : Rat → Rat) (d : Rat) : Rat → List Rat → List Rat
  | a, [] => if g a * d < 0 then [a - g a / d] else []
  | a, b :: r => (if g a * g b < 0 then [crPt g a b] else []) ++ crs g d b r
theorem neg_mul_lt {a b : Rat} (h : a * b < 0) : (0 < a ∧ b < 0) ∨ (a < 0 ∧ 0 < b) := by
  rcases (Rat.le_total : 0 ≤ a ∨ a ≤ 0) with c | c <;> rcases (Rat.le_total : 0 ≤ b ∨ b ≤ 0) with d | d
  · have := Rat.mul_nonneg c d
    grind
  · left
    constructor
    · by_cases e : a = 0
      · subst e; grind
      · grind
    · by_cases e : b = 0
      · subst e; grind
      · grind
  · right
    constructor
    · by_cases e : a = 0
      · subst e; grind
      · grind
    · by_cases e : b = 0
      · subst e; grind
      · grind
  · have := Rat.mul_nonneg (show (0 : Rat) ≤ -a by grind) (show (0 : Rat) ≤ -b by grind)
    grind
theorem div_mul_self {a b : Rat} (h : b ≠ 0) : a / b * b = a := Rat.div_mul_cancel h
/-- the zero of a straight piece lies where its sign turns -/
theorem zero_in {a s u v z gu gv : Rat} (hu : gu = a + s * u) (hv : gv = a + s * v) (hz : a + s * z = 0) (h : gu * gv < 0) (huv : u < v) : u < z ∧ z < v := by
  rcases neg_mul_lt h with ⟨h1, h2⟩ | ⟨h1, h2⟩
  · have s0 : s < 0 := by
      rcases (Rat.le_total : 0 ≤ s ∨ s ≤ 0) with c | c
      · have := Rat.mul_nonneg c (show (0 : Rat) ≤ v - u by grind)
        grind
      · by_cases e : s = 0
        · subst e; grind
        · grind
    constructor
    · rcases (Rat.le_total : z ≤ u ∨ u ≤ z) with c | c
      · have := Rat.mul_nonneg (show (0 : Rat) ≤ -s by grind) (show (0 : Rat) ≤ u - z by grind)
        grind
      · by_cases e : z = u
        · subst e; grind
        · grind
    · rcases (Rat.le_total : z ≤ v ∨ v ≤ z) with c | c
      · by_cases e : z = v
        · subst e; grind
        · grind
      · have := Rat.mul_nonneg (show (0 : Rat) ≤ -s by grind) (show (0 : Rat) ≤ z - v by grind)
        grind
  · have s0 : 0 < s := by
      rcases (Rat.le_total : 0 ≤ s ∨ s ≤ 0) with c | c
      · by_cases e : s = 0
        · subst e; grind
        · grind
      · have := Rat.mul_nonneg (show (0 : Rat) ≤ -s by grind) (show (0 : Rat) ≤ v - u by grind)
        grind
    constructor
    · rcases (Rat.le_total : z ≤ u ∨ u ≤ z) with c | c
      · have := Rat.mul_nonneg (show (0 : Rat) ≤ s by grind) (show (0 : Rat) ≤ u - z by grind)
        grind
      · by_cases e : z = u
        · subst e; grind
        · grind
    · rcases (Rat.le_total : z ≤ v ∨ v ≤ z) with c | c
      · by_cases e : z = v
        · subst e; grind
        · grind
      · have := Rat.mul_nonneg (show (0 : Rat) ≤ s by grind) (show (0 : Rat) ≤ z - v by grind)
        grind
/-- straight between the points of a row, and behind them by d -/
def Str8 (g : Rat → Rat) (d : Rat) : Rat → List Rat → Prop
  | a, [] => ∀ w, a ≤ w → g w = g a + d * (w - a)
  | a, b :: r => a < b ∧ (∃ s, ∀ w, a ≤ w → w ≤ b → g w = g a + s * (w - a)) ∧ Str8 g d b r
theorem crPt_eq {g : Rat → Rat} {a b s : Rat} (hab : a < b) (h : g b = g a + s * (b - a)) (hn : g a * g b < 0) : crPt g a b = a - g a / s ∧ s ≠ 0 := by
  have s0 : s ≠ 0 := by
    rintro rfl
    have e : g b = g a := by grind
    rw [e] at hn
    rcases neg_mul_lt hn with ⟨_, _⟩ | ⟨_, _⟩ <;> grind
  refine ⟨?_, s0⟩
  have d0 : b - a ≠ 0 := by grind
  unfold crPt
  have e1 : g a - g b = (-s) * (b - a) := by grind
  have e2 : (-s) * (b - a) ≠ 0 := fun z => by
    rcases Rat.mul_eq_zero.mp z with y | y <;> grind
  have e3 : g a / (g a - g b) * (b - a) = -(g a / s) := by
    rw [e1]
    have a1 := div_mul_self (a := g a) e2
    have a2 := div_mul_self (a := g a) s0
    generalize g a / (-s * (b - a)) = p at *
    generalize g a / s = q at *
    have : s * (p * (b - a) + q) = 0 := by grind
    rcases Rat.mul_eq_zero.mp this with y | y
    · exact absurd y s0
    · grind
  rw [e3]
  grind
theorem crs_all {g : Rat → Rat} {d u v : Rat} : ∀ {a : Rat} {r : List Rat}, Str8 g d a r → a ≤ u → u < v → (∀ q ∈ r, ¬ (u < q ∧ q < v)) → g u * g v < 0 → ∃ z ∈ crs g d a r, u < z ∧ z < v
  | a, [], h, hu, huv, _, hn => by
    have e1 := h u hu
    have e2 := h v (by grind)
    have d0 : d ≠ 0 := by
      rintro rfl
      have e : g v = g u := by grind
      rw [e] at hn
      rcases neg_mul_lt hn with ⟨_, _⟩ | ⟨_, _⟩ <;> grind
    have z := zero_in (a := g a - d * a) (s := d) (u := u) (v := v) (z := a - g a / d) (by grind) (by grind) (by
      have := div_mul_self (a := g a) d0
      generalize g a / d = q at *
      grind) hn huv
    refine ⟨_, ?_, z⟩
    unfold crs
    rw [if_pos]
    · exact List.mem_singleton.mpr rfl
    · have z1 := z.1
      rcases neg_mul_lt hn with ⟨h1, h2⟩ | ⟨h1, h2⟩
      · have d1 : d < 0 := by
          rcases (Rat.le_total : 0 ≤ d ∨ d ≤ 0) with c | c
          · have := Rat.mul_nonneg c (show (0 : Rat) ≤ v - u by grind)
            grind
          · grind
        have g1 : 0 < g a := by
          have := Rat.mul_nonneg (show (0 : Rat) ≤ -d by grind) (show (0 : Rat) ≤ u - a by grind)
          grind
        have := Rat.mul_pos g1 (show 0 < -d by grind)
        grind
      · have d1 : 0 < d := by
          rcases (Rat.le_total : 0 ≤ d ∨ d ≤ 0) with c | c
          · grind
          · have := Rat.mul_nonneg (show (0 : Rat) ≤ -d by grind) (show (0 : Rat) ≤ v - u by grind)
            grind
        have g1 : g a < 0 := by
          have := Rat.mul_nonneg (show (0 : Rat) ≤ d by grind) (show (0 : Rat) ≤ u - a by grind)
          grind
        have := Rat.mul_pos (show 0 < -g a by grind) d1
        grind
  | a, b :: r, h, hu, huv, hq, hn => by
    obtain ⟨hab, ⟨s, hs⟩, hr⟩ := h
    by_cases c : b ≤ u
    · obtain ⟨z, hz, h1⟩ := crs_all hr c huv (fun q hq' => hq q (List.mem_cons_of_mem _ hq')) hn
      exact ⟨z, List.mem_append_right _ hz, h1⟩
    · have vb : v ≤ b := by
        have := hq b (List.mem_cons_self ..)
        grind
      have e1 := hs u hu (by grind)
      have e2 := hs v (by grind) vb
      have e3 := hs b (by grind) Rat.le_refl
      have s0 : s ≠ 0 := by
        rintro rfl
        have e : g v = g u := by grind
        rw [e] at hn
        rcases neg_mul_lt hn with ⟨_, _⟩ | ⟨_, _⟩ <;> grind
      have z := zero_in (a := g a - s * a) (s := s) (u := u) (v := v) (z := a - g a / s) (by grind) (by grind) (by
        have := div_mul_self (a := g a) s0
        generalize g a / s = q at *
        grind) hn huv
      have hab2 : g a * g b < 0 := by
        rcases neg_mul_lt hn with ⟨h1, h2⟩ | ⟨h1, h2⟩
        · have d1 : s < 0 := by
            rcases (Rat.le_total : 0 ≤ s ∨ s ≤ 0) with c | c
            · have := Rat.mul_nonneg c (show (0 : Rat) ≤ v - u by grind)
              grind
            · grind
          have g1 : 0 < g a := by
            have := Rat.mul_nonneg (show (0 : Rat) ≤ -s by grind) (show (0 : Rat) ≤ u - a by grind)
            grind
          have g2 : g b < 0 := by
            have := Rat.mul_nonneg (show (0 : Rat) ≤ -s by grind) (show (0 : Rat) ≤ b - v by grind)
            grind
          have := Rat.mul_pos g1 (show 0 < -g b by grind)
          grind
        · have d1 : 0 < s := by
            rcases (Rat.le_total : 0 ≤ s ∨ s ≤ 0) with c | c
            · grind
            · have := Rat.mul_nonneg (show (0 : Rat) ≤ -s by grind) (show (0 : Rat) ≤ v - u by grind)
              grind
          have g1 : g a < 0 := by
            have := Rat.mul_nonneg (show (0 : Rat) ≤ s by grind) (show (0 : Rat) ≤ u - a by grind)
            grind
          have g2 : 0 < g b := by
            have := Rat.mul_nonneg (show (0 : Rat) ≤ s by grind) (show (0 : Rat) ≤ b - v by grind)
            grind
          have := Rat.mul_pos (show 0 < -g a by grind) g2
          grind
      refine ⟨crPt g a b, List.mem_append_left _ ?_, ?_⟩
      · rw [if_pos hab2]
        exact List.mem_singleton.mpr rfl
      · rw [(crPt_eq hab e3 hab2).1]
        exact z
theorem neg_div {a d : Rat} (h : a * d < 0) : a / d < 0 := by
  have d0 : d ≠ 0 := by rintro rfl; grind
  have e := div_mul_self (a := a) d0
  generalize a / d = q at *
  rcases neg_mul_lt h with ⟨h1, h2⟩ | ⟨h1, h2⟩
  · rcases (Rat.le_total : 0 ≤ q ∨ q ≤ 0) with c | c
    · have := Rat.mul_nonneg c (show (0 : Rat) ≤ -d by grind)
      grind
    · by_cases z : q = 0
      · subst z; grind
      · grind
  · rcases (Rat.le_total : 0 ≤ q ∨ q ≤ 0) with c | c
    · have := Rat.mul_nonneg c (show (0 : Rat) ≤ d by grind)
      grind
    · by_cases z : q = 0
      · subst z; grind
      · grind
/-- its slopes and points are of so many bits -/
def StrB (n : Nat) (g : Rat → Rat) (d : Rat) : Rat → List Rat → Prop
  | _, [] => Bd n d
  | a, b :: r => (∃ s, Bd n s ∧ ∀ w, a ≤ w → w ≤ b → g w = g a + s * (w - a)) ∧ StrB n g d b r
theorem crs_mem {g : Rat → Rat} {d : Rat} {n m k : Nat} {z : Rat} : ∀ {a : Rat} {r : List Rat}, Str8 g d a r → StrB n g d a r → (∀ q ∈ a :: r, Bd m q ∧ Bd k (g q)) → z ∈ crs g d a r → a < z ∧ Bd (m + k + n + 1) z
  | a, [], _, sb, hb, hz => by
    unfold crs at hz
    split at hz
    · rename_i c
      obtain rfl := List.mem_singleton.mp hz
      obtain ⟨b1, b2⟩ := hb a (List.mem_cons_self ..)
      have d0 : d ≠ 0 := by rintro rfl; grind
      have := neg_div c
      exact ⟨by grind, (bd_sub b1 (bd_div b2 sb d0)).mono (by omega)⟩
    · cases hz
  | a, b :: r, h, sb, hb, hz => by
    obtain ⟨hab, _, hr⟩ := h
    obtain ⟨⟨s, bs, hs⟩, sr⟩ := sb
    unfold crs at hz
    rcases List.mem_append.mp hz with hz | hz
    · split at hz
      · rename_i c
        obtain rfl := List.mem_singleton.mp hz
        obtain ⟨b1, b2⟩ := hb a (List.mem_cons_self ..)
        obtain ⟨e, s0⟩ := crPt_eq hab (hs b (by grind) Rat.le_refl) c
        rw [e]
        have z := zero_in (a := g a - s * a) (s := s) (u := a) (v := b) (z := a - g a / s) (by grind) (by have := hs b (by grind) Rat.le_refl; grind) (by
          have := div_mul_self (a := g a) s0
          generalize g a / s = q at *
          grind) c hab
        exact ⟨z.1, (bd_sub b1 (bd_div b2 bs s0)).mono (by omega)⟩
      · cases hz
    · have := crs_mem hr sr (fun q hq => hb q (List.mem_cons_of_mem _ hq)) hz
      exact ⟨by grind, this.2⟩
theorem crs_len (g : Rat → Rat) (d : Rat) : ∀ (a : Rat) (r : List Rat), (crs g d a r).length ≤ r.length + 1
  | a, [] => by
    unfold crs
    split <;> simp
  | a, b :: r => by
    unfold crs
    have := crs_len g d b r
    rw [List.length_append]
    split <;> simp <;> omega
/-- the gap of two lines -/
def gapOf (l1 l2 : Ln) (x : Rat) : Rat := yOf l1 x - yOf l2 x
theorem gap_str {l1 l2 : Ln} {a b c : Nat} (g1 : LnG a b c l1) (g2 : LnG a b c l2) : ∀ {p : Rat} {r : List Rat}, 0 ≤ p → Ris p r → (∀ k ∈ l1.ks, k.1 ≤ p ∨ k.1 ∈ r) → (∀ k ∈ l2.ks, k.1 ≤ p ∨ k.1 ∈ r) → Str8 (gapOf l1 l2) (l1.sl - l2.sl) p r ∧ StrB (c + c + 1) (gapOf l1 l2) (l1.sl - l2.sl) p r
  | p, [], h0, _, k1, k2 => by
    obtain ⟨s1, b1, e1, f1⟩ := g1.step h0
    obtain ⟨s2, b2, e2, f2⟩ := g2.step h0
    have e1 := e1 fun k hk => (by rcases k1 k hk with h | h; { grind }; { cases h })
    have e2 := e2 fun k hk => (by rcases k2 k hk with h | h; { grind }; { cases h })
    subst e1 e2
    refine ⟨fun w hw => ?_, bd_sub b1 b2⟩
    unfold gapOf
    rw [f1 w hw fun k hk => (by rcases k1 k hk with h | h; { grind }; { cases h }), f2 w hw fun k hk => (by rcases k2 k hk with h | h; { grind }; { cases h })]
    grind
  | p, q :: r, h0, hr, k1, k2 => by
    obtain ⟨s1, b1, _, f1⟩ := g1.step h0
    obtain ⟨s2, b2, _, f2⟩ := g2.step h0
    have pq := hr.1
    have st : ∀ w, p ≤ w → w ≤ q → gapOf l1 l2 w = gapOf l1 l2 p + (s1 - s2) * (w - p) := fun w hw hw2 => by
      have no : ∀ x, x ≤ p ∨ x ∈ q :: r → ¬ (p < x ∧ x < w) := fun x hx => by
        rcases hx with h | h
        · grind
        · rcases List.mem_cons.mp h with rfl | h
          · grind
          · have := hr.2.lt h
            grind
      unfold gapOf
      rw [f1 w hw fun k hk => no _ (k1 k hk), f2 w hw fun k hk => no _ (k2 k hk)]
      grind
    have up : ∀ x, x ≤ p ∨ x ∈ q :: r → x ≤ q ∨ x ∈ r := fun x hx => by
      rcases hx with h | h
      · left; grind
      · rcases List.mem_cons.mp h with rfl | h
        · left; exact Rat.le_refl
        · exact .inr h
    obtain ⟨i1, i2⟩ := gap_str g1 g2 (p := q) (by grind) hr.2 (fun k hk => up _ (k1 k hk)) fun k hk => up _ (k2 k hk)
    exact ⟨⟨pq, ⟨_, st⟩, i1⟩, ⟨_, bd_sub b1 b2, st⟩, i2⟩
def mx (x y : Rat) : Rat := if x < y then y else x
/-- the greater of two lines through all knots and all crossings -/
theorem most_itp {l1 l2 : Ln} {a b c : Nat} (g1 : LnG a b c l1) (g2 : LnG a b c l2) {r : List Rat} (hr : Ris 0 r) (k1 : ∀ k ∈ l1.ks, k.1 ∈ 0 :: r) (k2 : ∀ k ∈ l2.ks, k.1 ∈ 0 :: r) (nn : ∀ q ∈ 0 :: r, 0 ≤ q)
    (C : ∀ u v, 0 ≤ u → u < v → (∀ q ∈ 0 :: r, ¬ (u < q ∧ q < v)) → ¬ gapOf l1 l2 u * gapOf l1 l2 v < 0) :
    Itp (Bd c) (fun x => mx (yOf l1 x) (yOf l2 x)) (0, mx (yOf l1 0) (yOf l2 0)) (r.map fun x => (x, mx (yOf l1 x) (yOf l2 x))) (mx l1.sl l2.sl) := by
  refine itp_of (f := fun x => mx (yOf l1 x) (yOf l2 x)) hr fun u hu => ?_
  obtain ⟨p1, b1, e1, s1⟩ := g1.step (nn u hu)
  obtain ⟨p2, b2, e2, s2⟩ := g2.step (nn u hu)
  have sg : ∀ v, u ≤ v → (∀ q ∈ 0 :: r, ¬ (u < q ∧ q < v)) → yOf l1 v = yOf l1 u + p1 * (v - u) ∧ yOf l2 v = yOf l2 u + p2 * (v - u) := fun v hv z => ⟨s1 v hv fun k hk => z _ (k1 k hk), s2 v hv fun k hk => z _ (k2 k hk)⟩
  have C' : ∀ v, u < v → (∀ q ∈ 0 :: r, ¬ (u < q ∧ q < v)) → ¬ (yOf l1 u - yOf l2 u) * (yOf l1 v - yOf l2 v) < 0 := fun v hv z => C u v (nn u hu) hv z
  generalize yOf l1 u = A at *
  generalize yOf l2 u = B at *
  -- the one that is taken
  have last : (∀ q ∈ 0 :: r, ¬ u < q) → ∀ v, u < v → ¬ (A - B) * ((A - B) + (p1 - p2) * (v - u)) < 0 := fun z v hv => by
    have a1 := sg v (by grind) fun q hq => by have := z q hq; grind
    have a2 := C' v hv fun q hq => by have := z q hq; grind
    rw [a1.1, a1.2] at a2
    have e : A + p1 * (v - u) - (B + p2 * (v - u)) = (A - B) + (p1 - p2) * (v - u) := by grind
    rwa [e] at a2
  rcases (Rat.le_total : A ≤ B ∨ B ≤ A) with c | c
  · by_cases d : A = B
    · subst d
      refine ⟨mx p1 p2, by unfold mx; split <;> assumption, fun z => ?_, fun v hv z => ?_⟩
      · rw [e1 fun k hk => z _ (k1 k hk), e2 fun k hk => z _ (k2 k hk)]
      · obtain ⟨a1, a2⟩ := sg v hv z
        show mx (yOf l1 v) (yOf l2 v) = mx A A + _
        rw [a1, a2]
        unfold mx
        by_cases e : p1 < p2
        · rw [if_pos e]
          by_cases f : u = v
          · subst f; split <;> split <;> grind
          · have := Rat.mul_pos (show 0 < p2 - p1 by grind) (show 0 < v - u by grind)
            rw [if_pos (by grind)]
            split <;> grind
        · rw [if_neg e]
          have := Rat.mul_nonneg (show 0 ≤ p1 - p2 by grind) (show 0 ≤ v - u by grind)
          rw [if_neg (by grind)]
          split <;> grind
    · have AB : A < B := by grind
      refine ⟨p2, b2, fun z => ?_, fun v hv z => ?_⟩
      · rw [e2 fun k hk => z _ (k2 k hk), ← e1 fun k hk => z _ (k1 k hk), ← e2 fun k hk => z _ (k2 k hk)]
        unfold mx
        by_cases e : p1 < p2
        · rw [if_pos e]
        · rw [if_neg e]
          by_cases f : p1 = p2
          · rw [f]
          · exfalso
            have h0 : 0 < p1 - p2 := by grind
            have h1 := last z (u + 2 * ((B - A) / (p1 - p2))) (by
              have := Rat.div_mul_cancel (a := B - A) (show p1 - p2 ≠ 0 by grind)
              have q0 : 0 < (B - A) / (p1 - p2) := by
                generalize (B - A) / (p1 - p2) = q at *
                rcases (Rat.le_total : 0 ≤ q ∨ q ≤ 0) with y | y
                · by_cases w : q = 0
                  · subst w; grind
                  · grind
                · have := Rat.mul_nonneg (show (0 : Rat) ≤ -q by grind) (show (0 : Rat) ≤ p1 - p2 by grind)
                  grind
              grind)
            have e3 := Rat.div_mul_cancel (a := B - A) (show p1 - p2 ≠ 0 by grind)
            generalize (B - A) / (p1 - p2) = q at *
            have e4 : A - B + (p1 - p2) * (u + 2 * q - u) = B - A := by grind
            rw [e4] at h1
            have := Rat.mul_pos (show 0 < B - A by grind) (show 0 < B - A by grind)
            grind
      · obtain ⟨a1, a2⟩ := sg v hv z
        show mx (yOf l1 v) (yOf l2 v) = mx A B + _
        have le : yOf l1 v ≤ yOf l2 v := by
          by_cases f : u = v
          · subst f; grind
          · have := C' v (by grind) z
            rcases (Rat.le_total : yOf l1 v ≤ yOf l2 v ∨ yOf l2 v ≤ yOf l1 v) with y | y
            · exact y
            · by_cases w : yOf l1 v = yOf l2 v
              · grind
              · have := Rat.mul_pos (show 0 < B - A by grind) (show 0 < yOf l1 v - yOf l2 v by grind)
                grind
        unfold mx
        rw [if_pos AB, ← a2]
        split <;> grind
  · by_cases d : A = B
    · subst d
      refine ⟨mx p1 p2, by unfold mx; split <;> assumption, fun z => ?_, fun v hv z => ?_⟩
      · rw [e1 fun k hk => z _ (k1 k hk), e2 fun k hk => z _ (k2 k hk)]
      · obtain ⟨a1, a2⟩ := sg v hv z
        show mx (yOf l1 v) (yOf l2 v) = mx A A + _
        rw [a1, a2]
        unfold mx
        by_cases e : p1 < p2
        · rw [if_pos e]
          by_cases f : u = v
          · subst f; split <;> split <;> grind
          · have := Rat.mul_pos (show 0 < p2 - p1 by grind) (show 0 < v - u by grind)
            rw [if_pos (by grind)]
            split <;> grind
        · rw [if_neg e]
          have := Rat.mul_nonneg (show 0 ≤ p1 - p2 by grind) (show 0 ≤ v - u by grind)
          rw [if_neg (by grind)]
          split <;> grind
    · have AB : B < A := by grind
      refine ⟨p1, b1, fun z => ?_, fun v hv z => ?_⟩
      · rw [e1 fun k hk => z _ (k1 k hk), ← e1 fun k hk => z _ (k1 k hk), ← e2 fun k hk => z _ (k2 k hk)]
        unfold mx
        by_cases e : p1 < p2
        · exfalso
          have h1 := last z (u + 2 * ((A - B) / (p2 - p1))) (by
            have := Rat.div_mul_cancel (a := A - B) (show p2 - p1 ≠ 0 by grind)
            have q0 : 0 < (A - B) / (p2 - p1) := by
              generalize (A - B) / (p2 - p1) = q at *
              rcases (Rat.le_total : 0 ≤ q ∨ q ≤ 0) with y | y
              · by_cases w : q = 0
                · subst w; grind
                · grind
              · have := Rat.mul_nonneg (show (0 : Rat) ≤ -q by grind) (show (0 : Rat) ≤ p2 - p1 by grind)
                grind
            grind)
          have e3 := Rat.div_mul_cancel (a := A - B) (show p2 - p1 ≠ 0 by grind)
          generalize (A - B) / (p2 - p1) = q at *
          have e4 : A - B + (p1 - p2) * (u + 2 * q - u) = B - A := by grind
          rw [e4] at h1
          have := Rat.mul_pos (show 0 < A - B by grind) (show 0 < A - B by grind)
          grind
        · rw [if_neg e]
      · obtain ⟨a1, a2⟩ := sg v hv z
        show mx (yOf l1 v) (yOf l2 v) = mx A B + _
        have le : yOf l2 v ≤ yOf l1 v := by
          by_cases f : u = v
          · subst f; grind
          · have := C' v (by grind) z
            rcases (Rat.le_total : yOf l1 v ≤ yOf l2 v ∨ yOf l2 v ≤ yOf l1 v) with y | y
            · by_cases w : yOf l1 v = yOf l2 v
              · grind
              · have := Rat.mul_pos (show 0 < A - B by grind) (show 0 < yOf l2 v - yOf l1 v by grind)
                grind
            · exact y
        unfold mx
        rw [if_neg (show ¬ A < B by grind), ← a1]
        split <;> grind
end Pm

namespace Pm
open PySem PySem.Spec PyProof.Rows L2
/-! ### a line put into a line -/
/-- the slope to the left of x -/
def slf (p : Kn) : List Kn → Rat → Rat → Rat
  | [], s, _ => s
  | k :: r, s, x => if x ≤ k.1 then rise p k else slf k r s x
theorem SlP.slf {P : Rat → Prop} {s x : Rat} : ∀ {p : Kn} {r : List Kn}, SlP P p r s → P (slf p r s x)
  | p, [], h => h
  | p, k :: r, h => by
    unfold Pm.slf
    split
    · exact h.1
    · exact SlP.slf h.2
theorem val_left {s u v : Rat} : ∀ {p : Kn} {r : List Kn}, Up p r → p.1 ≤ v → v ≤ u → (∀ k ∈ r, ¬ (v < k.1 ∧ k.1 < u)) → val p r s v = val p r s u + slf p r s u * (v - u)
  | p, [], _, _, _, _ => by
    unfold val slf
    grind
  | p, k0 :: r, h, hp, hvu, hn => by
    have c0 := hn k0 (List.mem_cons_self ..)
    by_cases c : u ≤ k0.1
    · have tu : Till (k0 :: r) u := c
      have tv : Till (k0 :: r) v := by show v ≤ k0.1; grind
      rw [val_fs h tu, val_fs h tv]
      unfold slf fs
      rw [if_pos c]
      grind
    · have hv : k0.1 ≤ v := by grind
      rw [val_tail hv, val_tail (show k0.1 ≤ u by grind)]
      unfold slf
      rw [if_neg c]
      exact val_left h.2 hv hvu fun k hk => hn k (List.mem_cons_of_mem _ hk)
theorem LnG.left {a b c : Nat} {l : Ln} (h : LnG a b c l) {u : Rat} (u0 : 0 ≤ u) : ∃ g, Bd c g ∧ ∀ v, 0 ≤ v → v ≤ u → (∀ k ∈ l.ks, ¬ (v < k.1 ∧ k.1 < u)) → yOf l v = yOf l u + g * (v - u) := by
  obtain ⟨p, r, e, z, up, sl⟩ := h.list
  refine ⟨slf p r l.sl u, sl.slf, fun v v0 hv g => ?_⟩
  rw [e, yOf_val up (by grind), yOf_val up (by grind)]
  exact val_left up (by grind) hv fun k hk => g k (by rw [e]; exact List.mem_cons_of_mem _ hk)
/-- nowhere below nought -/
def PosL (l : Ln) : Prop := 0 ≤ l.sl ∧ ∀ k ∈ l.ks, 0 ≤ k.2
theorem val_pos {s x : Rat} : ∀ {p : Kn} {r : List Kn}, Up p r → 0 ≤ s → (∀ k ∈ p :: r, 0 ≤ k.2) → p.1 ≤ x → 0 ≤ val p r s x
  | p, [], _, hs, hk, hx => by
    have a := hk p (List.mem_cons_self ..)
    have := Rat.mul_nonneg hs (show 0 ≤ x - p.1 by grind)
    show 0 ≤ p.2 + s * (x - p.1)
    grind
  | p, k :: r, h, hs, hk, hx => by
    have a := hk p (List.mem_cons_self ..)
    have b := hk k (List.mem_cons_of_mem _ (List.mem_cons_self ..))
    unfold val
    split
    · rename_i c
      have e := rise_mul h.1
      have l := h.1
      rcases (Rat.le_total : 0 ≤ rise p k ∨ rise p k ≤ 0) with d | d
      · have := Rat.mul_nonneg d (show 0 ≤ x - p.1 by grind)
        grind
      · have := Rat.mul_nonneg (show 0 ≤ -rise p k by grind) (show 0 ≤ k.1 - x by grind)
        generalize rise p k = g at *
        grind
    · exact val_pos h.2 hs (fun z hz => hk z (List.mem_cons_of_mem _ hz)) (by grind)
theorem PosL.y {a b c : Nat} {l : Ln} (g : LnG a b c l) (h : PosL l) {x : Rat} (x0 : 0 ≤ x) : 0 ≤ yOf l x := by
  obtain ⟨p, r, e, z, up, sl⟩ := g.list
  have h1 := h.2
  rw [e] at h1 ⊢
  rw [yOf_val up (by grind)]
  exact val_pos up h.1 h1 (by grind)
/-- between knots the inner one comes to a knot of the outer one at told places alone -/
def Comes (lo li : Ln) (ms : List Rat) : Prop := ∀ u v, 0 ≤ u → u < v → (∀ k ∈ li.ks, ¬ (u < k.1 ∧ k.1 < v)) → ∀ k ∈ lo.ks, (yOf li u < k.1 ∧ k.1 < yOf li v) ∨ (yOf li v < k.1 ∧ k.1 < yOf li u) → ∃ z ∈ ms, u < z ∧ z < v
theorem put_itp {lo li : Ln} {a b c a' b' c' : Nat} (go : LnG a b c lo) (gi : LnG a' b' c' li) (ps : PosL li) {r : List Rat} (hr : Ris 0 r) (k1 : ∀ k ∈ li.ks, k.1 ∈ 0 :: r) (nn : ∀ q ∈ 0 :: r, 0 ≤ q) {ms : List Rat} (cm : Comes lo li ms) (hms : ∀ m ∈ ms, m ∈ 0 :: r) :
    Itp (Bd (c + c')) (fun x => yOf lo (yOf li x)) (0, yOf lo (yOf li 0)) (r.map fun x => (x, yOf lo (yOf li x))) (lo.sl * li.sl) := by
  refine itp_of (f := fun x => yOf lo (yOf li x)) hr fun u hu => ?_
  have u0 := nn u hu
  have y0 := ps.y gi u0
  obtain ⟨g, bg, eg, sg⟩ := gi.step u0
  have no : ∀ v, u ≤ v → (∀ q ∈ 0 :: r, ¬ (u < q ∧ q < v)) → yOf li v = yOf li u + g * (v - u) ∧ 0 ≤ yOf li v ∧ ∀ k ∈ lo.ks, ¬ ((yOf li u < k.1 ∧ k.1 < yOf li v) ∨ (yOf li v < k.1 ∧ k.1 < yOf li u)) := fun v hv z => by
    refine ⟨sg v hv fun k hk => z _ (k1 k hk), ps.y gi (by grind), fun k hk c => ?_⟩
    have uv : u < v := by
      by_cases e : u = v
      · subst e; grind
      · grind
    obtain ⟨w, hw, h1⟩ := cm u v u0 uv (fun k hk => z _ (k1 k hk)) k hk c
    exact z w (hms w hw) h1
  by_cases g0 : 0 ≤ g
  · obtain ⟨p, bp, ep, sp⟩ := go.step y0
    refine ⟨p * g, bd_mul bp bg, fun z => ?_, fun v hv z => ?_⟩
    · have e := eg fun k hk => z _ (k1 k hk)
      rw [← e]
      by_cases gz : g = 0
      · rw [gz]; grind
      · rw [ep fun k hk c => ?_]
        have gp : 0 < g := by grind
        have d0 := Rat.div_mul_cancel (a := k.1 - yOf li u) (show g ≠ 0 from gz)
        have q0 : 0 < (k.1 - yOf li u) / g := by
          generalize (k.1 - yOf li u) / g = q at *
          rcases (Rat.le_total : 0 ≤ q ∨ q ≤ 0) with y | y
          · by_cases w : q = 0
            · subst w; grind
            · grind
          · have := Rat.mul_nonneg (show (0 : Rat) ≤ -q by grind) g0
            grind
        have nv := no (u + 2 * ((k.1 - yOf li u) / g)) (by grind) fun q hq => by have := z q hq; grind
        refine nv.2.2 k hk (.inl ⟨c, ?_⟩)
        rw [nv.1]
        generalize (k.1 - yOf li u) / g = q at *
        grind
    · obtain ⟨n1, n2, n3⟩ := no v hv z
      have le : yOf li u ≤ yOf li v := by
        have := Rat.mul_nonneg g0 (show 0 ≤ v - u by grind)
        grind
      show yOf lo (yOf li v) = yOf lo (yOf li u) + _
      rw [sp _ le fun k hk c => n3 k hk (.inl c), n1]
      grind
  · obtain ⟨p, bp, sp⟩ := go.left y0
    refine ⟨p * g, bd_mul bp bg, fun z => ?_, fun v hv z => ?_⟩
    · have e := eg fun k hk => z _ (k1 k hk)
      have := ps.1
      rw [← e] at this
      exact absurd this g0
    · obtain ⟨n1, n2, n3⟩ := no v hv z
      have le : yOf li v ≤ yOf li u := by
        have := Rat.mul_nonneg (show 0 ≤ -g by grind) (show 0 ≤ v - u by grind)
        grind
      show yOf lo (yOf li v) = yOf lo (yOf li u) + _
      rw [sp _ n2 le fun k hk c => n3 k hk (.inr c), n1]
      grind
/-- where it comes to t, from a knot on -/
def hitPt (k : Kn) (s t : Rat) : Rat := k.1 + (t - k.2) / s
/-- the places of one piece: behind the knot at i -/
def hitIn (li : Ln) (i : Nat) (z : Rat) : Bool := decide ((kAt li.ks i).1 < z) && (decide (li.ks.length ≤ i + 1) || decide (z < (kAt li.ks (i + 1)).1))
def hits (lo li : Ln) (i : Nat) : List Rat := if slAt li i = 0 then [] else ((lo.ks.map fun k => hitPt (kAt li.ks i) (slAt li i) k.1).filter fun z => hitIn li i z)
theorem val_at_place {s x : Rat} : ∀ {p : Kn} {r : List Kn} {i : Nat}, Up p r → i < (p :: r).length → (kAt (p :: r) i).1 ≤ x → (i + 1 < (p :: r).length → x ≤ (kAt (p :: r) (i + 1)).1) → val p r s x = (kAt (p :: r) i).2 + slAt ⟨p :: r, s⟩ i * (x - (kAt (p :: r) i).1)
  | p, [], 0, _, _, _, _ => by
    rw [slAt_zero]
    rfl
  | p, [], i + 1, _, hi, _, _ => absurd hi (by simp)
  | p, k :: r, 0, u, _, h1, h2 => by
    rw [slAt_zero]
    exact val_fs u (h2 (by simp))
  | p, k :: r, i + 1, u, hi, h1, h2 => by
    rw [slAt_succ]
    have e1 : kAt (p :: k :: r) (i + 1) = kAt (k :: r) i := by simp [kAt]
    have e2 : kAt (p :: k :: r) (i + 1 + 1) = kAt (k :: r) (i + 1) := by simp [kAt]
    rw [e1] at h1 ⊢
    rw [e2] at h2
    have hk : k.1 ≤ x := by
      have := (LnG.of_mono u.2 (i := i) (by simpa using hi))
      grind
    rw [val_tail hk]
    exact val_at_place u.2 (by simpa using hi) h1 fun h => h2 (by simpa using h)
where
  LnG.of_mono : ∀ {p : Kn} {r : List Kn} {i : Nat}, Up p r → i < (p :: r).length → p.1 ≤ (kAt (p :: r) i).1
    | p, r, 0, _, _ => by simp [kAt]
    | p, [], i + 1, _, hi => absurd hi (by simp)
    | p, k :: r, i + 1, u, hi => by
      have a := LnG.of_mono u.2 (i := i) (by simpa using hi)
      have e1 : kAt (p :: k :: r) (i + 1) = kAt (k :: r) i := by simp [kAt]
      rw [e1]
      have := u.1
      grind
/-- the piece in which u lies -/
theorem place_of : ∀ {p : Kn} {r : List Kn} {u : Rat}, Up p r → p.1 ≤ u → ∃ i, i < (p :: r).length ∧ (kAt (p :: r) i).1 ≤ u ∧ (i + 1 < (p :: r).length → u < (kAt (p :: r) (i + 1)).1)
  | p, [], u, _, h => ⟨0, by simp, by simpa [kAt] using h, fun h => absurd h (by simp)⟩
  | p, k :: r, u, up, h => by
    by_cases c : k.1 ≤ u
    · obtain ⟨i, h1, h2, h3⟩ := place_of up.2 c
      refine ⟨i + 1, by simpa using h1, by simpa [kAt] using h2, fun h => ?_⟩
      have := h3 (by simpa using h)
      simpa [kAt] using this
    · exact ⟨0, by simp, by simpa [kAt] using h, fun _ => by simp [kAt]; grind⟩
theorem hits_all {lo li : Ln} {a b c : Nat} (gi : LnG a b c li) {u v : Rat} (u0 : 0 ≤ u) (huv : u < v) (hq : ∀ k ∈ li.ks, ¬ (u < k.1 ∧ k.1 < v)) {k : Kn} (hk : k ∈ lo.ks) (h : (yOf li u < k.1 ∧ k.1 < yOf li v) ∨ (yOf li v < k.1 ∧ k.1 < yOf li u)) : ∃ i, i < li.ks.length ∧ ∃ z ∈ hits lo li i, u < z ∧ z < v := by
  obtain ⟨p, r, e, z0, up, sl⟩ := gi.list
  obtain ⟨i, h1, h2, h3⟩ := place_of up (show p.1 ≤ u by grind)
  have e1 : li.ks = p :: r := by rw [e]
  rw [← e1] at h1 h2 h3
  have vb : i + 1 < li.ks.length → v ≤ (kAt li.ks (i + 1)).1 := fun hi => by
    have := hq _ (kAt_mem hi)
    have := h3 hi
    grind
  have yu : yOf li u = (kAt li.ks i).2 + slAt li i * (u - (kAt li.ks i).1) := by
    have := val_at_place (s := li.sl) up (i := i) (x := u) (by rw [← e1]; exact h1) (by rw [← e1]; exact h2) (by rw [← e1]; intro hi; have := h3 hi; grind)
    rw [← yOf_val up (by grind), ← e, ← e1] at this
    exact this
  have yv : yOf li v = (kAt li.ks i).2 + slAt li i * (v - (kAt li.ks i).1) := by
    have := val_at_place (s := li.sl) up (i := i) (x := v) (by rw [← e1]; exact h1) (by rw [← e1]; grind) (by rw [← e1]; exact vb)
    rw [← yOf_val up (by grind), ← e, ← e1] at this
    exact this
  have s0 : slAt li i ≠ 0 := fun z => by
    rw [z] at yu yv
    grind
  have d0 := Rat.div_mul_cancel (a := k.1 - (kAt li.ks i).2) s0
  have zz : u < hitPt (kAt li.ks i) (slAt li i) k.1 ∧ hitPt (kAt li.ks i) (slAt li i) k.1 < v := by
    have hn : (yOf li u - k.1) * (yOf li v - k.1) < 0 := by
      rcases h with ⟨c1, c2⟩ | ⟨c1, c2⟩
      · have := Rat.mul_pos (show 0 < k.1 - yOf li u by grind) (show 0 < yOf li v - k.1 by grind)
        grind
      · have := Rat.mul_pos (show 0 < yOf li u - k.1 by grind) (show 0 < k.1 - yOf li v by grind)
        grind
    refine zero_in (a := (kAt li.ks i).2 - slAt li i * (kAt li.ks i).1 - k.1) (s := slAt li i) (gu := yOf li u - k.1) (gv := yOf li v - k.1) (by rw [yu]; grind) (by rw [yv]; grind) ?_ hn huv
    unfold hitPt
    generalize (k.1 - (kAt li.ks i).2) / slAt li i = q at *
    grind
  refine ⟨i, h1, _, ?_, zz⟩
  unfold hits
  rw [if_neg s0]
  refine List.mem_filter.mpr ⟨List.mem_map.mpr ⟨k, hk, rfl⟩, ?_⟩
  unfold hitIn
  rw [Bool.and_eq_true, Bool.or_eq_true, decide_eq_true_iff, decide_eq_true_iff, decide_eq_true_iff]
  refine ⟨by grind, ?_⟩
  by_cases c : i + 1 < li.ks.length
  · right
    have := vb c
    grind
  · left
    omega
theorem hits_mem {lo li : Ln} {a b c a' b' c' : Nat} (go : LnG a b c lo) (gi : LnG a' b' c' li) {i : Nat} (hi : i < li.ks.length) {z : Rat} (hz : z ∈ hits lo li i) : 0 < z ∧ Bd (a' + (a + b' + 1 + c') + 1) z := by
  unfold hits at hz
  split at hz
  · cases hz
  · rename_i s0
    obtain ⟨h1, h2⟩ := List.mem_filter.mp hz
    obtain ⟨k, hk, rfl⟩ := List.mem_map.mp h1
    unfold hitIn at h2
    rw [Bool.and_eq_true, decide_eq_true_iff] at h2
    have n0 := gi.nn (kAt_mem hi)
    refine ⟨by have := h2.1; grind, ?_⟩
    have bk := gi.b _ (kAt_mem hi)
    exact (bd_add bk.1 (bd_div (bd_sub (go.b k hk).1 bk.2) (gi.s i hi) s0)).mono (by omega)
theorem hits_len (lo li : Ln) (i : Nat) : (hits lo li i).length ≤ lo.ks.length := by
  unfold hits
  split
  · simp
  · refine Nat.le_trans (List.length_filter_le ..) ?_
    simp
end Pm

namespace Pm
open PySem PySem.Spec PyProof.Rows L2
/-! ### where a line is first at least a goal -/
def fst (g a h : Rat) : List Kn → Rat → Option Rat
  | [], s => if 0 < s then some (a + (g - h) / s) else none
  | k :: r, s => if k.2 < g then fst g k.1 k.2 r s else some (a + (g - h) / rise (a, h) k)
def afterK (ks : List Kn) (o : Rat) : List Kn := ks.filter fun k => decide (o < k.1)
def fstAt (l : Ln) (g o : Rat) : Option Rat := if yOf l o < g then fst g o (yOf l o) (afterK l.ks o) l.sl else some o
theorem quo_mul {x s : Rat} (h : 0 < s) : x / s * s = x := Rat.div_mul_cancel (by grind)
theorem quo_pos {x s : Rat} (h : 0 < s) (hx : 0 < x) : 0 < x / s := by
  have e := quo_mul (x := x) h
  rcases (by grind : 0 < x / s ∨ x / s ≤ 0) with c | c
  · exact c
  · have : 0 ≤ (-(x / s)) * s := Rat.mul_nonneg (by grind) (by grind)
    grind
theorem quo_le {x s b : Rat} (h : 0 < s) (hx : x ≤ b * s) : x / s ≤ b := by
  have e := quo_mul (x := x) h
  rcases (by grind : x / s ≤ b ∨ b < x / s) with c | c
  · exact c
  · have : 0 < (x / s - b) * s := Rat.mul_pos (by grind) h
    grind
theorem fst_ok {g s : Rat} : ∀ {r : List Kn} {a h : Rat}, Up (a, h) r → h < g → match fst g a h r s with
    | none => (∀ k ∈ r, k.2 < g) ∧ s ≤ 0
    | some f => a ≤ f ∧ val (a, h) r s f = g ∧ ∀ k ∈ r, k.1 < f → k.2 < g
  | [], a, h, _, hg => by
    unfold fst
    by_cases c : 0 < s
    · rw [if_pos c]
      have p := quo_pos c (show 0 < g - h by grind)
      have e := quo_mul (x := g - h) c
      refine ⟨by grind, ?_, by simp⟩
      show h + s * (a + (g - h) / s - a) = g
      grind
    · rw [if_neg c]
      exact ⟨by simp, by grind⟩
  | k :: r, a, h, u, hg => by
    unfold fst
    have u1 : a < k.1 := u.1
    by_cases c : k.2 < g
    · rw [if_pos c]
      have ih := fst_ok (s := s) (show Up (k.1, k.2) r from u.2) c
      cases e : fst g k.1 k.2 r s with
      | none =>
        rw [e] at ih
        refine ⟨fun x hx => ?_, ih.2⟩
        rcases List.mem_cons.mp hx with rfl | hx
        · exact c
        · exact ih.1 x hx
      | some f =>
        rw [e] at ih
        obtain ⟨i1, i2, i3⟩ := ih
        refine ⟨by grind, by rw [val_tail i1]; exact i2, fun x hx hf => ?_⟩
        rcases List.mem_cons.mp hx with rfl | hx
        · exact c
        · exact i3 x hx hf
    · rw [if_neg c]
      have rm : rise (a, h) k * (k.1 - a) = k.2 - h := rise_mul (p := (a, h)) u1
      have rp : 0 < rise (a, h) k := by
        rcases (by grind : 0 < rise (a, h) k ∨ rise (a, h) k ≤ 0) with d | d
        · exact d
        · have : 0 ≤ (-(rise (a, h) k)) * (k.1 - a) := Rat.mul_nonneg (by grind) (by grind)
          grind
      have p := quo_pos rp (show 0 < g - h by grind)
      have e := quo_mul (x := g - h) rp
      have le : (g - h) / rise (a, h) k ≤ k.1 - a := quo_le rp (by grind)
      refine ⟨by grind, ?_, fun x hx hf => ?_⟩
      · by_cases d : a + (g - h) / rise (a, h) k < k.1
        · rw [val_fs u (show Till (k :: r) (a + (g - h) / rise (a, h) k) from by show a + (g - h) / rise (a, h) k ≤ k.1; grind)]
          show h + rise (a, h) k * (a + (g - h) / rise (a, h) k - a) = g
          grind
        · have e2 : a + (g - h) / rise (a, h) k = k.1 := by grind
          rw [e2, val_at u (List.mem_cons_of_mem _ (List.mem_cons_self ..))]
          have : (g - h) / rise (a, h) k = k.1 - a := by grind
          rw [this] at e
          grind
      · rcases List.mem_cons.mp hx with rfl | hx
        · grind
        · have := Up.lt u.2 hx
          grind
theorem after_all {r : List Kn} {o : Rat} (h : ∀ k ∈ r, o < k.1) : afterK r o = r := by
  unfold afterK
  exact List.filter_eq_self.mpr fun k hk => decide_eq_true (h k hk)
theorem after_cut {s o : Rat} : ∀ {p : Kn} {r : List Kn}, Up p r → p.1 ≤ o → Up (o, val p r s o) (afterK r o) ∧ ∀ x, o ≤ x → val (o, val p r s o) (afterK r o) s x = val p r s x
  | p, [], _, hp => ⟨trivial, fun x hx => by
    show p.2 + s * (o - p.1) + s * (x - o) = p.2 + s * (x - p.1)
    grind⟩
  | p, k :: r, u, hp => by
    by_cases c : o < k.1
    · have e : afterK (k :: r) o = k :: r := after_all fun x hx => by
        rcases List.mem_cons.mp hx with rfl | hx
        · exact c
        · have := Up.lt u.2 hx
          grind
      rw [e]
      have v0 : val p (k :: r) s o = p.2 + rise p k * (o - p.1) := if_pos c
      have rm := rise_mul (p := p) (k := k) u.1
      have rr : rise (o, val p (k :: r) s o) k = rise p k := rise_eq (p := (o, val p (k :: r) s o)) c (by
        show k.2 - val p (k :: r) s o = rise p k * (k.1 - o)
        rw [v0]
        grind)
      refine ⟨⟨c, u.2⟩, fun x hx => ?_⟩
      unfold val
      rw [rr]
      by_cases d : x < k.1
      · rw [if_pos d, if_pos d]
        show val p (k :: r) s o + rise p k * (x - o) = _
        rw [v0]
        grind
      · rw [if_neg d, if_neg d]
    · have e : afterK (k :: r) o = afterK r o := by
        unfold afterK
        rw [List.filter_cons_of_neg (by simpa using c)]
      have ko : k.1 ≤ o := by grind
      rw [e, val_tail ko]
      obtain ⟨i1, i2⟩ := after_cut (s := s) u.2 ko
      exact ⟨i1, fun x hx => by rw [i2 x hx, val_tail (show k.1 ≤ x by grind)]⟩
theorem mem_after {ks : List Kn} {o : Rat} {k : Kn} : k ∈ afterK ks o ↔ k ∈ ks ∧ o < k.1 := by
  unfold afterK
  rw [List.mem_filter]
  simp
theorem fstAt_ok {a b c : Nat} {l : Ln} (gl : LnG a b c l) {g o : Rat} (o0 : 0 ≤ o) : match fstAt l g o with
    | none => (yOf l o < g) ∧ (∀ k ∈ l.ks, o < k.1 → yOf l k.1 < g) ∧ l.sl ≤ 0
    | some f => o ≤ f ∧ g ≤ yOf l f ∧ (f = o ∨ (yOf l f = g ∧ yOf l o < g ∧ ∀ k ∈ l.ks, o ≤ k.1 → k.1 < f → yOf l k.1 < g)) := by
  unfold fstAt
  by_cases c : yOf l o < g
  · rw [if_pos c]
    obtain ⟨p, r, e, p0, u, z⟩ := gl.list
    have po : p.1 ≤ o := by grind
    have ey : ∀ x, 0 ≤ x → yOf l x = val p r l.sl x := fun x hx => by
      have := yOf_val (s := l.sl) (x := x) u (by grind)
      rw [← this, ← e]
    have eks : l.ks = p :: r := by rw [e]
    have ea : afterK l.ks o = afterK r o := by
      rw [eks]
      unfold afterK
      rw [List.filter_cons_of_neg (by simp; grind)]
    obtain ⟨u2, v2⟩ := after_cut (s := l.sl) u po
    rw [ey o o0] at c ⊢
    rw [ea]
    have yk : ∀ k ∈ l.ks, yOf l k.1 = k.2 := fun k hk => by
      rw [ey _ (gl.nn hk)]
      exact val_at u (by rw [← eks]; exact hk)
    have mr : ∀ k ∈ l.ks, o < k.1 → k ∈ afterK r o := fun k hk h => by
      rw [← ea]
      exact mem_after.mpr ⟨hk, h⟩
    have ih := fst_ok (g := g) (s := l.sl) u2 c
    cases ef : fst g o (val p r l.sl o) (afterK r o) l.sl with
    | none =>
      rw [ef] at ih
      exact ⟨c, fun k hk h => by rw [yk k hk]; exact ih.1 k (mr k hk h), ih.2⟩
    | some f =>
      rw [ef] at ih
      obtain ⟨i1, i2, i3⟩ := ih
      have ef : yOf l f = g := by rw [ey f (by grind), ← v2 f i1, i2]
      refine ⟨i1, by grind, .inr ⟨ef, c, fun k hk h1 h2 => ?_⟩⟩
      rcases (by grind : o < k.1 ∨ k.1 = o) with h | h
      · rw [yk k hk]
        exact i3 k (mr k hk h) h2
      · rw [h, ey o o0]
        exact c
  · rw [if_neg c]
    exact ⟨by grind, by grind, .inl rfl⟩
theorem fst_bd {g s : Rat} {A B C G : Nat} (hg : Bd G g) (hs : Bd C s) : ∀ {r : List Kn} {a h : Rat}, Up (a, h) r → h < g → Bd A a → Bd B h → (∀ k ∈ r, Bd A k.1 ∧ Bd B k.2) → ∀ f, fst g a h r s = some f → Bd (3 * A + 3 * B + C + G + 6) f
  | [], a, h, u, hh, ba, bh, _, f, e => by
    unfold fst at e
    by_cases c : 0 < s
    · rw [if_pos c] at e
      cases e
      exact (bd_add ba (bd_div (bd_sub hg bh) hs (by grind))).mono (by omega)
    · rw [if_neg c] at e
      cases e
  | k :: r, a, h, u, hh, ba, bh, bk, f, e => by
    unfold fst at e
    have b1 := bk k (List.mem_cons_self ..)
    by_cases c : k.2 < g
    · rw [if_pos c] at e
      exact fst_bd hg hs (show Up (k.1, k.2) r from u.2) c b1.1 b1.2 (fun x hx => bk x (List.mem_cons_of_mem _ hx)) f e
    · rw [if_neg c] at e
      have u1 : a < k.1 := u.1
      have rm : rise (a, h) k * (k.1 - a) = k.2 - h := rise_mul (p := (a, h)) u1
      have r0 : rise (a, h) k ≠ 0 := fun z => by
        rw [z] at rm
        grind
      have br : Bd (B + B + 1 + (A + A + 1)) (rise (a, h) k) := bd_div (bd_sub b1.2 bh) (bd_sub b1.1 ba) (show k.1 - a ≠ 0 by grind)
      cases e
      exact (bd_add ba (bd_div (bd_sub hg bh) br r0)).mono (by omega)
theorem fstAt_bd {a b c G M : Nat} {l : Ln} (gl : LnG a b c l) {g o : Rat} (o0 : 0 ≤ o) (hg : Bd G g) (ho : Bd M o) : ∀ f, fstAt l g o = some f → Bd (3 * (a + M) + 3 * (a + b + c + M + 5) + c + G + 6) f := by
  intro f e
  unfold fstAt at e
  by_cases h : yOf l o < g
  · rw [if_pos h] at e
    obtain ⟨p, r, e2, p0, u, z⟩ := gl.list
    have po : p.1 ≤ o := by grind
    have eks : l.ks = p :: r := by rw [e2]
    have ea : afterK l.ks o = afterK r o := by
      rw [eks]
      unfold afterK
      rw [List.filter_cons_of_neg (by simp; grind)]
    have ey : yOf l o = val p r l.sl o := by
      have := yOf_val (s := l.sl) (x := o) u (by grind)
      rw [← this, ← e2]
    obtain ⟨u2, v2⟩ := after_cut (s := l.sl) u po
    refine fst_bd hg gl.sl (by rw [ea, ey]; exact u2) h (ho.mono (by omega)) (gl.yo ho) (fun k hk => ?_) f e
    have := gl.b k (mem_after.mp hk).1
    exact ⟨this.1.mono (by omega), this.2.mono (by omega)⟩
  · rw [if_neg h] at e
    cases e
    exact ho.mono (by omega)
theorem LnG.after {a b c : Nat} {l : Ln} (gl : LnG a b c l) {o : Rat} (o0 : 0 ≤ o) : Up (o, yOf l o) (afterK l.ks o) := by
  obtain ⟨p, r, e2, p0, u, z⟩ := gl.list
  have po : p.1 ≤ o := by grind
  have eks : l.ks = p :: r := by rw [e2]
  have ea : afterK l.ks o = afterK r o := by
    rw [eks]
    unfold afterK
    rw [List.filter_cons_of_neg (by simp; grind)]
  have ey : yOf l o = val p r l.sl o := by
    have := yOf_val (s := l.sl) (x := o) u (by grind)
    rw [← this, ← e2]
  rw [ea, ey]
  exact (after_cut (s := l.sl) u po).1
theorem Up.nx {p k : Kn} {r : List Kn} (h : Up p (k :: r)) : Up k r := h.2
/-! ### rising rows are one -/
theorem ris_one : ∀ {r r' : List Rat}, RisL r → RisL r' → (∀ x, x ∈ r ↔ x ∈ r') → r = r'
  | [], [], _, _, _ => rfl
  | [], b :: r', _, _, h => absurd ((h b).mpr (List.mem_cons_self ..)) (by simp)
  | a :: r, [], _, _, h => absurd ((h a).mp (List.mem_cons_self ..)) (by simp)
  | a :: r, b :: r', h1, h2, h => by
    have ab : a = b := by
      have c1 := (h a).mp (List.mem_cons_self ..)
      have c2 := (h b).mpr (List.mem_cons_self ..)
      rcases List.mem_cons.mp c1 with e | m1
      · exact e
      · rcases List.mem_cons.mp c2 with e | m2
        · exact e.symm
        · have z1 := Ris.lt (show Ris b r' from h2) m1
          have z2 := Ris.lt (show Ris a r from h1) m2
          grind
    subst ab
    have : r = r' := ris_one h1.tail h2.tail fun x => by
      constructor
      · intro hx
        rcases List.mem_cons.mp ((h x).mp (List.mem_cons_of_mem _ hx)) with e | m
        · have := Ris.lt (show Ris a r from h1) hx
          grind
        · exact m
      · intro hx
        rcases List.mem_cons.mp ((h x).mpr (List.mem_cons_of_mem _ hx)) with e | m
        · have := Ris.lt (show Ris a r' from h2) hx
          grind
        · exact m
    rw [this]
/-- the x of all knots, rising -/
def rowX (ls : List Ln) : List Rat := (ls.flatMap fun l => l.ks.map fun k => k.1).foldr insR []
theorem mem_foldr_insR {x : Rat} : ∀ {es : List Rat}, x ∈ es.foldr insR [] ↔ x ∈ es
  | [] => by simp
  | e :: es => by
    rw [List.foldr_cons, mem_insR, mem_foldr_insR, List.mem_cons]
theorem ris_foldr_insR : ∀ {es : List Rat}, RisL (es.foldr insR [])
  | [] => trivial
  | e :: es => by
    rw [List.foldr_cons]
    exact risL_insR ris_foldr_insR
theorem rowX_one {ls : List Ln} {qs : List Rat} (h : RisL qs) (m : ∀ x, x ∈ qs ↔ ∃ l ∈ ls, ∃ k ∈ l.ks, k.1 = x) : qs = rowX ls := ris_one h ris_foldr_insR fun x => by
  unfold rowX
  rw [m, mem_foldr_insR, List.mem_flatMap]
  simp
/-- and one beyond -/
def rowB (ls : List Ln) : List Rat := rowX ls ++ [(rowX ls).getLastD 0 + 1]
/-- the least of some x at which two lines are unlike -/
def unlA (l1 l2 : Ln) : Option Rat := (rowB [l1, l2]).find? fun x => decide (yOf l1 x ≠ yOf l2 x)
theorem rowX_swap (l1 l2 : Ln) : rowX [l1, l2] = rowX [l2, l1] := rowX_one ris_foldr_insR fun x => by
  unfold rowX
  rw [mem_foldr_insR, List.mem_flatMap]
  simp
  grind
end Pm

namespace Pm
open PySem PySem.Spec PyProof.Rows L2
def rInsert : V → List V → Hp → VK → Prop := fun x vs H Q => ∃ (l : Addr) (xs : List V) (i : Int) (y : V), x = .ref l ∧ vs = [.int i, y] ∧ H l = some (.lst xs) ∧ xs.length < sizeLine ∧ 0 ≤ i ∧ i < 2 ^ 63 ∧ Q .non (upd H l (.lst (xs.take i.toNat ++ [y] ++ xs.drop i.toNat)))
theorem k_insert {X : Cx} : MtR X "list.insert" rInsert := mt_insert
theorem i_insertN {H : Hp} {Q : VK} {p : Addr} {xs : List V} {i : Int} {y : V} (h : H p = some (.lst xs)) (hl : xs.length ≤ 100000) (i0 : 0 ≤ i) (i1 : i < 1000000) (k : ∀ H', Fx p p H H' → H' p = some (.lst (xs.take i.toNat ++ [y] ++ xs.drop i.toNat)) → Q .non H') : rInsert (.ref p) [.int i, y] H Q := i_insert h hl i0 i1 k
theorem k_piZ (K : PySem.W.Frag) {X : Cx} {e e2 : Expr} {ta : TA} {p pos tpos : Pos} {elts : List Expr} {kk : Nat} (hg : Gl X "zip") (hm : X.mg "zip" = none) (ha : PA X [e, e2] ta) (hs : starEach [e, e2] X.env = (false, eval e X.env) :: starEach [e2] X.env := by rfl)
    (hpl : (backTo pos (starEach [e2] X.env)).any (·.1) = false := by rfl) (hK : X.K = K := by rfl) : PI X (.Tuple elts kk tpos) (.Call (.Name "zip" p) [e, e2] [] pos) (iZip K ta) := by subst hK; exact pi_zip hg hm ha hs hpl
section
variable {K : PySem.W.Frag} {σ : L2.St} {H : Hp} {Q : VK} {D : Ends} {te : TE} {tt : TT} {ts : TS} {tA : TA} {g : TG} {v y : V} {vs : List Nat}
/-! zip of two lists -/
theorem i_iZ {R : It → Hp → Prop} (h : tA σ H fun vs H1 => ∃ a b xs ys, vs = [.ref a, .ref b] ∧ SqL K H1 a xs ∧ SqL K H1 b ys ∧ R (Itz K a b) H1) : iZip K tA σ H R := h
theorem i_itZ {R : Addr → Addr → Prop} {a b : Addr} {xs ys : List V} (h1 : SqL K H a xs) (h2 : SqL K H b ys) (h : R a b) : ∃ a' b' xs ys, [V.ref a, V.ref b] = [.ref a', .ref b'] ∧ SqL K H a' xs ∧ SqL K H b' ys ∧ R a' b' := ⟨a, b, xs, ys, rfl, h1, h2, h⟩
theorem i_lcZ {a b : Addr} {xs ys : List V} {n : Nat} (hn : n = min xs.length ys.length) (I : Addr → Nat → Hp → Prop) (h0 : ∀ A, New H A → I A 0 (upd H A (.lst []))) (hq : ∀ A i H', New H A → I A i H' → SqL K H' a xs ∧ SqL K H' b ys)
    (hs : ∀ A i x y H0 T H', New H A → xs[i]? = some x → ys[i]? = some y → i < n → I A i H0 → New H0 T → Same H0 H' → TpH H' T [x, y] → g (.ref T) (wipe σ vs) H' fun σ2 H2 => wipe σ2 vs = wipe σ vs ∧ tt σ2 H2 fun b H3 =>
      if b = true then te σ2 H3 fun y H4 => ∃ acc, H4 A = some (.lst acc) ∧ acc.length < sizeLine ∧ I A (i + 1) (upd H4 A (.lst (acc ++ [y]))) else I A (i + 1) H3)
    (h : ∀ A H', New H A → I A n H' → Q (.ref A) H') : LcI (Itz K a b) g tt te vs Q σ H := by
  intro A hA
  refine lc_it (walk_zip hn) (fun i H' => I A i H') (h0 A hA) (fun i H' _ p => hq A i H' hA p) (fun i x H0 H' hi p y => ?_) fun H' p => h A H' hA p
  obtain ⟨T, x1, y1, rfl, nT, rfl, e1, e2⟩ := y
  exact hs A i x1 y1 H0 T _ hA e1 e2 hi p nT (same_new nT) ⟨upd_same⟩
/-! l.extend(list) -/
theorem i_extend {p q : Addr} {xs zs : List V} (h1 : H p = some (.lst xs)) (h2 : H q = some (.lst zs)) (hl : xs.length + zs.length ≤ 100000) (h : ∀ H', Fx p p H H' → H' p = some (.lst (xs ++ zs)) → Q .non H') : rExtend (.ref p) [.ref q] H Q :=
  ⟨p, q, xs, zs, rfl, rfl, h1, h2, Nat.le_trans hl (by decide), h _ (fx_upd h1) upd_same⟩
/-- all of truths -/
theorem i_all {p : Addr} {bs : List Bool} (h1 : SqL K H p (bs.map V.bl)) (h : Q (.bl (bs.all id)) H) : rAll K [.ref p] H Q := ⟨p, bs, rfl, h1, h⟩
end
end Pm

namespace Pm
open PySem PySem.Spec PyProof.Rows L2
/-! a def that a local name holds -/
structure OwnF (P : Program) (w : World) (K : PySem.W.Frag) (mg : Str → Option Value) (base : Heap) (CX : CXT) (k : Nat) (f : Addr) (ps : List Str) (sp : Sp) : Prop where
  ex : ∃ fd, FnG P w K mg base CX k f fd ps sp ∧ PySem.W.keepIn K (.ref f) = true ∧ Binds K fd ps []
theorem pe_ownF {X : Cx} {CX : CXT} {k i : Nat} {f : Addr} {ps : List Str} {sp : Sp} {E : XK} {x : Str} {p pos : Pos} {e : Expr} {es : List Expr} {t : TA} (O : OwnF X.prog X.w X.K X.mg X.base CX k f ps sp) (hG : X.A.guards = some []) (hr : Room k X.A) (hx : Passes CX X E) (hN : X.N[i]? = some x) (hv : Vis X.env.scope x) (ha : PA X (e :: es) t)
    (hdb : (x == ("__debug__" : Str)) = false := by decide) (hcd : (x == ("__classdict__" : Str)) = false := by decide) (he : starEach (e :: es) X.env = (false, eval e X.env) :: starEach es X.env := by rfl) (hpl : (backTo pos (starEach es X.env)).any (·.1) = false := by rfl) : PE X (.Call (.Name x p) (e :: es) [] pos) (tCallL i f sp [] E t) := by
  obtain ⟨fd, F, hk, hb⟩ := O.ex
  refine ⟨fun pins s σ H Q I h => ?_⟩
  obtain ⟨hs, ht⟩ := h
  refine wpAny_Call_Name_kw (thn ((pe_var (pos := p) hN hv hdb hcd).run pins s σ H (fun v H1 => v = .ref f ∧ H1 = H) I ⟨.ref f, hs, rfl, rfl⟩) ?_)
  rintro u s1 ⟨v, H1, I1, r1, rfl, rfl⟩
  cases r1
  refine PySem.W.callWith_K (h₀ := X.base) I.ok.mod.kin hk (thn (ha.run pos pins s1 σ _ _ I1 ht) ?_) he hpl
  rintro us s2 ⟨vs, H2, I2, r, q⟩
  have r2 := r.append (.nil : Vals [] [])
  exact ⟨I2.kIn, runG F hG hr (hb s2 us I2.kIn (by rw [← r2.length]; exact F.len _ _ _ _ q)) hx I2 r2 q⟩
theorem i_callL {σ : L2.St} {H : Hp} {Q : VK} {i : Nat} {f : Addr} {sp : Sp} {E : XK} {t : TA} (e : σ[i]? = some (some (.ref f))) (h : t σ H fun vs H1 => sp (vs ++ []) H1 Q E) : tCallL i f sp [] E t σ H Q := ⟨e, h⟩
/-! not in a tuple of data -/
def rNotInT (K : PySem.W.Frag) : R2 := fun x y H Q => ∃ d ds, Dp K H x d ∧ Dp K H y (.tuple ds) ∧ SeqAt.shaped d = true ∧ SeqAt.shaped (.tuple ds) = true ∧ Q (.bl (!ds.any fun z => PyData.eqv z d)) H
theorem op_notInT {X : Cx} (hu : X.A.units + 65 < cLine) : OpR X (compareOp .NotIn) (rNotInT X.K) := by
  intro pins s σ H x y v u Q I rx ry h
  obtain ⟨d, ds, hd, he, sd, se, q⟩ := h
  obtain ⟨as, r1⟩ := Dp.reads I d x v hd rx
  obtain ⟨bs, r2⟩ := Dp.reads I (.tuple ds) y u he ry
  exact SeqAt.notIn_tuple_reads r2 r1 (SeqAt.canLay_of_shaped se) (SeqAt.canLay_of_shaped sd) (room_in_shaped sd hu) ⟨.bl _, H, I, rfl, q⟩
theorem k_notInT {X : Cx} {k : Nat} (K : PySem.W.Frag) (hr : Room k X.A) (hK : X.K = K := by rfl) : OpR X (compareOp .NotIn) (rNotInT K) := by subst hK; exact op_notInT (by have := hr.un; omega)
theorem i_any {K : PySem.W.Frag} {H : Hp} {Q : VK} {p : Addr} {bs : List Bool} (h1 : SqL K H p (bs.map V.bl)) (h : Q (.bl (bs.any id)) H) : rAny K [.ref p] H Q := ⟨p, bs, rfl, h1, h⟩
theorem i_eqBB {K : PySem.W.Frag} {H : Hp} {Q : VK} {a b : Bool} (h : Q (.bl (a == b)) H) : rEqU K (.bl a) (.bl b) H Q := .inl ⟨rfl, by
  rw [show decide (V.bl a = V.bl b) = (a == b) by cases a <;> cases b <;> simp]
  exact h⟩
end Pm

namespace Pm
open PySem PySem.Spec PyProof.Rows L2
/-! ### promises joined, calmed -/
section
variable {P : Program} {w : World} {K : PySem.W.Frag} {mg : Str → Option Value} {base : Heap} {CX : CXT} {k : Nat} {f : Addr} {fd : FuncData} {ps : List Str} {sp sp' : Sp}
theorem FnG.calm (a : FnG P w K mg base (L2.CX P w) k f fd ps sp) : FnG P w K mg base CX0 k f fd ps (fun vs H Q _ => sp vs H Q fun _ _ _ => False) where
  len := fun vs H Q _ h => a.len vs H Q _ h
  run := fun A hA outer s H args us vs Q E hr h0 hb hv hs => by
    refine codeAny_mono (a.run A hA outer s H args us vs Q (fun _ _ _ => False) hr h0 hb hv hs) ?_
    rintro (e | fl) s' hq
    · obtain ⟨_, _, _, _, _, _, _, _, _, _, _, _, z⟩ := hq
      exact z.elim
    · cases fl <;> exact hq
theorem FnG.or (a : FnG P w K mg base CX k f fd ps sp) (b : FnG P w K mg base CX k f fd ps sp') : FnG P w K mg base CX k f fd ps (fun vs H Q E => sp vs H Q E ∨ sp' vs H Q E) where
  len := fun vs H Q E h => h.elim (a.len vs H Q E) (b.len vs H Q E)
  run := fun A hA outer s H args us vs Q E hr h0 hb hv hs => hs.elim (a.run A hA outer s H args us vs Q E hr h0 hb hv) (b.run A hA outer s H args us vs Q E hr h0 hb hv)
theorem FnG.imp (a : FnG P w K mg base CX k f fd ps sp) (h : ∀ vs H Q E, sp' vs H Q E → sp vs H Q E) : FnG P w K mg base CX k f fd ps sp' where
  len := fun vs H Q E z => a.len vs H Q E (h _ _ _ _ z)
  run := fun A hA outer s H args us vs Q E hr h0 hb hv hs => a.run A hA outer s H args us vs Q E hr h0 hb hv (h _ _ _ _ hs)
end
/-! ### a def that a local name holds, called in a try -/
structure OwnFd (P : Program) (w : World) (K : PySem.W.Frag) (mg : Str → Option Value) (base : Heap) (CX : CXT) (k : Nat) (f : Addr) (ps : List Str) (dvs : List V) (sp : Sp) : Prop where
  ex : ∃ fd ds, FnG P w K mg base CX k f fd ps sp ∧ PySem.W.keepIn K (.ref f) = true ∧ Binds K fd ps ds ∧ Vals dvs ds
structure OwnFdK (P : Program) (w : World) (K : PySem.W.Frag) (mg : Str → Option Value) (base : Heap) (CX : CXT) (k : Nat) (f : Addr) (ps : List Str) (n : Nat) (ks : List Str) (gV : List V → List V → List V) (sp : Sp) : Prop where
  ex : ∃ fd g, FnG P w K mg base CX k f fd ps sp ∧ PySem.W.keepIn K (.ref f) = true ∧ KBn K fd ps n ks g gV
section
variable {P : Program} {w : World} {K : PySem.W.Frag} {mg : Str → Option Value} {base : Heap} {CX : CXT} {k n : Nat} {f : Addr} {x : Str} {ps ks : List Str} {dvs : List V} {gV : List V → List V → List V} {sp : Sp}
theorem Own.held (O : Own P w K mg base CX k x ps dvs sp) (h : mg x = some (.ref f)) : OwnFd P w K mg base CX k f ps dvs sp := by
  obtain ⟨f', fd, ds, F, a, b, c, d⟩ := O.ex
  cases h.symm.trans a
  exact ⟨fd, ds, F, b, c, d⟩
theorem OwnK.held (O : OwnK P w K mg base CX k x ps n ks gV sp) (h : mg x = some (.ref f)) : OwnFdK P w K mg base CX k f ps n ks gV sp := by
  obtain ⟨f', fd, g, F, a, b, c⟩ := O.ex
  cases h.symm.trans a
  exact ⟨fd, g, F, b, c⟩
end
def tHeld (i : Nat) (f : Addr) (t : TE) : TE := fun σ H Q => σ[i]? = some (some (.ref f)) ∧ t σ H Q
section
variable {X : Cx} {CX : CXT} {k n i : Nat} {f : Addr} {ps ks : List Str} {sp : Sp} {E : L2.St → XK} {x : Str} {p pos : Pos} {e : Expr} {es : List Expr} {kws : List Keyword} {t tk : TA} {dvs : List V} {gV : List V → List V → List V}
theorem pe_heldX (O : OwnFd X.prog X.w X.K X.mg X.base CX k f ps dvs sp) (hG : X.A.guards = some []) (hr : Room k X.A) (hx : ∀ σ, PassesAt CX X σ (E σ)) (hN : X.N[i]? = some x) (hv : Vis X.env.scope x) (ha : PA X (e :: es) t)
    (hdb : (x == ("__debug__" : Str)) = false := by decide) (hcd : (x == ("__classdict__" : Str)) = false := by decide) (he : starEach (e :: es) X.env = (false, eval e X.env) :: starEach es X.env := by rfl) (hpl : (backTo pos (starEach es X.env)).any (·.1) = false := by rfl) :
    PE X (.Call (.Name x p) (e :: es) [] pos) (tHeld i f (tCallX sp dvs E t)) := by
  obtain ⟨fd, ds, F, hk, hb, hd⟩ := O.ex
  refine ⟨fun pins s σ H Q I h => ?_⟩
  obtain ⟨hs, ht⟩ := h
  refine wpAny_Call_Name_kw (thn ((pe_var (pos := p) hN hv hdb hcd).run pins s σ H (fun v H1 => v = .ref f ∧ H1 = H) I ⟨.ref f, hs, rfl, rfl⟩) ?_)
  rintro u s1 ⟨v, H1, I1, r1, rfl, rfl⟩
  cases r1
  refine PySem.W.callWith_K (h₀ := X.base) I.ok.mod.kin hk (thn (ha.run pos pins s1 σ _ _ I1 ht) ?_) he hpl
  rintro us s2 ⟨vs, H2, I2, r, q⟩
  have r2 := r.append hd
  exact ⟨I2.kIn, runGX F hG hr (hb s2 us I2.kIn (by rw [← r2.length]; exact F.len _ _ _ _ q)) (hx σ) I2 r2 q⟩
theorem pe_heldKX (O : OwnFdK X.prog X.w X.K X.mg X.base CX k f ps n ks gV sp) (hG : X.A.guards = some []) (hr : Room k X.A) (hx : ∀ σ, PassesAt CX X σ (E σ)) (hN : X.N[i]? = some x) (hv : Vis X.env.scope x) (ha : PA X (e :: es) t) (hkw : PK X kws tk)
    (hall : (backToKw pos (keywordEach kws X.env)).all (·.1.isSome) = true := by rfl) (hks : (backToKw pos (keywordEach kws X.env)).filterMap (·.1) = ks := by rfl)
    (hdb : (x == ("__debug__" : Str)) = false := by decide) (hcd : (x == ("__classdict__" : Str)) = false := by decide) (he : starEach (e :: es) X.env = (false, eval e X.env) :: starEach es X.env := by rfl)
    (hpl : ((backTo pos (starEach (e :: es) X.env)).any (·.1) || (backToKw pos (keywordEach kws X.env)).any (·.1.isNone)) = false := by rfl) :
    PE X (.Call (.Name x p) (e :: es) kws pos) (tHeld i f (tCallNX n ks.length sp gV E t tk)) := by
  obtain ⟨fd, g, F, hk, hb⟩ := O.ex
  refine ⟨fun pins s σ H Q I h => ?_⟩
  obtain ⟨hs, ht⟩ := h
  refine wpAny_Call_Name_kw (thn ((pe_var (pos := p) hN hv hdb hcd).run pins s σ H (fun v H1 => v = .ref f ∧ H1 = H) I ⟨.ref f, hs, rfl, rfl⟩) ?_)
  rintro u s1 ⟨v, H1, I1, r1, rfl, rfl⟩
  cases r1
  apply PySem.W.callWith_KW (h₀ := X.base) I.ok.mod.kin hk hall _ hpl he
  refine thn (ha.run pos pins s1 σ _ _ I1 ht) ?_
  rintro us s1' ⟨vs, H1, I1', r, q⟩
  refine thn (hkw.run pos pins s1' σ H1 _ I1' q) ?_
  rintro ws s2 ⟨zs, H2, I2, rz, l1, l2, q2⟩
  rw [hks]
  exact ⟨I2.kIn, runGX F hG hr (hb.to s2 us ws I2.kIn (r.length.symm.trans l1) (rz.length.symm.trans l2)) (hx σ) I2 (hb.rel r rz) q2⟩
/-- never reached -/
def tNoE : TE := fun _ _ _ => False
theorem pe_never : PE X e tNoE := ⟨fun _ _ _ _ _ _ h => h.elim⟩
end
theorem i_held {σ : L2.St} {H : Hp} {Q : VK} {i : Nat} {f : Addr} {t : TE} (e : σ[i]? = some (some (.ref f))) (h : t σ H Q) : tHeld i f t σ H Q := ⟨e, h⟩
end Pm

namespace Pm
open PySem PySem.Spec PyProof.Rows L2
/-! ### bands: what they take of a sum -/
def mnR (x y : Rat) : Rat := if y < x then y else x
/-- what of a sum lies in a band, times its rate -/
def inB (b t : Rat) (r : Rat) : Rat := if b < t then r * (t - b) else 0
def tax (x : Rat) : List Kn → Rat
  | [] => 0
  | [b] => inB b.1 x b.2
  | b :: c :: r => inB b.1 (mnR x c.1) b.2 + tax x (c :: r)
/-- the knots of the line of what is taken, behind that of the first band -/
def bkn (y : Rat) (b : Kn) : List Kn → List Kn
  | [] => []
  | c :: r => (c.1, y + b.2 * (c.1 - b.1)) :: bkn (y + b.2 * (c.1 - b.1)) c r
def lastR (b : Kn) : List Kn → Rat
  | [] => b.2
  | c :: r => lastR c r
theorem bkn_up : ∀ {y : Rat} {b : Kn} {r : List Kn} {z : Rat}, Up b r → Up (b.1, z) (bkn y b r)
  | y, b, [], z, _ => trivial
  | y, b, c :: r, z, u => ⟨u.1, bkn_up u.2⟩
theorem bkn_sl {P : Rat → Prop} : ∀ {y : Rat} {b : Kn} {r : List Kn}, Up b r → (∀ k ∈ b :: r, P k.2) → SlP P (b.1, y) (bkn y b r) (lastR b r)
  | y, b, [], _, h => h b (List.mem_cons_self ..)
  | y, b, c :: r, u, h => by
    refine ⟨?_, bkn_sl u.2 fun k hk => h k (List.mem_cons_of_mem _ hk)⟩
    have e : rise (b.1, y) (c.1, y + b.2 * (c.1 - b.1)) = b.2 := rise_eq u.1 (by show y + b.2 * (c.1 - b.1) - y = b.2 * (c.1 - b.1); grind)
    rw [e]
    exact h b (List.mem_cons_self ..)
theorem tax_none {x : Rat} : ∀ {b : Kn} {r : List Kn}, Up b r → x ≤ b.1 → tax x (b :: r) = 0
  | b, [], _, h => by
    unfold tax inB
    rw [if_neg (by grind)]
  | b, c :: r, u, h => by
    have u1 := u.1
    unfold tax
    rw [tax_none u.2 (by grind)]
    unfold inB mnR
    rw [if_neg (show ¬ c.1 < x by grind), if_neg (by grind)]
    grind
theorem val_tax {x : Rat} : ∀ {y : Rat} {b : Kn} {r : List Kn}, Up b r → b.1 ≤ x → val (b.1, y) (bkn y b r) (lastR b r) x = y + tax x (b :: r)
  | y, b, [], _, h => by
    show y + b.2 * (x - b.1) = y + inB b.1 x b.2
    unfold inB
    split
    · rfl
    · have : x = b.1 := by grind
      rw [this]
      grind
  | y, b, c :: r, u, h => by
    have u1 := u.1
    have e : rise (b.1, y) (c.1, y + b.2 * (c.1 - b.1)) = b.2 := rise_eq u1 (by show y + b.2 * (c.1 - b.1) - y = b.2 * (c.1 - b.1); grind)
    unfold tax
    show (if x < c.1 then y + rise (b.1, y) (c.1, y + b.2 * (c.1 - b.1)) * (x - b.1) else val (c.1, y + b.2 * (c.1 - b.1)) (bkn (y + b.2 * (c.1 - b.1)) c r) (lastR c r) x) = _
    by_cases k : x < c.1
    · rw [if_pos k, e, tax_none u.2 (by grind)]
      unfold inB mnR
      rw [if_neg (show ¬ c.1 < x by grind)]
      split
      · grind
      · have : x = b.1 := by grind
        rw [this]
        grind
    · rw [if_neg k, val_tax u.2 (by grind)]
      have e2 : inB b.1 (mnR x c.1) b.2 = b.2 * (c.1 - b.1) := by
        have m : mnR x c.1 = c.1 := by
          unfold mnR
          split <;> grind
        rw [m]
        unfold inB
        rw [if_pos u1]
      rw [e2]
      grind
/-- rates from nought to one -/
def Rates (bs : List Kn) : Prop := ∀ b ∈ bs, 0 ≤ b.2 ∧ b.2 ≤ 1
theorem rate_le {r d : Rat} (h1 : r ≤ 1) (hd : 0 ≤ d) : r * d ≤ d := by
  have := Rat.mul_nonneg (show 0 ≤ 1 - r by grind) hd
  grind
theorem inB_gap {b r x y : Rat} (h0 : 0 ≤ r) (h1 : r ≤ 1) (h : x ≤ y) : 0 ≤ inB b y r - inB b x r ∧ inB b y r - inB b x r ≤ y - x := by
  unfold inB
  by_cases c : b < x
  · rw [if_pos c, if_pos (by grind)]
    have a1 := Rat.mul_nonneg h0 (show 0 ≤ y - x by grind)
    have a2 := rate_le h1 (show 0 ≤ y - x by grind)
    grind
  · rw [if_neg c]
    by_cases d : b < y
    · rw [if_pos d]
      have a1 := Rat.mul_nonneg h0 (show 0 ≤ y - b by grind)
      have a2 := rate_le h1 (show 0 ≤ y - b by grind)
      grind
    · rw [if_neg d]
      grind
theorem tax_gap {x y : Rat} (h : x ≤ y) : ∀ {bs : List Kn}, Rates bs → (match bs with | [] => True | b :: r => Up b r) → 0 ≤ tax y bs - tax x bs ∧ tax y bs - tax x bs ≤ y - x
  | [], _, _ => by
    unfold tax
    grind
  | [b], hr, _ => by
    unfold tax
    exact inB_gap (hr b (List.mem_cons_self ..)).1 (hr b (List.mem_cons_self ..)).2 h
  | b :: c :: r, hr, u => by
    have hb := hr b (List.mem_cons_self ..)
    have hr2 : Rates (c :: r) := fun k hk => hr k (List.mem_cons_of_mem _ hk)
    have u : Up b (c :: r) := u
    unfold tax
    unfold mnR
    by_cases c1 : c.1 < x
    · rw [if_pos c1, if_pos (by grind)]
      have ih := tax_gap h hr2 (show Up c r from u.2)
      grind
    · rw [if_neg c1, tax_none (x := x) u.2 (by grind)]
      by_cases c2 : c.1 < y
      · rw [if_pos c2]
        have ih := tax_gap (x := c.1) (y := y) (by grind) hr2 (show Up c r from u.2)
        rw [tax_none (x := c.1) u.2 Rat.le_refl] at ih
        have g := inB_gap (b := b.1) (x := x) (y := c.1) hb.1 hb.2 (by grind)
        grind
      · rw [if_neg c2, tax_none u.2 (by grind)]
        have g := inB_gap (b := b.1) hb.1 hb.2 h
        grind
/-- bands of numbers of so many bits -/
structure BnG (n m : Nat) (bs : List Kn) : Prop where
  b : ∀ k ∈ bs, Bd n k.1 ∧ Bd n k.2
  r : Rates bs
  f : ∃ p r, bs = p :: r ∧ p.1 = 0 ∧ Up p r
  len : bs.length ≤ m
theorem bkn_mem {n : Nat} : ∀ {m : Nat} {y : Rat} {b : Kn} {r : List Kn}, Bd m y → (∀ k ∈ b :: r, Bd n k.1 ∧ Bd n k.2) → ∀ k ∈ bkn y b r, Bd n k.1 ∧ Bd (m + r.length * (3 * n + 2)) k.2
  | m, y, b, [], _, _, k, hk => absurd hk (by simp [bkn])
  | m, y, b, c :: r, hy, h, k, hk => by
    have hb := h b (List.mem_cons_self ..)
    have hc := h c (List.mem_cons_of_mem _ (List.mem_cons_self ..))
    have hy2 : Bd (m + (3 * n + 2)) (y + b.2 * (c.1 - b.1)) := (bd_add hy (bd_mul hb.2 (bd_sub hc.1 hb.1))).mono (by omega)
    have e : (c :: r).length * (3 * n + 2) = r.length * (3 * n + 2) + (3 * n + 2) := by
      simp [Nat.add_mul]
    unfold bkn at hk
    rcases List.mem_cons.mp hk with rfl | hk
    · exact ⟨hc.1, hy2.mono (by rw [e]; omega)⟩
    · have ih := bkn_mem hy2 (fun k hk => h k (List.mem_cons_of_mem _ hk)) k hk
      exact ⟨ih.1, ih.2.mono (by rw [e]; omega)⟩
theorem bkn_len : ∀ (y : Rat) (b : Kn) (r : List Kn), (bkn y b r).length = r.length
  | y, b, [] => rfl
  | y, b, c :: r => by
    unfold bkn
    rw [List.length_cons, List.length_cons, bkn_len]
/-- the line of what is taken -/
def taxLn : List Kn → Ln
  | [] => ⟨[], 0⟩
  | b :: r => nline (b.1, 0) (bkn 0 b r) (lastR b r)
theorem taxLn_of {n m : Nat} {bs : List Kn} (h : BnG n m bs) (hm : m ≤ 5000) : LnG n (2 + m * (3 * n + 2)) n (taxLn bs) ∧ (∀ x, 0 ≤ x → yOf (taxLn bs) x = tax x bs) ∧ Nm (taxLn bs) ∧ (taxLn bs).ks.length ≤ m := by
  obtain ⟨p, r, rfl, h0, u⟩ := h.f
  have hl := h.len
  have z : Bd 2 (0 : Rat) := ⟨by decide, by decide⟩
  have up : Up (p.1, (0 : Rat)) (bkn 0 p r) := bkn_up u
  have mem := bkn_mem (n := n) (m := 2) z h.b
  refine ⟨nline_ln h0 up (bkn_sl u fun k hk => (h.b k hk).2) (fun x hx => ?_) (by rw [List.length_cons, bkn_len]; simp at hl; omega), fun x hx => ?_, nline_nm up, ?_⟩
  · rcases List.mem_cons.mp hx with rfl | hx
    · exact ⟨(h.b p (List.mem_cons_self ..)).1, z.mono (by omega)⟩
    · have a := mem x hx
      refine ⟨a.1, a.2.mono ?_⟩
      have : r.length * (3 * n + 2) ≤ m * (3 * n + 2) := Nat.mul_le_mul_right _ (by simp at hl; omega)
      omega
  · show yOf (nline (p.1, 0) (bkn 0 p r) (lastR p r)) x = _
    rw [nline_y up (by rw [h0]; exact hx), val_tax u (by rw [h0]; exact hx)]
    grind
  · show (nline (p.1, 0) (bkn 0 p r) (lastR p r)).ks.length ≤ m
    have := nline_len (p.1, 0) (bkn 0 p r) (lastR p r)
    rw [bkn_len] at this
    show ((p.1, 0) :: nrm (p.1, 0) (bkn 0 p r) (lastR p r)).length ≤ m
    simp at hl ⊢
    omega
end Pm

namespace Pm
open PySem PySem.Spec PyProof.Rows L2
/-! ### zip of two tuples (or two lists) -/
theorem k_piZA (K : PySem.W.Frag) {X : Cx} {e e2 : Expr} {ta : TA} {p pos tpos : Pos} {elts : List Expr} {kk : Nat} (hg : Gl X "zip") (hm : X.mg "zip" = none) (ha : PA X [e, e2] ta) (hs : starEach [e, e2] X.env = (false, eval e X.env) :: starEach [e2] X.env := by rfl)
    (hpl : (backTo pos (starEach [e2] X.env)).any (·.1) = false := by rfl) (hK : X.K = K := by rfl) : PI X (.Tuple elts kk tpos) (.Call (.Name "zip" p) [e, e2] [] pos) (RZ.iZipA K ta) := by subst hK; exact RZ.pi_zipA hg hm ha hs hpl
section
variable {K : PySem.W.Frag} {σ : L2.St} {H : Hp} {Q : VK} {D : Ends} {te : TE} {tt : TT} {ts : TS} {tA : TA} {g : TG} {v y : V} {vs : List Nat} {a b : Addr} {xs ys : List V}
theorem walk_zipT {n : Nat} (hn : n = min xs.length ys.length) : Walk (RZ.ItzT K a b) n (fun H => SqT K H a xs ∧ SqT K H b ys) (YPair (fun i => xs[i]?) (fun i => ys[i]?)) := by
  subst hn
  refine ⟨fun i _ hi q => ?_, fun _ q => ⟨xs, ys, q.1, q.2, by omega⟩, fun i H v H' _ q y => ?_⟩
  · have h1 : i < xs.length := by omega
    have h2 : i < ys.length := by omega
    exact ⟨xs, ys, xs[i], ys[i], q.1, q.2, by simp [h1], by simp [h2]⟩
  · obtain ⟨T, x, z, h1, h2, h3, h4, h5⟩ := y
    exact ⟨T, x, z, h1, h2, h3, h4 xs q.1, h5 ys q.2⟩
theorem i_iZA {R : It → Hp → Prop} (h : tA σ H fun vs H1 => ∃ a b xs ys, vs = [.ref a, .ref b] ∧ ((SqL K H1 a xs ∧ SqL K H1 b ys ∧ R (Itz K a b) H1) ∨ (SqT K H1 a xs ∧ SqT K H1 b ys ∧ R (RZ.ItzT K a b) H1))) : RZ.iZipA K tA σ H R := h
theorem i_itZT {R1 R2 : Addr → Addr → Prop} (h1 : Tp K H a xs) (h2 : Tp K H b ys) (h : R2 a b) : ∃ a' b' xs ys, [V.ref a, V.ref b] = [.ref a', .ref b'] ∧ ((SqL K H a' xs ∧ SqL K H b' ys ∧ R1 a' b') ∨ (SqT K H a' xs ∧ SqT K H b' ys ∧ R2 a' b')) := ⟨a, b, xs, ys, rfl, .inr ⟨h1.sq, h2.sq, h⟩⟩
theorem i_itZL {R1 R2 : Addr → Addr → Prop} (h1 : SqL K H a xs) (h2 : SqL K H b ys) (h : R1 a b) : ∃ a' b' xs ys, [V.ref a, V.ref b] = [.ref a', .ref b'] ∧ ((SqL K H a' xs ∧ SqL K H b' ys ∧ R1 a' b') ∨ (SqT K H a' xs ∧ SqT K H b' ys ∧ R2 a' b')) := ⟨a, b, xs, ys, rfl, .inl ⟨h1, h2, h⟩⟩
theorem i_lcZT {n : Nat} (hn : n = min xs.length ys.length) (I : Addr → Nat → Hp → Prop) (h0 : ∀ A, New H A → I A 0 (upd H A (.lst []))) (hq : ∀ A i H', New H A → I A i H' → Tp K H' a xs ∧ Tp K H' b ys)
    (hs : ∀ A i x y H0 T H', New H A → xs[i]? = some x → ys[i]? = some y → i < n → I A i H0 → New H0 T → Same H0 H' → TpH H' T [x, y] → g (.ref T) (wipe σ vs) H' fun σ2 H2 => wipe σ2 vs = wipe σ vs ∧ tt σ2 H2 fun b H3 =>
      if b = true then te σ2 H3 fun y H4 => ∃ acc, H4 A = some (.lst acc) ∧ acc.length < sizeLine ∧ I A (i + 1) (upd H4 A (.lst (acc ++ [y]))) else I A (i + 1) H3)
    (h : ∀ A H', New H A → I A n H' → Q (.ref A) H') : LcI (RZ.ItzT K a b) g tt te vs Q σ H := by
  intro A hA
  refine lc_it (walk_zipT hn) (fun i H' => I A i H') (h0 A hA) (fun i H' _ p => ⟨(hq A i H' hA p).1.sq, (hq A i H' hA p).2.sq⟩) (fun i x H0 H' hi p y => ?_) fun H' p => h A H' hA p
  obtain ⟨T, x1, y1, rfl, nT, rfl, e1, e2⟩ := y
  exact hs A i x1 y1 H0 T _ hA e1 e2 hi p nT (same_new nT) ⟨upd_same⟩
theorem i_forZT (hl : xs.length = ys.length) (I : Nat → L2.St → Hp → Prop) (h0 : I 0 σ H) (hq : ∀ i σ H, I i σ H → Tp K H a xs ∧ Tp K H b ys)
    (hs : ∀ i x y σ' H0 T H', xs[i]? = some x → ys[i]? = some y → I i σ' H0 → New H0 T → Same H0 H' → TpH H' T [x, y] → g (.ref T) σ' H' fun σ2 H2 => ts { D with nx := I (i + 1), ct := I (i + 1), bk := D.nx } σ2 H2)
    (hd : ∀ σ' H', I xs.length σ' H' → D.nx σ' H') : ForI (RZ.ItzT K a b) g ts D σ H :=
  RZ.for_zipT hl I h0 (fun i σ H p => ⟨(hq i σ H p).1.sq, (hq i σ H p).2.sq⟩) (fun i x y T σ H hx hy p nT => hs i x y σ H T _ hx hy p nT (same_new nT) ⟨upd_same⟩) hd
/-! a slice of a tuple -/
theorem i_slT {p : Addr} {lo hi : Option Int} (h1 : Tp K H p xs) (hw : ¬ (HT.sIx xs.length 0 lo = 0 ∧ HT.sIx xs.length xs.length hi = xs.length)) (h : ∀ a H', New H a → Same H H' → H' a = some (.tup (cutV xs lo hi)) → Q (.ref a) H') : rSlT K (.ref p) lo hi H Q := ⟨p, xs, rfl, h1.sq, hw, i_new h⟩
theorem cut_from {n : Nat} (h : n ≤ xs.length) : cutV xs (some (n : Int)) none = xs.drop n := by
  unfold cutV
  rw [HT.sIx_nat, HT.sIx_none, Nat.min_eq_left h]
  exact List.take_of_length_le (by simp)
/-- all but the first -/
theorem i_slT1 {p : Addr} (h1 : Tp K H p xs) (hn : xs ≠ []) (h : ∀ a H', New H a → Same H H' → H' a = some (.tup (xs.drop 1)) → Q (.ref a) H') : rSlT K (.ref p) (some 1) none H Q := by
  have hl : 1 ≤ xs.length := List.length_pos_iff.mpr hn
  refine i_slT h1 (fun z => ?_) ?_
  · have z1 : HT.sIx xs.length 0 (some ((1 : Nat) : Int)) = 0 := z.1
    rw [HT.sIx_nat] at z1
    omega
  · rw [show cutV xs (some 1) none = xs.drop 1 from cut_from (n := 1) hl]
    exact h
theorem i_addT {K : PySem.W.Frag} {H : Hp} {Q : VK} {p q : Addr} {xs ys : List V} (h1 : Tp K H p xs) (h2 : Tp K H q ys) (e1 : xs ≠ []) (e2 : ys ≠ []) (hl : xs.length + ys.length ≤ 100000) (h : ∀ a H', New H a → Same H H' → TpH H' a (xs ++ ys) → Q (.ref a) H') : rAddU K (.ref p) (.ref q) H Q :=
  .inr (.inr (.inr ⟨p, q, xs, ys, rfl, rfl, h1.sq, h2.sq, e1, Nat.le_trans hl (by decide), fun e => absurd e e2, fun _ a ha => h a _ ha (same_new ha) ⟨upd_same⟩⟩))
end
end Pm

namespace Pm
open PySem PySem.Spec PyProof.Rows L2
/-! ### bands over a small bottom -/
structure BnD (D : Nat) (bs : List Kn) : Prop where
  d0 : 0 < D
  d1 : D ≤ 997
  g : BnG 12 20 bs
  b : ∀ k ∈ bs, k.2.den ∣ D ∧ k.1.den ∣ 4 ∧ k.1 ≤ 600
theorem bkn_dv {D : Nat} : ∀ {y : Rat} {b : Kn} {r : List Kn}, Up b r → Rates (b :: r) → y.den ∣ 4 * D → 0 ≤ y → y ≤ b.1 → (∀ k ∈ b :: r, k.2.den ∣ D ∧ k.1.den ∣ 4 ∧ k.1 ≤ 600) → ∀ k ∈ bkn y b r, k.2.den ∣ 4 * D ∧ 0 ≤ k.2 ∧ k.2 ≤ 600
  | y, b, [], _, _, _, _, _, _, k, hk => absurd hk (by simp [bkn])
  | y, b, c :: r, u, hr, hy, y0, y1, h, k, hk => by
    have hb := h b (List.mem_cons_self ..)
    have hc := h c (List.mem_cons_of_mem _ (List.mem_cons_self ..))
    have rb := hr b (List.mem_cons_self ..)
    have u1 := u.1
    have dd : (c.1 - b.1).den ∣ 4 := dd_sub hc.2.1 hb.2.1
    have dm : (b.2 * (c.1 - b.1)).den ∣ 4 * D := by
      rw [Nat.mul_comm]
      exact dd_mul hb.1 dd
    have y2 : (y + b.2 * (c.1 - b.1)).den ∣ 4 * D := dd_add hy dm
    have m0 := Rat.mul_nonneg rb.1 (show 0 ≤ c.1 - b.1 by grind)
    have m1 := rate_le rb.2 (show 0 ≤ c.1 - b.1 by grind)
    unfold bkn at hk
    rcases List.mem_cons.mp hk with rfl | hk
    · exact ⟨y2, by show 0 ≤ y + b.2 * (c.1 - b.1); grind, by show y + b.2 * (c.1 - b.1) ≤ 600; grind⟩
    · exact bkn_dv u.2 (fun k hk => hr k (List.mem_cons_of_mem _ hk)) y2 (by grind) (by grind) (fun k hk => h k (List.mem_cons_of_mem _ hk)) k hk
theorem BnD.ln {D : Nat} {bs : List Kn} (h : BnD D bs) : LnG 12 22 12 (taxLn bs) := by
  obtain ⟨p, r, rfl, h0, u⟩ := h.g.f
  have hl := h.g.len
  have z : Bd 2 (0 : Rat) := ⟨by decide, by decide⟩
  have up : Up (p.1, (0 : Rat)) (bkn 0 p r) := bkn_up u
  have mem := bkn_mem (n := 12) (m := 2) z h.g.b
  have dv := bkn_dv (D := D) (y := 0) u h.g.r (Nat.one_dvd _) Rat.le_refl (by rw [h0]; exact Rat.le_refl) h.b
  refine nline_ln h0 up (bkn_sl u fun k hk => (h.g.b k hk).2) (fun x hx => ?_) (by rw [List.length_cons, bkn_len]; simp at hl; omega)
  rcases List.mem_cons.mp hx with rfl | hx
  · exact ⟨(h.g.b p (List.mem_cons_self ..)).1, z.mono (by omega)⟩
  · obtain ⟨a1, a2, a3⟩ := dv x hx
    have d0 := h.d0
    have d1 := h.d1
    refine ⟨(mem x hx).1, ?_⟩
    have e : Dv (4 * D) 600 x.2 := ⟨a1, by
      have : -((600 : Nat) : Rat) ≤ 0 := by decide
      grind, a3⟩
    exact e.bd (by omega) (by omega) (by omega)
/-- the slope behind all bands -/
theorem taxLn_sl {b : Kn} {r : List Kn} : (taxLn (b :: r)).sl = lastR b r := rfl
/-! where a line is first at least a goal: nowhere ahead -/
theorem lin_lt {g h k a c x : Rat} (hg : h < g) (hk : k < g) (ac : a < c) (x0 : a ≤ x) (x1 : x ≤ c) {m : Rat} (em : m * (c - a) = k - h) : h + m * (x - a) < g := by
  rcases (by grind : m ≤ 0 ∨ 0 < m) with d | d
  · have := Rat.mul_nonneg (show 0 ≤ -m by grind) (show 0 ≤ x - a by grind)
    grind
  · have := Rat.mul_nonneg (show 0 ≤ m by grind) (show 0 ≤ c - x by grind)
    grind
theorem fst_none {g s : Rat} : ∀ {r : List Kn} {a h : Rat}, Up (a, h) r → h < g → fst g a h r s = none → ∀ x, a ≤ x → val (a, h) r s x < g
  | [], a, h, _, hg, e, x, hx => by
    unfold fst at e
    by_cases c : 0 < s
    · rw [if_pos c] at e
      cases e
    · have := Rat.mul_nonneg (show 0 ≤ -s by grind) (show 0 ≤ x - a by grind)
      show h + s * (x - a) < g
      grind
  | k :: r, a, h, u, hg, e, x, hx => by
    have u1 : a < k.1 := u.1
    unfold fst at e
    by_cases c : k.2 < g
    · rw [if_pos c] at e
      have rm : rise (a, h) k * (k.1 - a) = k.2 - h := rise_mul (p := (a, h)) u1
      show (if x < k.1 then h + rise (a, h) k * (x - a) else val k r s x) < g
      by_cases d : x < k.1
      · rw [if_pos d]
        exact lin_lt hg c u1 hx (by grind) rm
      · rw [if_neg d]
        exact fst_none (show Up (k.1, k.2) r from u.2) c e x (by grind)
    · rw [if_neg c] at e
      cases e
theorem fst_some {g s f : Rat} : ∀ {r : List Kn} {a h : Rat}, Up (a, h) r → h < g → fst g a h r s = some f → ∀ x, a ≤ x → x < f → val (a, h) r s x < g
  | [], a, h, _, hg, e, x, hx, hf => by
    unfold fst at e
    by_cases c : 0 < s
    · rw [if_pos c] at e
      cases e
      have e := quo_mul (x := g - h) c
      have := Rat.mul_pos c (show 0 < a + (g - h) / s - x by grind)
      show h + s * (x - a) < g
      grind
    · rw [if_neg c] at e
      cases e
  | k :: r, a, h, u, hg, e, x, hx, hf => by
    have u1 : a < k.1 := u.1
    have rm : rise (a, h) k * (k.1 - a) = k.2 - h := rise_mul (p := (a, h)) u1
    unfold fst at e
    show (if x < k.1 then h + rise (a, h) k * (x - a) else val k r s x) < g
    by_cases c : k.2 < g
    · rw [if_pos c] at e
      by_cases d : x < k.1
      · rw [if_pos d]
        exact lin_lt hg c u1 hx (by grind) rm
      · rw [if_neg d]
        exact fst_some (show Up (k.1, k.2) r from u.2) c e x (by grind) hf
    · rw [if_neg c] at e
      cases e
      have rp : 0 < rise (a, h) k := by
        rcases (by grind : 0 < rise (a, h) k ∨ rise (a, h) k ≤ 0) with d | d
        · exact d
        · have : 0 ≤ (-(rise (a, h) k)) * (k.1 - a) := Rat.mul_nonneg (by grind) (by grind)
          grind
      have e := quo_mul (x := g - h) rp
      have le : (g - h) / rise (a, h) k ≤ k.1 - a := quo_le rp (by grind)
      rw [if_pos (show x < k.1 by grind)]
      have := Rat.mul_pos rp (show 0 < a + (g - h) / rise (a, h) k - x by grind)
      grind
theorem fstAt_all {a b c : Nat} {l : Ln} (gl : LnG a b c l) {g o : Rat} (o0 : 0 ≤ o) : match fstAt l g o with
    | none => (∀ x, o ≤ x → yOf l x < g) ∧ l.sl ≤ 0
    | some f => o ≤ f ∧ (∀ x, o ≤ x → x < f → yOf l x < g) ∧ ((f = o ∧ g ≤ yOf l o) ∨ (yOf l f = g ∧ yOf l o < g)) := by
  have ok := fstAt_ok gl (g := g) o0
  unfold fstAt at ok ⊢
  by_cases c : yOf l o < g
  · rw [if_pos c] at ok ⊢
    obtain ⟨p, r, e, p0, u, z⟩ := gl.list
    have po : p.1 ≤ o := by grind
    have ey : ∀ x, 0 ≤ x → yOf l x = val p r l.sl x := fun x hx => by
      have := yOf_val (s := l.sl) (x := x) u (by grind)
      rw [← this, ← e]
    have eks : l.ks = p :: r := by rw [e]
    have ea : afterK l.ks o = afterK r o := by
      rw [eks]
      unfold afterK
      rw [List.filter_cons_of_neg (by simp; grind)]
    obtain ⟨u2, v2⟩ := after_cut (s := l.sl) u po
    rw [ey o o0] at c ok ⊢
    rw [ea] at ok ⊢
    cases ef : fst g o (val p r l.sl o) (afterK r o) l.sl with
    | none =>
      rw [ef] at ok
      refine ⟨fun x hx => ?_, ok.2.2⟩
      have := fst_none u2 c ef x hx
      rw [v2 x hx] at this
      rw [ey x (by grind)]
      exact this
    | some f =>
      rw [ef] at ok
      obtain ⟨i1, i2, i3⟩ := ok
      refine ⟨i1, fun x hx hf => ?_, ?_⟩
      · have := fst_some u2 c ef x hx hf
        rw [v2 x hx] at this
        rw [ey x (by grind)]
        exact this
      · rcases i3 with rfl | h
        · rw [ey f o0] at i2
          grind
        · exact .inr ⟨h.1, c⟩
  · rw [if_neg c]
    exact ⟨by grind, fun x h1 h2 => absurd h2 (by grind), .inl ⟨rfl, by grind⟩⟩
end Pm

namespace Pm
open PySem PySem.Spec PyProof.Rows L2
/-! ### tuples put together, slices of tuples, whatever their length -/
section
variable {X : Cx} {K : PySem.W.Frag} {H : Hp} {Q : VK} {p q : Addr} {xs ys : List V}
theorem k_catA (K : PySem.W.Frag) (hK : X.K = K := by rfl) : OpR X (binaryOp .Add) (rCatA K) := by subst hK; exact op_catA
theorem k_slA (K : PySem.W.Frag) (hK : X.K = K := by rfl) : SlR X (rSlA K) := by subst hK; exact sl_tupA
theorem i_catA (h1 : Tp K H p xs) (h2 : Tp K H q ys) (hl : xs.length + ys.length ≤ 100000) (h : ∀ a H', Same H H' → Tp K H' a (xs ++ ys) → Q (.ref a) H') : rCatA K (.ref p) (.ref q) H Q := by
  refine ⟨p, q, xs, ys, rfl, rfl, h1.sq, h2.sq, Nat.le_trans hl (by decide), ?_⟩
  by_cases c : xs = []
  · subst c
    simp only [List.nil_append] at h
    simp
    exact h _ _ (Same.refl _) h2
  · by_cases d : ys = []
    · subst d
      simp only [List.append_nil] at h
      simp [c]
      exact h _ _ (Same.refl _) h1
    · simp [c, d]
      exact fun a ha => h a _ (same_new ha) (Tp.of upd_same)
theorem i_slA {lo hi : Option Int} (h1 : Tp K H p xs) (h : ∀ a H', Same H H' → Tp K H' a (cutV xs lo hi) → Q (.ref a) H') : rSlA K (.ref p) lo hi H Q := by
  refine ⟨p, xs, rfl, h1.sq, ?_⟩
  constructor
  · intro c
    have e : cutV xs lo hi = xs := by
      unfold cutV
      rw [c.1, c.2]
      simp
    rw [e] at h
    exact h _ _ (Same.refl _) h1
  · intro c a ha
    exact h a _ (same_new ha) (Tp.of upd_same)
end
end Pm

namespace Pm
open PySem PySem.Spec PyProof.Rows L2
/-! ### deep data in a list: in, not in, index -/
section
variable {X : Cx} {k : Nat}
theorem k_inD (K : PySem.W.Frag) (hr : Room k X.A) (hK : X.K = K := by rfl) : OpR X (compareOp .In) (rInD K) := by subst hK; exact op_inD (by have := hr.un; omega)
theorem k_notInD (K : PySem.W.Frag) (hr : Room k X.A) (hK : X.K = K := by rfl) : OpR X (compareOp .NotIn) (rNotInD K) := by subst hK; exact op_notInD (by have := hr.un; omega)
theorem k_indexD (K : PySem.W.Frag) (hr : Room k X.A) (hK : X.K = K := by rfl) : MtR X "list.index" (rIndexD K) := by subst hK; exact mt_indexD (by have := hr.un; omega)
end
section
variable {K : PySem.W.Frag} {σ : L2.St} {H : Hp} {Q : VK} {te : TE} {tt : TT} {g : TG} {vs : List Nat} {x y : V} {a p : Addr} {xs : List V} {d : PyData} {ds : List PyData}
theorem i_notInD (h1 : Dp K H x d) (h2 : Dp K H y (.list ds)) (s1 : SeqAt.shaped d = true) (s2 : SeqAt.shaped (.list ds) = true) (h : Q (.bl (!ds.any fun z => PyData.eqv z d)) H) : rNotInD K x y H Q := ⟨d, ds, h1, h2, s1, s2, h⟩
theorem i_inD (h1 : Dp K H x d) (h2 : Dp K H y (.list ds)) (s1 : SeqAt.shaped d = true) (s2 : SeqAt.shaped (.list ds) = true) (h : Q (.bl (ds.any fun z => PyData.eqv z d)) H) : rInD K x y H Q := ⟨d, ds, h1, h2, s1, s2, h⟩
theorem i_indexD {j : Nat} {z : PyData} (h1 : Dp K H (.ref p) (.list ds)) (h2 : Dp K H y d) (s2 : SeqAt.shaped (.list ds) = true) (s1 : SeqAt.shaped d = true) (e : ds[j]? = some z) (e2 : PyData.eqv z d = true) (e3 : ∀ (m : Nat) (z' : PyData), m < j → ds[m]? = some z' → PyData.eqv z' d = false) (h : Q (.int (j : Nat)) H) : rIndexD K (.ref p) [y] H Q := ⟨p, y, d, ds, j, z, rfl, rfl, h1, h2, s2, s1, e, e2, e3, h⟩
/-! enumerate of a tuple in a comprehension -/
theorem walk_ET : Walk (ItET K a) xs.length (fun H => SqT K H a xs) (YPair (fun i => some (.int (i : Nat))) (fun i => xs[i]?)) := by
  refine ⟨fun i _ hi q => ⟨xs, xs[i], q, by simp [hi]⟩, fun _ q => ⟨xs, q, rfl⟩, fun i H v H' _ q y => ?_⟩
  obtain ⟨T, x, ⟨h1, h2⟩, h3, h4⟩ := y
  exact ⟨T, .int (i : Nat), x, h1, h2, h3, rfl, h4 xs q⟩
theorem i_lcET (I : Addr → Nat → Hp → Prop) (h0 : ∀ A, New H A → I A 0 (upd H A (.lst []))) (hq : ∀ A i H', New H A → I A i H' → Tp K H' a xs)
    (hs : ∀ A i x H0 T H', New H A → xs[i]? = some x → i < xs.length → I A i H0 → New H0 T → Same H0 H' → TpH H' T [.int (i : Nat), x] → g (.ref T) (wipe σ vs) H' fun σ2 H2 => wipe σ2 vs = wipe σ vs ∧ tt σ2 H2 fun b H3 =>
      if b = true then te σ2 H3 fun y H4 => ∃ acc, H4 A = some (.lst acc) ∧ acc.length < sizeLine ∧ I A (i + 1) (upd H4 A (.lst (acc ++ [y]))) else I A (i + 1) H3)
    (h : ∀ A H', New H A → I A xs.length H' → Q (.ref A) H') : LcI (ItET K a) g tt te vs Q σ H := by
  intro A hA
  refine lc_it walk_ET (fun i H' => I A i H') (h0 A hA) (fun i H' _ p => (hq A i H' hA p).sq) (fun i x H0 H' hi p y => ?_) fun H' p => h A H' hA p
  obtain ⟨T, x1, y1, rfl, nT, rfl, e1, e2⟩ := y
  obtain rfl := Option.some.inj e1
  exact hs A i y1 H0 T _ hA e2 hi p nT (same_new nT) ⟨upd_same⟩
end
end Pm

namespace Pm
open PySem PySem.Spec PyProof.Rows L2
/-! ### bands over a bottom, begins by eights -/
structure BnE (D : Nat) (bs : List Kn) : Prop where
  d0 : 0 < D
  d1 : D ≤ 1000000
  g : BnG 13 20 bs
  b : ∀ k ∈ bs, k.2.den ∣ D ∧ k.1.den ∣ 8 ∧ k.1 ≤ 601
theorem bkn_dvE {D : Nat} : ∀ {y : Rat} {b : Kn} {r : List Kn}, Up b r → Rates (b :: r) → y.den ∣ 8 * D → 0 ≤ y → y ≤ b.1 → (∀ k ∈ b :: r, k.2.den ∣ D ∧ k.1.den ∣ 8 ∧ k.1 ≤ 601) → ∀ k ∈ bkn y b r, k.2.den ∣ 8 * D ∧ 0 ≤ k.2 ∧ k.2 ≤ 601
  | y, b, [], _, _, _, _, _, _, k, hk => absurd hk (by simp [bkn])
  | y, b, c :: r, u, hr, hy, y0, y1, h, k, hk => by
    have hb := h b (List.mem_cons_self ..)
    have hc := h c (List.mem_cons_of_mem _ (List.mem_cons_self ..))
    have rb := hr b (List.mem_cons_self ..)
    have u1 := u.1
    have dd : (c.1 - b.1).den ∣ 8 := dd_sub hc.2.1 hb.2.1
    have dm : (b.2 * (c.1 - b.1)).den ∣ 8 * D := by
      rw [Nat.mul_comm]
      exact dd_mul hb.1 dd
    have y2 : (y + b.2 * (c.1 - b.1)).den ∣ 8 * D := dd_add hy dm
    have m0 := Rat.mul_nonneg rb.1 (show 0 ≤ c.1 - b.1 by grind)
    have m1 := rate_le rb.2 (show 0 ≤ c.1 - b.1 by grind)
    unfold bkn at hk
    rcases List.mem_cons.mp hk with rfl | hk
    · exact ⟨y2, by show 0 ≤ y + b.2 * (c.1 - b.1); grind, by show y + b.2 * (c.1 - b.1) ≤ 601; grind⟩
    · exact bkn_dvE u.2 (fun k hk => hr k (List.mem_cons_of_mem _ hk)) y2 (by grind) (by grind) (fun k hk => h k (List.mem_cons_of_mem _ hk)) k hk
theorem smallE_bd {D : Nat} {y : Rat} (d0 : 0 < D) (d1 : D ≤ 1000000) (h1 : y.den ∣ 8 * D) (h2 : 0 ≤ y) (h3 : y ≤ 601) : Bd 33 y := by
  have e : Dv (8 * D) 601 y := ⟨h1, by
    have : -((601 : Nat) : Rat) ≤ 0 := by decide
    grind, h3⟩
  exact e.bd (by omega) (by omega) (by omega)
theorem BnE.ln {D : Nat} {bs : List Kn} (h : BnE D bs) : LnG 13 33 13 (taxLn bs) := by
  obtain ⟨p, r, rfl, h0, u⟩ := h.g.f
  have hl := h.g.len
  have z : Bd 2 (0 : Rat) := ⟨by decide, by decide⟩
  have up : Up (p.1, (0 : Rat)) (bkn 0 p r) := bkn_up u
  have mem := bkn_mem (n := 13) (m := 2) z h.g.b
  have dv := bkn_dvE (D := D) (y := 0) u h.g.r (Nat.one_dvd _) Rat.le_refl (by rw [h0]; exact Rat.le_refl) h.b
  refine nline_ln h0 up (bkn_sl u fun k hk => (h.g.b k hk).2) (fun x hx => ?_) (by rw [List.length_cons, bkn_len]; simp at hl; omega)
  rcases List.mem_cons.mp hx with rfl | hx
  · exact ⟨(h.g.b p (List.mem_cons_self ..)).1, z.mono (by omega)⟩
  · obtain ⟨a1, a2, a3⟩ := dv x hx
    exact ⟨(mem x hx).1, smallE_bd h.d0 h.d1 a1 a2 a3⟩
theorem BnD.e {D : Nat} {bs : List Kn} (h : BnD D bs) : BnE D bs :=
  ⟨h.d0, by have := h.d1; omega, ⟨fun k hk => ⟨(h.g.b k hk).1.mono (by decide), (h.g.b k hk).2.mono (by decide)⟩, h.g.r, h.g.f, h.g.len⟩, fun k hk => ⟨(h.b k hk).1, Nat.dvd_trans (h.b k hk).2.1 (by decide), by have := (h.b k hk).2.2; grind⟩⟩
/-! ### the rate at a sum -/
def rtx (b : Kn) : List Kn → Rat → Rat
  | [], _ => b.2
  | c :: r, x => if x < c.1 then b.2 else rtx c r x
def rt : List Kn → Rat → Rat
  | [], _ => 0
  | b :: r, x => rtx b r x
theorem sr_bkn {x : Rat} : ∀ {y : Rat} {b : Kn} {r : List Kn}, Up b r → sr (b.1, y) (bkn y b r) (lastR b r) x = rtx b r x
  | y, b, [], _ => rfl
  | y, b, c :: r, u => by
    have e : rise (b.1, y) (c.1, y + b.2 * (c.1 - b.1)) = b.2 := rise_eq u.1 (by show y + b.2 * (c.1 - b.1) - y = b.2 * (c.1 - b.1); grind)
    show (if x < c.1 then rise (b.1, y) (c.1, y + b.2 * (c.1 - b.1)) else sr (c.1, y + b.2 * (c.1 - b.1)) (bkn (y + b.2 * (c.1 - b.1)) c r) (lastR c r) x) = if x < c.1 then b.2 else rtx c r x
    rw [e, sr_bkn u.2]
theorem sr_skip {s x : Rat} {p k : Kn} {r : List Kn} (h : Up p (k :: r)) (e : rise p k = fs k r s) : sr p r s x = sr p (k :: r) s x := by
  cases r with
  | nil =>
    show s = if x < k.1 then rise p k else s
    rw [e]
    split <;> rfl
  | cons k2 r =>
    have e : rise p k = rise k k2 := e
    have e2 := rise_two h.1 h.2.1 e
    have l2 : k.1 < k2.1 := h.2.1
    show (if x < k2.1 then rise p k2 else sr k2 r s x) = if x < k.1 then rise p k else if x < k2.1 then rise k k2 else sr k2 r s x
    rw [e2, ← e]
    by_cases c : x < k.1
    · rw [if_pos (show x < k2.1 by grind), if_pos c]
    · rw [if_neg c]
theorem sr_nrm {s x : Rat} : ∀ {p : Kn} {r : List Kn}, Up p r → sr p (nrm p r s) s x = sr p r s x
  | p, [], _ => rfl
  | p, k :: r, h => by
    unfold nrm
    split
    · rename_i e
      rw [sr_nrm h.skip]
      exact sr_skip h e
    · rename_i e
      show (if x < k.1 then rise p k else sr k (nrm k r s) s x) = if x < k.1 then rise p k else sr k r s x
      rw [sr_nrm h.2]
theorem sr_const {s w u : Rat} : ∀ {p : Kn} {r : List Kn}, w ≤ u → (∀ k ∈ r, ¬ (w < k.1 ∧ k.1 ≤ u)) → sr p r s u = sr p r s w
  | p, [], _, _ => rfl
  | p, k :: r, h, hn => by
    have c0 := hn k (List.mem_cons_self ..)
    show (if u < k.1 then rise p k else sr k r s u) = if w < k.1 then rise p k else sr k r s w
    by_cases c : u < k.1
    · rw [if_pos c, if_pos (by grind)]
    · rw [if_neg c, if_neg (by grind)]
      exact sr_const h fun k hk => hn k (List.mem_cons_of_mem _ hk)
theorem rt_sr {n m : Nat} {bs : List Kn} (g : BnG n m bs) : ∃ p r s, taxLn bs = ⟨p :: r, s⟩ ∧ p.1 = 0 ∧ ∀ x, rt bs x = sr p r s x := by
  obtain ⟨p, r, rfl, h0, u⟩ := g.f
  exact ⟨(p.1, 0), nrm (p.1, 0) (bkn 0 p r) (lastR p r), lastR p r, rfl, h0, fun x => by rw [sr_nrm (bkn_up u), sr_bkn u]; rfl⟩
theorem rt_const {n m : Nat} {bs : List Kn} (g : BnG n m bs) {w u : Rat} (h : w ≤ u) (hn : ∀ k ∈ (taxLn bs).ks, ¬ (w < k.1 ∧ k.1 ≤ u)) : rt bs u = rt bs w := by
  obtain ⟨p, r, s, e, p0, hr⟩ := rt_sr g
  rw [hr, hr]
  exact sr_const h fun k hk => hn k (by rw [e]; exact List.mem_cons_of_mem _ hk)
theorem bkn_begin : ∀ {y : Rat} {b : Kn} {r : List Kn} {k : Kn}, k ∈ bkn y b r → ∃ c ∈ r, c.1 = k.1
  | y, b, [], k, h => absurd h (by simp [bkn])
  | y, b, c :: r, k, h => by
    unfold bkn at h
    rcases List.mem_cons.mp h with rfl | h
    · exact ⟨c, List.mem_cons_self .., rfl⟩
    · obtain ⟨d, hd, e⟩ := bkn_begin h
      exact ⟨d, List.mem_cons_of_mem _ hd, e⟩
/-- each knot of the line is a begin -/
theorem knot_begin {n m : Nat} {bs : List Kn} (g : BnG n m bs) {k : Kn} (h : k ∈ (taxLn bs).ks) : ∃ c ∈ bs, c.1 = k.1 := by
  obtain ⟨p, r, rfl, h0, u⟩ := g.f
  rcases List.mem_cons.mp (show k ∈ (p.1, (0 : Rat)) :: nrm (p.1, 0) (bkn 0 p r) (lastR p r) from h) with rfl | h
  · exact ⟨p, List.mem_cons_self .., rfl⟩
  · obtain ⟨d, hd, e⟩ := bkn_begin (mem_nrm h)
    exact ⟨d, List.mem_cons_of_mem _ hd, e⟩
theorem tax_step {n m : Nat} {bs : List Kn} (g : BnG n m bs) {u v : Rat} (u0 : 0 ≤ u) (h : u ≤ v) (hn : ∀ k ∈ bs, ¬ (u < k.1 ∧ k.1 < v)) : tax v bs = tax u bs + rt bs u * (v - u) := by
  obtain ⟨p, r, rfl, h0, up⟩ := g.f
  have a1 := val_tax (x := v) (y := 0) up (by rw [h0]; grind)
  have a2 := val_tax (x := u) (y := 0) up (by rw [h0]; grind)
  have st := val_step (s := lastR p r) (bkn_up (y := 0) (z := 0) up) (show p.1 ≤ u by rw [h0]; exact u0) h fun k hk => by
    obtain ⟨c, hc, e⟩ := bkn_begin hk
    rw [← e]
    exact hn c (List.mem_cons_of_mem _ hc)
  rw [sr_bkn up] at st
  have e : rt (p :: r) u = rtx p r u := rfl
  rw [e]
  grind
theorem exists_max {u : Rat} : ∀ {l : List Rat}, (∃ z ∈ l, z ≤ u) → ∃ w ∈ l, w ≤ u ∧ ∀ z ∈ l, z ≤ u → z ≤ w
  | [], h => by
    obtain ⟨z, hz, _⟩ := h
    cases hz
  | a :: l, h => by
    by_cases c : ∃ z ∈ l, z ≤ u
    · obtain ⟨w, hw, h1, h2⟩ := exists_max c
      by_cases d : a ≤ u ∧ w < a
      · exact ⟨a, List.mem_cons_self .., d.1, fun z hz hu => by
          rcases List.mem_cons.mp hz with rfl | hz
          · exact Rat.le_refl
          · have := h2 z hz hu
            grind⟩
      · exact ⟨w, List.mem_cons_of_mem _ hw, h1, fun z hz hu => by
          rcases List.mem_cons.mp hz with rfl | hz
          · grind
          · exact h2 z hz hu⟩
    · obtain ⟨z, hz, hu⟩ := h
      rcases List.mem_cons.mp hz with rfl | hz
      · exact ⟨z, List.mem_cons_self .., hu, fun y hy hyu => by
          rcases List.mem_cons.mp hy with rfl | hy
          · exact Rat.le_refl
          · exact absurd ⟨y, hy, hyu⟩ c⟩
      · exact absurd ⟨z, hz, hu⟩ c
/-- alike rates at all knots ahead: alike rates everywhere ahead -/
theorem rt_alike {n m n' m' : Nat} {one other : List Kn} (g1 : BnG n m one) (g2 : BnG n' m' other) {P : Rat → Prop} (dn : ∀ x y, x ≤ y → P y → P x) (h : ∀ x, ((∃ k ∈ (taxLn one).ks, k.1 = x) ∨ ∃ k ∈ (taxLn other).ks, k.1 = x) → P x → rt one x = rt other x) {u : Rat} (u0 : 0 ≤ u) (hu : P u) : rt one u = rt other u := by
  obtain ⟨p, r, s, e, p0, _⟩ := rt_sr g1
  obtain ⟨w, hw, h1, h2⟩ := exists_max (u := u) (l := (taxLn one).ks.map (fun k => k.1) ++ (taxLn other).ks.map (fun k => k.1)) ⟨0, List.mem_append_left _ (List.mem_map.mpr ⟨p, by rw [e]; exact List.mem_cons_self .., p0⟩), u0⟩
  have hx : (∃ k ∈ (taxLn one).ks, k.1 = w) ∨ ∃ k ∈ (taxLn other).ks, k.1 = w := by
    rcases List.mem_append.mp hw with c | c
    · exact .inl (List.mem_map.mp c)
    · exact .inr (List.mem_map.mp c)
  rw [rt_const g1 h1 (fun k hk => by have := h2 k.1 (List.mem_append_left _ (List.mem_map.mpr ⟨k, hk, rfl⟩)); grind), rt_const g2 h1 (fun k hk => by have := h2 k.1 (List.mem_append_right _ (List.mem_map.mpr ⟨k, hk, rfl⟩)); grind)]
  exact h w hx (dn w u h1 hu)
/-- alike rates ahead of a sum: as much is taken of it -/
theorem tax_alike {n m n' m' : Nat} {one other : List Kn} (g1 : BnG n m one) (g2 : BnG n' m' other) {e : Rat} (h : ∀ x, 0 ≤ x → x < e → rt one x = rt other x) : ∀ {c : Nat} {u : Rat}, (((one ++ other).map fun k => k.1).filter fun x => decide (x < u)).length ≤ c → 0 ≤ u → u ≤ e → tax u one = tax u other
  | c, u, hc, u0, ue => by
    obtain ⟨p, r, e1, p0, _⟩ := g1.f
    obtain ⟨p', r', e2, p0', _⟩ := g2.f
    have z1 : tax 0 one = 0 := by
      rw [e1]
      exact tax_none (by have := g1.f; obtain ⟨a, b, q, _, z⟩ := g1.f; rw [e1] at q; cases q; exact z) (by rw [p0]; exact Rat.le_refl)
    have z2 : tax 0 other = 0 := by
      rw [e2]
      exact tax_none (by obtain ⟨a, b, q, _, z⟩ := g2.f; rw [e2] at q; cases q; exact z) (by rw [p0']; exact Rat.le_refl)
    by_cases cu : u = 0
    · rw [cu, z1, z2]
    · have up : 0 < u := by grind
      -- the greatest begin ahead
      obtain ⟨w, hw, h1, h2⟩ := exists_max (u := u) (l := ((one ++ other).map fun k => k.1).filter fun x => decide (x < u)) ⟨0, List.mem_filter.mpr ⟨List.mem_map.mpr ⟨p, by rw [e1]; simp, p0⟩, by simpa using up⟩, by grind⟩
      obtain ⟨hm, hlt⟩ := List.mem_filter.mp hw
      have hlt : w < u := by simpa using hlt
      have w0 : 0 ≤ w := by
        obtain ⟨k, hk, rfl⟩ := List.mem_map.mp hm
        have nn : ∀ {n m : Nat} {bs : List Kn}, BnG n m bs → k ∈ bs → 0 ≤ k.1 := fun {n m bs} g hk => by
          obtain ⟨p, r, rfl, h0, u⟩ := g.f
          rcases List.mem_cons.mp hk with rfl | h
          · grind
          · have := Up.lt u h
            grind
        rcases List.mem_append.mp hk with c | c
        · exact nn g1 c
        · exact nn g2 c
      have gapn : ∀ k ∈ one ++ other, ¬ (w < k.1 ∧ k.1 < u) := fun k hk z => by
        have := h2 k.1 (List.mem_filter.mpr ⟨List.mem_map.mpr ⟨k, hk, rfl⟩, by simpa using z.2⟩) (by grind)
        grind
      match c, hc with
      | 0, hc =>
        have : (((one ++ other).map fun k => k.1).filter fun x => decide (x < u)) = [] := List.length_eq_zero_iff.mp (by omega)
        rw [this] at hw
        cases hw
      | c + 1, hc =>
        have lt : ((((one ++ other).map fun k => k.1).filter fun x => decide (x < w)).length) < ((((one ++ other).map fun k => k.1).filter fun x => decide (x < u)).length) := by
          have go : ∀ l : List Rat, w ∈ l → ((l.filter fun x => decide (x < w)).length) < ((l.filter fun x => decide (x < u)).length) := fun l => by
            have le : ∀ l : List Rat, ((l.filter fun x => decide (x < w)).length) ≤ ((l.filter fun x => decide (x < u)).length) := fun l => by
              induction l with
              | nil => simp
              | cons a l ih =>
                by_cases c1 : a < w
                · have c2 : a < u := by grind
                  simp [c1, c2]
                  exact ih
                · by_cases c2 : a < u
                  · simp [c1, c2]
                    omega
                  · simp [c1, c2]
                    exact ih
            induction l with
            | nil => intro h; cases h
            | cons a l ih =>
              intro hm
              by_cases c0 : a = w
              · subst c0
                have := le l
                simp [hlt, show ¬ a < a by grind]
                omega
              · have hm : w ∈ l := by
                  rcases List.mem_cons.mp hm with h | h
                  · exact absurd h.symm c0
                  · exact h
                have := ih hm
                by_cases c1 : a < w
                · have c2 : a < u := by grind
                  simp [c1, c2]
                  exact this
                · by_cases c2 : a < u
                  · simp [c1, c2]
                    omega
                  · simp [c1, c2]
                    exact this
          exact go _ hm
        have ih := tax_alike g1 g2 h (c := c) (u := w) (by omega) w0 (by grind)
        rw [tax_step g1 w0 (show w ≤ u by grind) (fun k hk => gapn k (List.mem_append_left _ hk)), tax_step g2 w0 (show w ≤ u by grind) (fun k hk => gapn k (List.mem_append_right _ hk)), ih, h w w0 (by grind)]
/-! ### without a band whose rate is that ahead of it -/
def nmB (b : Kn) : List Kn → List Kn
  | [] => []
  | c :: r => if b.2 = c.2 then nmB c r else c :: nmB c r
def nmL : List Kn → List Kn
  | [] => []
  | b :: r => b :: nmB b r
theorem nmB_rate : ∀ {b b' : Kn} {r : List Kn}, b.2 = b'.2 → nmB b r = nmB b' r
  | b, b', [], _ => rfl
  | b, b', c :: r, e => by
    unfold nmB
    rw [e]
theorem rtx_rate : ∀ {b b' : Kn} {r : List Kn} {x : Rat}, b.2 = b'.2 → rtx b r x = rtx b' r x
  | b, b', [], x, e => e
  | b, b', c :: r, x, e => by
    unfold rtx
    rw [e]
theorem rtx_ahead : ∀ {b : Kn} {r : List Kn} {x : Rat}, (∀ c ∈ r, x < c.1) → rtx b r x = b.2
  | b, [], x, _ => rfl
  | b, c :: r, x, h => if_pos (h c (List.mem_cons_self ..))
theorem nm_one : ∀ {n : Nat} {b b' : Kn} {r r' : List Kn}, r.length + r'.length ≤ n → Up b r → Up b' r' → b.1 = b'.1 → (∀ x, b.1 ≤ x → rtx b r x = rtx b' r' x) → b.2 = b'.2 ∧ nmB b r = nmB b' r'
  | n, b, b', r, r', hn, u, u', e, h => by
    have e2 : b.2 = b'.2 := by
      have := h b.1 Rat.le_refl
      rwa [rtx_ahead fun c hc => Up.lt u hc, rtx_ahead fun c hc => by rw [e]; exact Up.lt u' hc] at this
    refine ⟨e2, ?_⟩
    -- a band of the rate ahead falls away
    have drop1 : ∀ {b c : Kn} {t : List Kn}, Up b (c :: t) → b.2 = c.2 → ∀ x, b.1 ≤ x → rtx b (c :: t) x = rtx b t x := fun {b c t} u e x hx => by
      show (if x < c.1 then b.2 else rtx c t x) = _
      by_cases d : x < c.1
      · rw [if_pos d]
        exact (rtx_ahead fun k hk => by have := Up.lt u.2 hk; grind).symm
      · rw [if_neg d]
        exact (rtx_rate e).symm
    match n, r, r', hn with
    | n, [], [], _ => rfl
    | n, c :: t, r', hn =>
      by_cases d : b.2 = c.2
      · match n, hn with
        | n + 1, hn =>
          have ih := (nm_one (n := n) (b := b) (b' := b') (r := t) (r' := r') (by simp at hn; omega) u.skip u' e (fun x hx => by rw [← drop1 u d x hx]; exact h x hx)).2
          have : nmB b (c :: t) = nmB b t := by
            show (if b.2 = c.2 then nmB c t else _) = _
            rw [if_pos d, nmB_rate d]
          rw [this]
          exact ih
        | 0, hn => simp at hn
      · match r', u', h, hn with
        | [], u', h, hn =>
          have := h c.1 (by have := u.1; grind)
          rw [show rtx b (c :: t) c.1 = rtx c t c.1 from if_neg (by grind), rtx_ahead fun k hk => Up.lt u.2 hk] at this
          exact absurd (e2.trans this.symm) d
        | c' :: t', u', h, hn =>
          by_cases d' : b'.2 = c'.2
          · match n, hn with
            | n + 1, hn =>
              have ih := (nm_one (n := n) (b := b) (b' := b') (r := c :: t) (r' := t') (by simp at hn ⊢; omega) u u'.skip e (fun x hx => by rw [← drop1 u' d' x (by rw [← e]; exact hx)]; exact h x hx)).2
              have : nmB b' (c' :: t') = nmB b' t' := by
                show (if b'.2 = c'.2 then nmB c' t' else _) = _
                rw [if_pos d', nmB_rate d']
              rw [this]
              exact ih
            | 0, hn => simp at hn
          · have ec : c.1 = c'.1 := by
              have u1 := u.1
              have u1' := u'.1
              rcases (by grind : c.1 < c'.1 ∨ c'.1 < c.1 ∨ c.1 = c'.1) with g | g | g
              · have := h c.1 (by grind)
                rw [show rtx b (c :: t) c.1 = rtx c t c.1 from if_neg (by grind), rtx_ahead fun k hk => Up.lt u.2 hk, show rtx b' (c' :: t') c.1 = b'.2 from if_pos g] at this
                exact absurd (e2.trans this.symm) d
              · have := h c'.1 (by grind)
                rw [show rtx b' (c' :: t') c'.1 = rtx c' t' c'.1 from if_neg (by grind), rtx_ahead fun k hk => Up.lt u'.2 hk, show rtx b (c :: t) c'.1 = b.2 from if_pos g] at this
                exact absurd (e2.symm.trans this) d'
              · exact g
            match n, hn with
            | n + 1, hn =>
              have ih := nm_one (n := n) (b := c) (b' := c') (r := t) (r' := t') (by simp at hn; omega) u.2 u'.2 ec (fun x hx => by
                have u1 := u.1
                have z := h x (by grind)
                rw [show rtx b (c :: t) x = rtx c t x from if_neg (by grind), show rtx b' (c' :: t') x = rtx c' t' x from if_neg (by grind)] at z
                exact z)
              show (if b.2 = c.2 then _ else c :: nmB c t) = if b'.2 = c'.2 then _ else c' :: nmB c' t'
              rw [if_neg d, if_neg d', ih.2, show c = c' from Prod.ext ec ih.1]
            | 0, hn => simp at hn
    | n, [], c' :: t', hn =>
      by_cases d' : b'.2 = c'.2
      · match n, hn with
        | n + 1, hn =>
          have ih := (nm_one (n := n) (b := b) (b' := b') (r := []) (r' := t') (by simp at hn ⊢; omega) u u'.skip e (fun x hx => by rw [← drop1 u' d' x (by rw [← e]; exact hx)]; exact h x hx)).2
          have : nmB b' (c' :: t') = nmB b' t' := by
            show (if b'.2 = c'.2 then nmB c' t' else _) = _
            rw [if_pos d', nmB_rate d']
          rw [this]
          exact ih
        | 0, hn => simp at hn
      · have := h c'.1 (by have := u'.1; grind)
        rw [show rtx b' (c' :: t') c'.1 = rtx c' t' c'.1 from if_neg (by grind), rtx_ahead fun k hk => Up.lt u'.2 hk] at this
        exact absurd (e2.symm.trans this) d'
theorem nmL_one {n m n' m' : Nat} {one other : List Kn} (g1 : BnG n m one) (g2 : BnG n' m' other) (h : ∀ x, 0 ≤ x → rt one x = rt other x) : nmL one = nmL other := by
  obtain ⟨p, r, rfl, p0, u⟩ := g1.f
  obtain ⟨p', r', rfl, p0', u'⟩ := g2.f
  obtain ⟨h1, h2⟩ := nm_one (n := r.length + r'.length) (Nat.le_refl _) u u' (by rw [p0, p0']) (fun x hx => h x (by rw [p0] at hx; exact hx))
  show p :: nmB p r = p' :: nmB p' r'
  rw [h2, show p = p' from Prod.ext (by rw [p0, p0']) h1]
/-- the rate of the last band that begins no later -/
theorem rate_at_of : ∀ {b : Kn} {r : List Kn} {x : Rat}, Up b r → b.1 ≤ x → ∃ l k, ((b :: r).filter fun c => decide (¬ x < c.1)) = l ++ [k] ∧ k.2 = rtx b r x
  | b, [], x, _, h => ⟨[], b, by simp; grind, rfl⟩
  | b, c :: r, x, u, h => by
    by_cases d : x < c.1
    · refine ⟨[], b, ?_, (if_pos d).symm⟩
      have : (c :: r).filter (fun c => decide (¬ x < c.1)) = [] := List.filter_eq_nil_iff.mpr fun k hk => by
        rcases List.mem_cons.mp hk with rfl | hk
        · simpa using d
        · have := Up.lt u.2 hk
          simp
          grind
      rw [List.filter_cons_of_pos (by simp; grind), this]
      rfl
    · obtain ⟨l, k, e1, e2⟩ := rate_at_of u.2 (show c.1 ≤ x by grind)
      refine ⟨b :: l, k, ?_, ?_⟩
      · rw [List.filter_cons_of_pos (by simp; grind), e1]
        rfl
      · rw [e2]
        exact (if_neg d).symm
/-- the greatest sum up to which both take alike -/
def alikeO (one other : List Kn) : Option Rat := (rowX [taxLn one, taxLn other]).find? fun x => decide (rt one x ≠ rt other x)
end Pm

namespace Pm
open PySem PySem.Spec PyProof.Rows L2
/-! ### things of any kind: deep data of tuples and lists, these apart from two lists that change -/
inductive JD (K : PySem.W.Frag) (m n : Addr) (H : Hp) : V → PyData → Prop
  | int (i : Int) : JD K m n H (.int i) (.int i)
  | bl (b : Bool) : JD K m n H (.bl b) (.bool b)
  | non : JD K m n H .non .none
  | str (z : Str) : JD K m n H (.str z) (.str z)
  | tup {p : Addr} {xs : List V} {ds : List PyData} (h : Tp K H p xs) (l : xs.length = ds.length) (a : ∀ (i : Nat) (h1 : i < xs.length) (h2 : i < ds.length), JD K m n H xs[i] ds[i]) : JD K m n H (.ref p) (.tuple ds)
  | lst {p : Addr} {xs : List V} {ds : List PyData} (h : H p = some (.lst xs)) (hm : p ≠ m) (hn : p ≠ n) (l : xs.length = ds.length) (a : ∀ (i : Nat) (h1 : i < xs.length) (h2 : i < ds.length), JD K m n H xs[i] ds[i]) : JD K m n H (.ref p) (.list ds)
structure JL (K : PySem.W.Frag) (m n : Addr) (H : Hp) (xs : List V) (ds : List PyData) : Prop where
  len : xs.length = ds.length
  at_ : ∀ (i : Nat) (h1 : i < xs.length) (h2 : i < ds.length), JD K m n H xs[i] ds[i]
/-- data without lists -/
inductive NL : PyData → Prop
  | int (i : Int) : NL (.int i)
  | bl (b : Bool) : NL (.bool b)
  | non : NL .none
  | str (z : Str) : NL (.str z)
  | tup {ds : List PyData} (a : ∀ (i : Nat) (h : i < ds.length), NL ds[i]) : NL (.tuple ds)
section
variable {K : PySem.W.Frag} {m n : Addr} {H H' : Hp} {v x y z : V} {p : Addr} {xs ys : List V} {d e : PyData} {ds es : List PyData}
theorem JD.fx (h : JD K m n H v d) (e : Fx m n H H') : JD K m n H' v d := by
  induction h with
  | int i => exact .int i
  | bl b => exact .bl b
  | non => exact .non
  | str z => exact .str z
  | tup h l a ih => exact .tup (h.tm (Tm.fx e)) l fun i h1 h2 => ih i h1 h2
  | lst h hm hn l a ih => exact .lst (b_lst e hm hn h) hm hn l fun i h1 h2 => ih i h1 h2
theorem JD.same (h : JD K m n H v d) (e : Same H H') : JD K m n H' v d := h.fx (Fx.same e)
theorem JL.fx (h : JL K m n H xs ds) (e : Fx m n H H') : JL K m n H' xs ds := ⟨h.len, fun i h1 h2 => (h.at_ i h1 h2).fx e⟩
theorem JL.same (h : JL K m n H xs ds) (e : Same H H') : JL K m n H' xs ds := h.fx (Fx.same e)
theorem TD.jd (h : TD K H v d) : JD K m n H v d := by
  induction h with
  | int i => exact .int i
  | bl b => exact .bl b
  | non => exact .non
  | str z => exact .str z
  | tup h l a ih => exact .tup h l fun i h1 h2 => ih i h1 h2
theorem TL.jl (h : TL K H xs ds) : JL K m n H xs ds := ⟨h.len, fun i h1 h2 => (h.at_ i h1 h2).jd⟩
theorem JD.td (h : JD K m n H v d) (g : NL d) : TD K H v d := by
  induction h with
  | int i => exact .int i
  | bl b => exact .bl b
  | non => exact .non
  | str z => exact .str z
  | tup h l a ih =>
    cases g with
    | tup g => exact .tup h l fun i h1 h2 => ih i h1 h2 (g i h2)
  | lst h hm hn l a ih => cases g
theorem JL.td (h : JL K m n H xs ds) (g : ∀ (i : Nat) (hi : i < ds.length), NL ds[i]) : TL K H xs ds := ⟨h.len, fun i h1 h2 => (h.at_ i h1 h2).td (g i h2)⟩
theorem TD.nl (h : TD K H v d) : NL d := by
  induction h with
  | int i => exact .int i
  | bl b => exact .bl b
  | non => exact .non
  | str z => exact .str z
  | tup h l a ih => exact .tup fun i h2 => ih i (by omega) h2
theorem JD.dp (h : JD K m n H v d) : Dp K H v d := by
  induction h with
  | int i => exact .int i
  | bl b => exact .bl b
  | non => exact .non
  | str z => exact .str z
  | tup h l a ih => exact .tup h.sq (dpAll_of l fun i h1 h2 => ih i h1 h2)
  | lst h hm hn l a ih => exact .lst (SqL.of h) (dpAll_of l fun i h1 h2 => ih i h1 h2)
theorem JL.dp (r : JL K m n H xs ds) : DpAll K H xs ds := dpAll_of r.len fun i h1 h2 => (r.at_ i h1 h2).dp
theorem JL.nil : JL K m n H [] [] := ⟨rfl, fun i h1 _ => absurd h1 (Nat.not_lt_zero _)⟩
theorem JL.cons (h : JD K m n H v d) (r : JL K m n H xs ds) : JL K m n H (v :: xs) (d :: ds) := ⟨by simp [r.len], fun i h1 h2 => by
  cases i with
  | zero => exact h
  | succ i => exact r.at_ i (by simpa using h1) (by simpa using h2)⟩
theorem JL.append (r : JL K m n H xs ds) (h : JL K m n H ys es) : JL K m n H (xs ++ ys) (ds ++ es) := ⟨by simp [r.len, h.len], fun i h1 h2 => by
  have l := r.len
  by_cases c : i < xs.length
  · rw [List.getElem_append_left c, List.getElem_append_left (by omega)]
    exact r.at_ i c (by omega)
  · rw [List.getElem_append_right (by omega), List.getElem_append_right (by omega)]
    have e : i - xs.length = i - ds.length := by omega
    simp at h1 h2
    have := h.at_ (i - xs.length) (by omega) (by omega)
    simp only [e] at this ⊢
    exact this⟩
theorem JL.snoc (r : JL K m n H xs ds) (h : JD K m n H v d) : JL K m n H (xs ++ [v]) (ds ++ [d]) := r.append (.cons h .nil)
theorem JL.take (r : JL K m n H xs ds) (k : Nat) : JL K m n H (xs.take k) (ds.take k) := ⟨by simp [r.len], fun i h1 h2 => by
  rw [List.getElem_take, List.getElem_take]
  exact r.at_ _ _ _⟩
theorem JL.drop (r : JL K m n H xs ds) (k : Nat) : JL K m n H (xs.drop k) (ds.drop k) := ⟨by simp [r.len], fun i h1 h2 => by
  rw [List.getElem_drop, List.getElem_drop]
  exact r.at_ _ _ _⟩
theorem JL.rev (r : JL K m n H xs ds) : JL K m n H xs.reverse ds.reverse := ⟨by simp [r.len], fun i h1 h2 => by
  rw [List.getElem_reverse, List.getElem_reverse]
  have l := r.len
  have := r.at_ (xs.length - 1 - i) (by simp at h1; omega) (by simp at h1; omega)
  simp only [l] at this ⊢
  exact this⟩
theorem JL.get (r : JL K m n H xs ds) {i : Nat} (h : xs[i]? = some v) : ∃ d, ds[i]? = some d ∧ JD K m n H v d := by
  obtain ⟨h1, rfl⟩ := List.getElem?_eq_some_iff.mp h
  have l := r.len
  exact ⟨ds[i], List.getElem?_eq_getElem (by omega), r.at_ i h1 (by omega)⟩
theorem JL.to (r : JL K m n H xs ds) {i : Nat} (h : ds[i]? = some d) : ∃ v, xs[i]? = some v ∧ JD K m n H v d := by
  obtain ⟨h1, rfl⟩ := List.getElem?_eq_some_iff.mp h
  have l := r.len
  exact ⟨xs[i], List.getElem?_eq_getElem (by omega), r.at_ i (by omega) h1⟩
theorem JD.tupI (h : JD K m n H v (.tuple ds)) : ∃ p xs, v = .ref p ∧ Tp K H p xs ∧ JL K m n H xs ds := by
  cases h with
  | tup h l a => exact ⟨_, _, rfl, h, l, a⟩
theorem JD.lstI (h : JD K m n H v (.list ds)) : ∃ p xs, v = .ref p ∧ H p = some (.lst xs) ∧ p ≠ m ∧ p ≠ n ∧ JL K m n H xs ds := by
  cases h with
  | lst h hm hn l a => exact ⟨_, _, rfl, h, hm, hn, l, a⟩
theorem JD.intI {i : Int} (h : JD K m n H v (.int i)) : v = .int i := by
  cases h
  rfl
theorem JD.of (h : Tp K H p xs) (r : JL K m n H xs ds) : JD K m n H (.ref p) (.tuple ds) := .tup h r.len r.at_
theorem JD.ofL (h : H p = some (.lst xs)) (hm : p ≠ m) (hn : p ≠ n) (r : JL K m n H xs ds) : JD K m n H (.ref p) (.list ds) := .lst h hm hn r.len r.at_
end
end Pm

namespace Pm
open PySem PySem.Spec PyProof.Rows L2
/-! ### a tuple's slice by the step -1: turned about -/
theorem adjust_rev (n : Nat) : Builtin.Slice.sliceAdjust none none (-1) (n : Int) = ((n : Int) - 1, -1) := rfl
theorem places_rev (n : Nat) : Builtin.Slice.slicePlaces ((n : Int) - 1) (-1) (-1) = n := by
  unfold Builtin.Slice.slicePlaces
  rw [if_neg (by decide)]
  simp only [Int.neg_neg, Int.ediv_one]
  split <;> omega
theorem fm_congr {α β : Type} {f g : α → Option β} : ∀ {l : List α}, (∀ x ∈ l, f x = g x) → l.filterMap f = l.filterMap g
  | [], _ => rfl
  | a :: l, h => by
    rw [List.filterMap_cons, List.filterMap_cons, h a (List.mem_cons_self ..), fm_congr fun x hx => h x (List.mem_cons_of_mem _ hx)]
theorem pick_list {α : Type} : ∀ l : List α, ((List.range l.length).filterMap fun (k : Nat) => l[l.length - 1 - k]?) = l.reverse
  | [] => rfl
  | a :: r => by
    rw [List.length_cons, List.range_succ, List.filterMap_append, List.reverse_cons]
    congr 1
    · rw [← pick_list r]
      refine fm_congr fun k hk => ?_
      have : k < r.length := List.mem_range.mp hk
      rw [show r.length + 1 - 1 - k = (r.length - 1 - k) + 1 by omega, List.getElem?_cons_succ]
    · simp
theorem pick_rev (xs : Array Value) : ((List.range xs.size).filterMap fun (k : Nat) => xs[(((xs.size : Int) - 1) + (k : Int) * (-1)).toNat]?).toArray = xs.toList.reverse.toArray := by
  congr 1
  rw [← pick_list xs.toList]
  refine fm_congr fun k hk => ?_
  have : k < xs.size := List.mem_range.mp hk
  rw [show (((xs.size : Int) - 1) + (k : Int) * (-1)).toNat = xs.size - 1 - k by omega]
  simp
section
variable {prog : Program} {w : World} {A : Around} {E : Value → Shared → Prop} {s : Shared}
theorem sliceApplied_rev {sl : Addr} {t : Tok} {n : Nat} {Q : Int × Int × Nat → Shared → Prop} (hs : s.heap.IsSliceOf sl .none .none (.int (-1) t))
    (h : Q ((n : Int) - 1, -1, n) s) : wpAny (model prog w) A (Builtin.Slice.sliceApplied (.ref sl) (pure (n : Int))) Q E s := by
  obtain ⟨os, hos, hcs, hds⟩ := id hs
  unfold Builtin.Slice.sliceApplied Builtin.Slice.sliceFields
  refine wpAny_bind (wpAny_bind (wpAny_field hos hds (x := .none) rfl (wpAny_bind (wpAny_field hos hds (x := .none) rfl (wpAny_bind (wpAny_field hos hds (x := .int (-1) t) rfl (wpAny_pure ?_)))))))
  refine wpAny_bind (slicePart_int ?_)
  show wpAny _ _ (if ((-1 : Int) == 0) = true then _ else _) _ _ s
  rw [if_neg (by decide)]
  refine wpAny_bind (slicePart_none (wpAny_bind (slicePart_none (wpAny_bind (wpAny_pure ?_)))))
  show wpAny _ _ (match Builtin.Slice.sliceAdjust none none (-1) (n : Int) with | (lo, hi) => pure (lo, (-1 : Int), Builtin.Slice.slicePlaces lo hi (-1))) _ _ s
  rw [adjust_rev n]
  show wpAny _ _ (pure ((n : Int) - 1, (-1 : Int), Builtin.Slice.slicePlaces ((n : Int) - 1) (-1) (-1))) _ _ s
  rw [places_rev]
  exact wpAny_pure h
theorem getItem_tuple_rev {t sl : Addr} {items : Array Value} {u : Tok} {Q : Value → Shared → Prop} (ht : IsTup s.heap t items) (hs : s.heap.IsSliceOf sl .none .none (.int (-1) u))
    (h : Q (.ref s.heap.objs.size) { s with heap := s.heap.push { cls := .type "tuple", data := .seq items.toList.reverse.toArray } })
    (hsz : items.size ≤ sizeLine) : wpAny (model prog w) A (getItem (.ref t) (.ref sl)) Q E s := by
  have htake : sizeOk (.seq items.toList.reverse.toArray) := by
    show items.toList.reverse.toArray.size ≤ sizeLine
    rw [List.size_toArray, List.length_reverse, Array.length_toList]
    exact hsz
  obtain ⟨os, hos, hcs, hds⟩ := id hs
  have hTs : s.TypeIs (.ref sl) "slice" := ⟨os, hos, hcs⟩
  unfold getItem
  try with_reducible refine wpAny_holding ?_
  first | refine wpAny_bind (wpAny_pure ?_) | skip
  refine wpAny_bind (wpAny_sequenceKey ht.typeIs (by decide) ?_)
  refine wpAny_bind (wpAny_callSpecial?_slot (name := Str.ofString "__getitem__") ht.typeIs PyProof.Rows.slot_tuple_getitem
    (wpAny_call_entry PyProof.Rows.slot_tuple_getitem ht.typeIs entry_tuple_getitem ?_ (args_tuple_getitem _ _)))
  show wpAny _ _ (Builtin.Tuple.tupleItemsOf (.ref t) >>= _) _ _ s
  refine wpAny_bind (tupleItemsOf_ ht ?_)
  refine wpAny_bind (wpAny_typeOf hTs ?_)
  rw [if_pos (by decide)]
  refine wpAny_bind (sliceApplied_rev hs ?_)
  have hno : ¬ (((items.size : Int) - 1 == 0 && (-1 : Int) == 1 && items.size == items.size) = true) := by simp
  show wpAny _ _ (if ((items.size : Int) - 1 == 0 && (-1 : Int) == 1 && items.size == items.size) = true then _ else _) _ _ s
  rw [if_neg hno, pick_rev]
  first
    | exact wpAny_bind (m := Builtin.Tuple.tupleExact _) (wpAny_newObj_type (wpAny_pure ⟨_, rfl, wpAny_pure h⟩) htake)
    | exact wpAny_bind (m := Builtin.Tuple.tupleExact _) (wpAny_newObj_type (wpAny_bind (wpAny_pure (wpAny_pure ⟨_, rfl, wpAny_pure h⟩))) htake)
    | exact wpAny_bind (wpAny_bind (m := Builtin.Tuple.tupleExact _) (wpAny_newObj_type (wpAny_pure (wpAny_pure ⟨_, rfl, wpAny_pure h⟩)) htake))
    | exact wpAny_bind (wpAny_bind (m := Builtin.Tuple.tupleExact _) (wpAny_newObj_type (wpAny_pure ⟨_, rfl, wpAny_pure h⟩) htake))
end
section
variable {X : Cx} {K : PySem.W.Frag} {H : Hp} {Q : VK} {p : Addr} {xs : List V} {e st : Expr} {lo hi : Option Expr} {te : TE} {tl th tp : TO} {p2 pos : Pos}
def rRevS (K : PySem.W.Frag) : V → Option Int → Option Int → Option Int → Hp → VK → Prop := fun x lo hi st H Q => lo = none ∧ hi = none ∧ st = some (-1) ∧ ∃ a xs, x = .ref a ∧ SqT K H a xs ∧ ∀ q, H q = none → Q (.ref q) (upd H q (.tup xs.reverse))
def tSlS (r : V → Option Int → Option Int → Option Int → Hp → VK → Prop) (te : TE) (tl th tp : TO) : TE := fun σ H Q => te σ H fun x H1 => tl σ H1 fun l H2 => th σ H2 fun u H3 => tp σ H3 fun c H4 => r x l u c H4 Q
theorem pe_sliceS (K : PySem.W.Frag) (hK : X.K = K := by rfl) (he : PE X e te) (hl : PO X lo tl) (hu : PO X hi th) (hp : PO X (some st) tp) : PE X (.Subscript e (.Slice lo hi (some st) p2) pos) (tSlS (rRevS K) te tl th tp) := by
  subst hK
  refine ⟨fun pins s σ H Q I h => ?_⟩
  refine Subscript_ (thn (he.run pins s σ H _ I h) fun v s1 ⟨x, H1, I1, r1, q1⟩ => ?_)
  refine wpAny_Slice (thn (hl.run pins s1 σ H1 _ I1 q1) fun vl s2 ⟨l, H2, I2, pl, q2⟩ => thn (hu.run pins s2 σ H2 _ I2 q2) fun vu s3 ⟨u, H3, I3, pu, q3⟩ => thn (hp.run pins s3 σ H3 _ I3 q3) fun vc s4 ⟨c, H4, I4, pc, q4⟩ => ?_)
  have I5 : Inv X pins σ H4 { s4 with heap := s4.heap.push { cls := .type "slice", data := .fields #[vl, vu, vc] } } := I4.kept (t' := s4.toks) fun b ob q => Heap.get?_push_of_some _ q
  obtain ⟨rfl, rfl, rfl, a, xs, rfl, hx, q⟩ := q4
  cases pl
  cases pu
  cases pc with
  | int i t =>
  cases r1
  obtain ⟨its, r, ht, hz⟩ := I5.tuple hx
  have hlen : its.toArray.size = xs.length := by rw [List.size_toArray]; exact r.length.symm
  show wpAny (model X.prog X.w) X.A (subscriptTail e (.Slice lo hi (some st) p2) (.ref a) (.ref s4.heap.objs.size)) (EP X pins σ Q) X.xe { s4 with heap := s4.heap.push { cls := .type "slice", data := .fields #[.none, .none, .int (-1) t] } }
  refine tail_any (ops := [.ref a, .ref s4.heap.objs.size]) ht.typeIs PyProof.Rows.slot_tuple_getitem.lookup ?_ (by with_unfolding_all rfl)
  refine getItem_tuple_rev ht (Heap.IsSliceOf.new ..) ?_ (by rw [hlen]; exact hz)
  refine ⟨.ref (s4.heap.push { cls := .type "slice", data := .fields #[.none, .none, .int (-1) t] }).objs.size, _, I5.laid (t' := s4.toks) (o := .tup xs.reverse) (fun b ob q => Heap.get?_push_of_some _ q) (Nat.le_refl _) ?_, rfl, q _ (I5.hok.fresh (Nat.le_refl _))⟩
  refine ⟨by rw [List.length_reverse]; exact hz, _, ?_, IsTup.new _ _⟩
  exact r.reverse
theorem i_revS (h1 : Tp K H p xs) (h : ∀ a H', New H a → Same H H' → TpH H' a xs.reverse → Q (.ref a) H') : rRevS K (.ref p) none none (some (-1)) H Q := ⟨rfl, rfl, rfl, p, xs, rfl, h1.sq, fun q hq => h q _ hq (same_new hq) ⟨upd_same⟩⟩
end
end Pm

namespace Pm
open PySem PySem.Spec PyProof.Rows L2
/-! ### data of small numbers, lines judged by data -/
theorem NL.all {ds : List PyData} (h : ∀ d ∈ ds, NL d) : NL (.tuple ds) := .tup fun i hi => h _ (List.getElem_mem hi)
theorem nl_P (q : Rat) : NL (dP q) := .all fun d hd => by
  simp only [List.mem_cons, List.not_mem_nil, or_false] at hd
  rcases hd with rfl | rfl <;> exact .int _
theorem nl_K (k : Kn) : NL (dK k) := .all fun d hd => by
  simp only [List.mem_cons, List.not_mem_nil, or_false] at hd
  rcases hd with rfl | rfl <;> exact nl_P _
theorem JL.ks {K : PySem.W.Frag} {m n : Addr} {H : Hp} {xs : List V} {ks : List Kn} (h : JL K m n H xs (ks.map dK)) : TL K H xs (ks.map dK) := h.td fun i hi => by
  rw [List.getElem_map]
  exact nl_K _
inductive IB (N : Nat) : PyData → Prop
  | int {i : Int} (h : i.natAbs < 2 ^ N) : IB N (.int i)
  | bl (b : Bool) : IB N (.bool b)
  | non : IB N .none
  | str (z : Str) : IB N (.str z)
  | tup {ds : List PyData} (a : ∀ d ∈ ds, IB N d) : IB N (.tuple ds)
  | lst {ds : List PyData} (a : ∀ d ∈ ds, IB N d) : IB N (.list ds)
theorem IB.tupI {N : Nat} {ds : List PyData} (h : IB N (.tuple ds)) : ∀ d ∈ ds, IB N d := by
  cases h with
  | tup a => exact a
theorem IB.P {N : Nat} {q : Rat} (h : IB N (dP q)) : Bd N q := by
  have a := h.tupI (.int q.num) (by simp)
  have b := h.tupI (.int q.den) (by simp)
  cases a with
  | int a =>
    cases b with
    | int b => exact ⟨a, by simpa using b⟩
theorem IB.ofP {N : Nat} {q : Rat} (h : Bd N q) : IB N (dP q) := .tup fun d hd => by
  simp only [List.mem_cons, List.not_mem_nil, or_false] at hd
  rcases hd with rfl | rfl
  · exact .int h.1
  · exact .int (by simpa using h.2)
theorem IB.K {N : Nat} {k : Kn} (h : IB N (dK k)) : Bd N k.1 ∧ Bd N k.2 := ⟨(h.tupI (dP k.1) (by simp)).P, (h.tupI (dP k.2) (by simp)).P⟩
theorem IB.ofK {N : Nat} {k : Kn} (h1 : Bd N k.1) (h2 : Bd N k.2) : IB N (dK k) := .tup fun d hd => by
  simp only [List.mem_cons, List.not_mem_nil, or_false] at hd
  rcases hd with rfl | rfl
  · exact .ofP h1
  · exact .ofP h2
theorem showAll_of : ∀ {ds : List PyData}, (∀ d ∈ ds, d.showable = true) → PyData.showableAll ds = true
  | [], _ => by simp only [PyData.showableAll]
  | d :: ds, h => by simp only [PyData.showableAll, h d (List.mem_cons_self ..), showAll_of fun e he => h e (List.mem_cons_of_mem _ he), Bool.and_self]
theorem IB.shown {N : Nat} {d : PyData} (h : IB N d) (hN : N ≤ 1919) : d.showable = true := by
  induction h with
  | int h => exact (Ok.int (Nat.lt_of_lt_of_le h (Nat.pow_le_pow_right (by decide) hN))).sh
  | bl b => simp only [PyData.showable]
  | non => simp only [PyData.showable]
  | str z => simp only [PyData.showable]
  | tup a ih =>
    simp only [PyData.showable]
    exact showAll_of ih
  | lst a ih =>
    simp only [PyData.showable]
    exact showAll_of ih
/-- a normal line -/
def GoodLn (l : Ln) : Prop := ∃ k r, l.ks = k :: r ∧ k.1 = 0 ∧ Up k r ∧ nrm k r l.sl = r
noncomputable def isLineD (d : PyData) : Bool := @decide (∃ l, d = dL l ∧ GoodLn l) (Classical.propDecidable _)
theorem isLineD_no {d : PyData} (h : ∀ l, d = dL l → ¬ GoodLn l) : isLineD d = false := @decide_eq_false _ (Classical.propDecidable _) fun ⟨l, e, g⟩ => h l e g
theorem dP_inj {p q : Rat} (h : dP p = dP q) : p = q := by
  have := eqv_P p q
  rw [h, eqv_refl_P] at this
  exact of_decide_eq_true this.symm
theorem dK_inj {j k : Kn} (h : dK j = dK k) : j = k := by
  have e : [dP j.1, dP j.2] = [dP k.1, dP k.2] := PyData.tuple.inj h
  have e1 := (List.cons.inj e).1
  have e2 := (List.cons.inj (List.cons.inj e).2).1
  exact Prod.ext (dP_inj e1) (dP_inj e2)
theorem dKs_inj : ∀ {js ks : List Kn}, js.map dK = ks.map dK → js = ks
  | [], [], _ => rfl
  | [], _ :: _, h => absurd h (by simp)
  | _ :: _, [], h => absurd h (by simp)
  | j :: js, k :: ks, h => by
    have h := List.cons.inj h
    rw [dK_inj h.1, dKs_inj h.2]
theorem dL_inj {l l' : Ln} (h : dL l = dL l') : l = l' := by
  have e : [PyData.tuple (l.ks.map dK), dP l.sl] = [.tuple (l'.ks.map dK), dP l'.sl] := PyData.tuple.inj h
  have e1 := dKs_inj (PyData.tuple.inj (List.cons.inj e).1)
  have e2 := dP_inj (List.cons.inj (List.cons.inj e).2).1
  cases l
  cases l'
  simp at e1 e2
  rw [e1, e2]
theorem isLineD_L (l : Ln) (b : Bool) (h : b = true ↔ GoodLn l) : isLineD (dL l) = b := by
  cases b with
  | true => exact @decide_eq_true _ (Classical.propDecidable _) ⟨l, rfl, h.mp rfl⟩
  | false =>
    refine isLineD_no fun l' e g => ?_
    rw [← dL_inj e] at g
    exact absurd (h.mpr g) (by simp)
theorem eqvAll_K : ∀ js ks : List Kn, PyData.eqvAll (js.map dK) (ks.map dK) = decide (js = ks)
  | [], [] => rfl
  | [], _ :: _ => rfl
  | _ :: _, [] => rfl
  | j :: js, k :: ks => by
    have e : PyData.eqv (dK j) (dK k) = decide (j = k) := by
      have : PyData.eqv (dK j) (dK k) = (PyData.eqv (dP j.1) (dP k.1) && PyData.eqv (dP j.2) (dP k.2)) := by simp [dK, PyData.eqv, PyData.eqvAll]
      rw [this, eqv_P, eqv_P, ← Bool.decide_and]
      exact decide_eq_decide.mpr Prod.ext_iff.symm
    rw [List.map_cons, List.map_cons]
    simp only [PyData.eqvAll]
    rw [e, eqvAll_K, ← Bool.decide_and]
    exact decide_eq_decide.mpr (by simp)
theorem sh_Ks (ks : List Kn) : Sh 3 (.list (ks.map dK)) := .lst (.all fun d hd => by
  obtain ⟨k, _, rfl⟩ := List.mem_map.mp hd
  exact .tup (.cons (sh_P _) (.cons (sh_P _) .nil)))
theorem eqv_Ks (js ks : List Kn) : PyData.eqv (.list (js.map dK)) (.list (ks.map dK)) = decide (js = ks) := by
  simp only [PyData.eqv]
  exact eqvAll_K js ks
theorem nml_iff {s : Rat} : ∀ {p : Kn} {r : List Kn}, Nml p r s → nrm p r s = r
  | p, [], _ => rfl
  | p, k :: r, h => by
    show (if rise p k = fs k r s then nrm p r s else k :: nrm k r s) = k :: r
    rw [if_neg h.1, nml_iff h.2]
/-- knots at which it goes straight on -/
def eqN (l : Ln) (i : Nat) : Nat := ((List.range i).filter fun j => decide (slAt l j = slAt l (j + 1))).length
theorem eqN_yes {l : Ln} {i : Nat} (c : slAt l i = slAt l (i + 1)) : eqN l (i + 1) = eqN l i + 1 := by
  unfold eqN
  rw [List.range_succ, List.filter_append]
  simp [c]
theorem eqN_no {l : Ln} {i : Nat} (c : ¬ slAt l i = slAt l (i + 1)) : eqN l (i + 1) = eqN l i := by
  unfold eqN
  rw [List.range_succ, List.filter_append]
  simp [c]
theorem eqN_le (l : Ln) (i : Nat) : eqN l i ≤ i := by
  unfold eqN
  refine Nat.le_trans (List.length_filter_le ..) (by simp)
theorem good_iff {k : Kn} {r : List Kn} {s : Rat} (k0 : k.1 = 0) (up : Up k r) : GoodLn ⟨k :: r, s⟩ ↔ eqN ⟨k :: r, s⟩ r.length = 0 := by
  constructor
  · rintro ⟨k', r', a, _, u, n⟩
    cases a
    have nm : Nml k r s := by
      have := nml_nrm (s := s) up
      rwa [show nrm k r s = r from n] at this
    unfold eqN
    rw [List.length_eq_zero_iff, List.filter_eq_nil_iff]
    intro j hj
    have := nm.at (i := j) (by simp at hj ⊢; omega)
    simpa using this
  · intro h
    unfold eqN at h
    rw [List.length_eq_zero_iff, List.filter_eq_nil_iff] at h
    refine ⟨k, r, rfl, k0, up, nml_iff (Nml.of fun i hi => ?_)⟩
    have := h i (by simp at hi ⊢; omega)
    simpa using this
theorem Sh.at {n : Nat} {ds : List PyData} (h : Sh n (.tuple ds)) : ∀ d ∈ ds, Sh n d := by
  have h1 := h.cl
  have h2 := h.dp
  simp only [PyData.canLay0, PyData.depth] at h1 h2
  have go : ∀ (es : List PyData) (m : Nat), PyData.canLayAll0 es = true → PyData.depthAll es ≤ m → ∀ d ∈ es, Sh m d := fun es => by
    induction es with
    | nil => intro m _ _ d hd; cases hd
    | cons e es ih =>
      intro m a b d hd
      simp only [PyData.canLayAll0, Bool.and_eq_true] at a
      simp only [PyData.depthAll] at b
      rcases List.mem_cons.mp hd with rfl | hd
      · exact ⟨a.1, by omega⟩
      · exact ih m a.2 (by omega) d hd
  exact go ds n h1 (by omega)
theorem ris_of_up : ∀ {p : Kn} {r : List Kn}, Up p r → Ris p.1 (r.map fun k => k.1)
  | _, [], _ => trivial
  | _, c :: r, u => ⟨u.1, ris_of_up u.2⟩
/-- a line's points with further ones that lie on it: its one normal form -/
theorem refined_one {D : Nat} {l : Ln} (g : LnD D l) {p : Kn} {r : List Kn} (u : Up p r) (p0 : p.1 = 0) (on : ∀ k ∈ p :: r, k.2 = yOf l k.1) (has : ∀ k ∈ l.ks, ∃ c ∈ p :: r, c.1 = k.1) (b : ∀ k ∈ p :: r, Bd 200 k.1 ∧ Bd 200 k.2) (hl : (p :: r).length ≤ 100) : nline p r l.sl = l := by
  have G := g.lng
  have er : ∀ (q : List Kn), (∀ k ∈ q, k.2 = yOf l k.1) → (q.map fun k => k.1).map (fun x => (x, yOf l x)) = q := fun q => by
    induction q with
    | nil => intro _; rfl
    | cons k q ih =>
      intro h
      rw [List.map_cons, List.map_cons, ih fun c hc => h c (List.mem_cons_of_mem _ hc), ← h k (List.mem_cons_self ..)]
  have nn : ∀ x ∈ p.1 :: r.map fun k => k.1, 0 ≤ x := fun x hx => by
    rcases List.mem_cons.mp hx with rfl | hx
    · rw [p0]
      exact Rat.le_refl
    · have := (ris_of_up u).lt hx
      rw [p0] at this
      grind
  have it := itp_of (P := Bd 40) (f := yOf l) (s := l.sl) (ris_of_up u) (fun x hx => by
    obtain ⟨w, h1, h2, h3⟩ := G.step (nn x hx)
    have mem : ∀ k ∈ l.ks, k.1 ∈ p.1 :: r.map fun k => k.1 := fun k hk => by
      obtain ⟨c, hc, e⟩ := has k hk
      rw [← e]
      exact List.mem_map.mpr ⟨c, hc, rfl⟩
    exact ⟨w, h1, fun h => h2 fun k hk => h k.1 (mem k hk), fun v uv h => h3 v uv fun k hk => h k.1 (mem k hk)⟩)
  rw [er r fun k hk => on k (List.mem_cons_of_mem _ hk), show ((p.1, yOf l p.1) : Kn) = p from Prod.ext rfl (on p (List.mem_cons_self ..)).symm] at it
  exact (nline_f (a := 200) (b := 200) (n := 100) it p0 b hl (by decide)).one g.fn
end Pm

namespace Pm
open PySem PySem.Spec PyProof.Rows L2
/-! ### an empty dict, shown -/
def rReprT (K : PySem.W.Frag) : List V → Hp → VK → Prop := fun xs H Q => rReprV K xs H Q ∨ ∃ p, xs = [.ref p] ∧ H p = some (.dK []) ∧ Q (.str (PyData.dict []).shown) H
theorem call_reprT {X : Cx} {k : Nat} (hG : X.A.guards = some []) (hr : Room k X.A) : CallR X (.builtin "repr") (rReprT X.K) := by
  intro pins s σ H xs us Q I r h
  rcases h with h | ⟨p, rfl, hp, q⟩
  · exact call_reprV hG hr pins s σ H xs us Q I r h
  · obtain ⟨u, rfl, ru⟩ := vals1 r
    cases ru
    obtain ⟨_, z, vs, kv, hd⟩ := dk_of I.hok hp
    cases kv
    obtain ⟨o, es, ep, ho, ex, ed, _, pr, _⟩ := hd
    have e0 : es.toList = [] := List.length_eq_zero_iff.mp (by have := pr.length; simpa using this)
    have hR : Reads s.heap (.ref p) (.dict []) [p] := by
      have := Reads.dict (kvs := []) (as := []) (bs := []) ho ex.1 ed (by rw [e0]; exact .nil) (by rw [e0]; exact .nil)
      simpa using this
    have hu := hr.un
    exact repr_of_reads' hR rfl (fun _ m => by
      rw [List.mem_singleton.mp m] at z
      simp at z) hG (by have e : (PyData.dict []).depth = 1 := rfl; omega) (fun _ _ e => e) (fun h' u tk hk => ⟨.str _, H, I.kept hk, ⟨_, rfl⟩, q⟩) (by decide +kernel)
theorem k_reprT {X : Cx} {k : Nat} (K : PySem.W.Frag) (hG : X.A.guards = some []) (hr : Room k X.A) (hK : X.K = K := by rfl) : CallR X (.builtin "repr") (rReprT K) := by subst hK; exact call_reprT hG hr
theorem i_reprT {K : PySem.W.Frag} {H : Hp} {Q : VK} {v : V} {d : PyData} {n m : Nat} (h1 : Dp K H v d) (h2 : Ok n m d) (hn : n ≤ 60) (hm : m ≤ 16000000) (h : Q (.str d.shown) H) : rReprT K [v] H Q := .inl (i_reprV h1 h2 hn hm h)
theorem i_reprE {K : PySem.W.Frag} {H : Hp} {Q : VK} {p : Addr} (h1 : H p = some (.dK [])) (h : Q (.str (PyData.dict []).shown) H) : rReprT K [.ref p] H Q := .inr ⟨p, rfl, h1, h⟩
/-! ### a call of one of several defs -/
def tCallE (tf : TE) (S : Addr → List V → Sp → Prop) (E : XK) (t : TA) : TE := fun σ H Q => tf σ H fun x H1 => ∃ (f : Addr) (dvs : List V) (sp : Sp), x = .ref f ∧ S f dvs sp ∧ t σ H1 fun vs H2 => sp (vs ++ dvs) H2 Q E
section
variable {X : Cx} {CX : CXT} {k : Nat} {fe : Expr} {tf : TE} {S : Addr → List V → Sp → Prop} {E : XK} {pos : Pos} {e : Expr} {es : List Expr} {t : TA}
theorem pe_callE (O : ∀ f dvs sp, S f dvs sp → ∃ k' ps, k' ≤ k ∧ OwnFd X.prog X.w X.K X.mg X.base CX k' f ps dvs sp) (hf : PE X fe tf) (hG : X.A.guards = some []) (hr : Room k X.A) (hx : Passes CX X E) (ha : PA X (e :: es) t)
    (hev : eval (.Call fe (e :: es) [] pos) X.env = (do callWith pos (← eval fe X.env) [] (backTo pos (starEach (e :: es) X.env)) (backToKw pos (keywordEach [] X.env))) := by rfl)
    (he : starEach (e :: es) X.env = (false, eval e X.env) :: starEach es X.env := by rfl) (hpl : (backTo pos (starEach es X.env)).any (·.1) = false := by rfl) : PE X (.Call fe (e :: es) [] pos) (tCallE tf S E t) := by
  refine ⟨fun pins s σ H Q I h => ?_⟩
  rw [hev]
  refine wpAny_bind (thn (hf.run pins s σ H _ I h) ?_)
  rintro u s1 ⟨v, H1, I1, r1, f, dvs, sp, rfl, hS, ht⟩
  cases r1
  obtain ⟨k', ps, hk', O'⟩ := O f dvs sp hS
  obtain ⟨fd, ds, F, hk, hb, hd⟩ := O'.ex
  refine PySem.W.callWith_K (h₀ := X.base) I1.ok.mod.kin hk (thn (ha.run pos pins s1 σ _ _ I1 ht) ?_) he hpl
  rintro us s2 ⟨vs, H2, I2, r, q⟩
  have r2 := r.append hd
  exact ⟨I2.kIn, runG F hG (hr.mono hk') (hb s2 us I2.kIn (by rw [← r2.length]; exact F.len _ _ _ _ q)) hx I2 r2 q⟩
end
end Pm

namespace Pm
open PySem PySem.Spec PyProof.Rows L2
/-! ### what is shown alike is alike -/
abbrev cp (d : PyData) : List Nat := d.shown.cps.toList
def moreT : List PyData → List Nat
  | [] => [41]
  | d :: r => 44 :: 32 :: (cp d ++ moreT r)
def tlT : List PyData → List Nat
  | [] => [41]
  | [a] => cp a ++ [44, 41]
  | a :: b :: r => cp a ++ moreT (b :: r)
theorem join_more : ∀ (a : PyData) (r : List PyData), (Str.join ", " (PyData.shownAll (a :: r))).cps.toList ++ [41] = cp a ++ moreT r
  | a, [] => by
    simp only [PyData.shownAll, join_one, moreT]
  | a, b :: r => by
    have ih := join_more b r
    simp only [PyData.shownAll] at ih ⊢
    rw [join_cons_cons, cps_toList_append, cps_toList_append, signs_sep, List.append_assoc, List.append_assoc, ih]
    rfl
theorem cp_tup : ∀ ds : List PyData, cp (.tuple ds) = 40 :: tlT ds
  | [] => by decide +kernel
  | [a] => by
    show (PyData.tuple [a]).shown.cps.toList = _
    rw [PyData.shown_tuple, cps_toList_append, cps_toList_append, signs_lparen, signs_tuple_end]
    simp only [PyData.shownAll, join_one, List.length_singleton, tlT]
    rfl
  | a :: b :: r => by
    show (PyData.tuple (a :: b :: r)).shown.cps.toList = _
    have e := join_more a (b :: r)
    rw [PyData.shown_tuple, cps_toList_append, cps_toList_append, signs_lparen, signs_tuple_end, if_neg (by simp [PyData.shownAll]), List.append_assoc, e]
    rfl
theorem cp_lst (ds : List PyData) : ∃ t, cp (.list ds) = 91 :: t := by
  have e : (PyData.list ds).shown.cps.toList = [91] ++ (Str.join ", " (PyData.shownAll ds)).cps.toList ++ (("]" : String) : Str).cps.toList := by
    rw [PyData.shown_list, cps_toList_append, cps_toList_append, signs_lbrack]
  exact ⟨_, e⟩
def Num (c : Nat) : Prop := c = 45 ∨ (48 ≤ c ∧ c ≤ 57)
theorem cp_num (i : Int) : ∀ c ∈ cp (.int i), Num c := fun c hc => by
  refine Classical.byContradiction fun h => ?_
  unfold Num at h
  exact shown_int_free' (k := c) ⟨by omega, by omega⟩ i hc
theorem cp_int (i : Int) : cp (.int i) = (toString i).toList.map Char.toNat := by
  show (PyData.int i).shown.cps.toList = _
  rw [PyData.shown_int]
  exact signs_ofString _
theorem cp_ne (i : Int) : cp (.int i) ≠ [] := by
  rw [cp_int]
  intro h
  have h := List.map_eq_nil_iff.mp h
  have e : toString i = "" := String.toList_eq_nil_iff.mp h
  have e : Int.repr i = "" := e
  cases i with
  | ofNat n => exact Nat.repr_ne_empty e
  | negSucc n =>
    have e : "-" ++ (n + 1).repr = "" := e
    have := congrArg String.length e
    rw [String.length_append] at this
    have l : "-".length = 1 := by decide
    have l0 : "".length = 0 := by decide
    omega
theorem map_inj : ∀ {a b : List Char}, a.map Char.toNat = b.map Char.toNat → a = b
  | [], [], _ => rfl
  | [], b :: bs, h => by cases h
  | a :: as, [], h => by cases h
  | a :: as, b :: bs, h => by
    simp only [List.map_cons, List.cons.injEq] at h
    rw [map_inj h.2, Char.toNat_inj.mp h.1]
theorem cp_int_inj {i j : Int} (h : cp (.int i) = cp (.int j)) : i = j := by
  rw [cp_int, cp_int] at h
  exact Int.repr_injective (String.toList_inj.mp (map_inj h))
def Stop (s : List Nat) : Prop := s = [] ∨ ∃ t, s = 44 :: t ∨ s = 41 :: t
theorem num_split : ∀ {a b s s' : List Nat}, (∀ c ∈ a, Num c) → (∀ c ∈ b, Num c) → Stop s → Stop s' → a ++ s = b ++ s' → a = b ∧ s = s'
  | [], [], s, s', _, _, _, _, h => ⟨rfl, h⟩
  | [], b :: bs, s, s', _, hb, hs, _, h => by
    have n := hb b (List.mem_cons_self ..)
    unfold Num at n
    have h : s = b :: (bs ++ s') := h
    rcases hs with e | ⟨t, e | e⟩ <;> rw [e] at h
    · cases h
    · cases h; omega
    · cases h; omega
  | a :: as, [], s, s', ha, _, _, hs, h => by
    have n := ha a (List.mem_cons_self ..)
    unfold Num at n
    have h : a :: (as ++ s) = s' := h
    rcases hs with e | ⟨t, e | e⟩ <;> rw [e] at h
    · cases h
    · cases h; omega
    · cases h; omega
  | a :: as, b :: bs, s, s', ha, hb, hs, hs', h => by
    have h : a :: (as ++ s) = b :: (bs ++ s') := h
    injection h with h1 h2
    obtain ⟨e1, e2⟩ := num_split (fun c hc => ha c (List.mem_cons_of_mem _ hc)) (fun c hc => hb c (List.mem_cons_of_mem _ hc)) hs hs' h2
    exact ⟨by rw [h1, e1], e2⟩
/-- data without texts (but none) and dicts -/
inductive Pl : PyData → Prop
  | int (i : Int) : Pl (.int i)
  | bl (b : Bool) : Pl (.bool b)
  | non : Pl .none
  | str : Pl (.str (Str.ofString ""))
  | tup {ds : List PyData} (a : ∀ d ∈ ds, Pl d) : Pl (.tuple ds)
  | lst {ds : List PyData} (a : ∀ d ∈ ds, Pl d) : Pl (.list ds)
/-- tuples of whole numbers -/
inductive NTu : PyData → Prop
  | int (i : Int) : NTu (.int i)
  | tup {ds : List PyData} (a : ∀ d ∈ ds, NTu d) : NTu (.tuple ds)
/-- how it begins -/
theorem pl_head {d : PyData} (h : Pl d) : ∃ c t, cp d = c :: t ∧ c ≠ 41 ∧ c ≠ 44 ∧ ((∃ i, d = .int i) ∨ ¬ Num c) ∧ ((∃ ds, d = .tuple ds) ∨ c ≠ 40) := by
  cases h with
  | int i =>
    cases e : cp (.int i) with
    | nil => exact absurd e (cp_ne i)
    | cons c t =>
      have n := cp_num i c (by rw [e]; exact List.mem_cons_self ..)
      unfold Num at n
      exact ⟨c, t, rfl, by omega, by omega, .inl ⟨i, rfl⟩, .inr (by omega)⟩
  | bl b =>
    cases b
    · exact ⟨70, [97, 108, 115, 101], by decide +kernel, by decide, by decide, .inr (by unfold Num; decide), .inr (by decide)⟩
    · exact ⟨84, [114, 117, 101], by decide +kernel, by decide, by decide, .inr (by unfold Num; decide), .inr (by decide)⟩
  | non => exact ⟨78, [111, 110, 101], by decide +kernel, by decide, by decide, .inr (by unfold Num; decide), .inr (by decide)⟩
  | str => exact ⟨39, [39], by decide +kernel, by decide, by decide, .inr (by unfold Num; decide), .inr (by decide)⟩
  | @tup ds a => exact ⟨40, tlT ds, cp_tup ds, by decide, by decide, .inr (by unfold Num; decide), .inl ⟨ds, rfl⟩⟩
  | @lst ds a =>
    obtain ⟨t, e⟩ := cp_lst ds
    exact ⟨91, t, e, by decide, by decide, .inr (by unfold Num; decide), .inr (by decide)⟩
theorem more_stop : ∀ (r : List PyData) (s : List Nat), Stop (moreT r ++ s)
  | [], s => .inr ⟨s, .inr rfl⟩
  | d :: r, s => .inr ⟨_, .inl rfl⟩
abbrev InjAt (e : PyData) : Prop := ∀ d, Pl d → ∀ s s', Stop s → Stop s' → cp d ++ s = cp e ++ s' → d = e ∧ s = s'
theorem more_inj : ∀ {es : List PyData}, (∀ e ∈ es, InjAt e) → ∀ {ds : List PyData}, (∀ d ∈ ds, Pl d) → ∀ {s s' : List Nat}, Stop s → Stop s' → moreT ds ++ s = moreT es ++ s' → ds = es ∧ s = s'
  | [], _, [], _, s, s', _, _, h => by
    have h : 41 :: s = 41 :: s' := h
    injection h with _ h
    exact ⟨rfl, h⟩
  | [], _, d :: ds, _, s, s', _, _, h => by
    have h : 44 :: (32 :: (cp d ++ moreT ds) ++ s) = 41 :: s' := h
    injection h with h _
    cases h
  | e :: es, _, [], _, s, s', _, _, h => by
    have h : 41 :: s = 44 :: (32 :: (cp e ++ moreT es) ++ s') := h
    injection h with h _
    cases h
  | e :: es, he, d :: ds, hd, s, s', hs, hs', h => by
    have h : 44 :: 32 :: ((cp d ++ moreT ds) ++ s) = 44 :: 32 :: ((cp e ++ moreT es) ++ s') := h
    injection h with _ h
    injection h with _ h
    rw [List.append_assoc, List.append_assoc] at h
    obtain ⟨e1, h2⟩ := he e (List.mem_cons_self ..) d (hd d (List.mem_cons_self ..)) _ _ (more_stop ds s) (more_stop es s') h
    obtain ⟨e2, e3⟩ := more_inj (fun e h => he e (List.mem_cons_of_mem _ h)) (fun d h => hd d (List.mem_cons_of_mem _ h)) hs hs' h2
    exact ⟨by rw [e1, e2], e3⟩
theorem tl_inj {es : List PyData} (he : ∀ e ∈ es, InjAt e) (pe : ∀ e ∈ es, Pl e) {ds : List PyData} (hd : ∀ d ∈ ds, Pl d) {s s' : List Nat} (hs : Stop s) (hs' : Stop s') (h : tlT ds ++ s = tlT es ++ s') : ds = es ∧ s = s' := by
  match es, ds with
  | [], [] =>
    have h : 41 :: s = 41 :: s' := h
    injection h with _ h
    exact ⟨rfl, h⟩
  | [], d :: ds =>
    obtain ⟨c, t, ec, n1, _⟩ := pl_head (hd d (List.mem_cons_self ..))
    cases ds with
    | nil =>
      have h : (cp d ++ [44, 41]) ++ s = 41 :: s' := h
      rw [ec] at h
      injection h with h _
      exact absurd h n1
    | cons b r =>
      have h : (cp d ++ moreT (b :: r)) ++ s = 41 :: s' := h
      rw [ec] at h
      injection h with h _
      exact absurd h n1
  | e :: es, [] =>
    obtain ⟨c, t, ec, n1, _⟩ := pl_head (pe e (List.mem_cons_self ..))
    cases es with
    | nil =>
      have h : 41 :: s = (cp e ++ [44, 41]) ++ s' := h
      rw [ec] at h
      injection h with h _
      exact absurd h.symm n1
    | cons b r =>
      have h : 41 :: s = (cp e ++ moreT (b :: r)) ++ s' := h
      rw [ec] at h
      injection h with h _
      exact absurd h.symm n1
  | [e], [d] =>
    have h : (cp d ++ [44, 41]) ++ s = (cp e ++ [44, 41]) ++ s' := h
    rw [List.append_assoc, List.append_assoc] at h
    obtain ⟨e1, h2⟩ := he e (List.mem_cons_self ..) d (hd d (List.mem_cons_self ..)) _ _ (.inr ⟨_, .inl rfl⟩) (.inr ⟨_, .inl rfl⟩) h
    have h2 : 44 :: 41 :: s = 44 :: 41 :: s' := h2
    injection h2 with _ h2
    injection h2 with _ h2
    exact ⟨by rw [e1], h2⟩
  | [e], d :: b :: r =>
    have h : (cp d ++ moreT (b :: r)) ++ s = (cp e ++ [44, 41]) ++ s' := h
    rw [List.append_assoc, List.append_assoc] at h
    obtain ⟨e1, h2⟩ := he e (List.mem_cons_self ..) d (hd d (List.mem_cons_self ..)) _ _ (more_stop _ s) (.inr ⟨_, .inl rfl⟩) h
    have h2 : 44 :: 32 :: ((cp b ++ moreT r) ++ s) = 44 :: 41 :: s' := h2
    injection h2 with _ h2
    injection h2 with h2 _
    cases h2
  | e :: b :: r, [d] =>
    have h : (cp d ++ [44, 41]) ++ s = (cp e ++ moreT (b :: r)) ++ s' := h
    rw [List.append_assoc, List.append_assoc] at h
    obtain ⟨e1, h2⟩ := he e (List.mem_cons_self ..) d (hd d (List.mem_cons_self ..)) _ _ (.inr ⟨_, .inl rfl⟩) (more_stop _ s') h
    have h2 : 44 :: 41 :: s = 44 :: 32 :: ((cp b ++ moreT r) ++ s') := h2
    injection h2 with _ h2
    injection h2 with h2 _
    cases h2
  | e :: b :: r, d :: b' :: r' =>
    have h : (cp d ++ moreT (b' :: r')) ++ s = (cp e ++ moreT (b :: r)) ++ s' := h
    rw [List.append_assoc, List.append_assoc] at h
    obtain ⟨e1, h2⟩ := he e (List.mem_cons_self ..) d (hd d (List.mem_cons_self ..)) _ _ (more_stop _ s) (more_stop _ s') h
    obtain ⟨e2, e3⟩ := more_inj (fun e h => he e (List.mem_cons_of_mem _ h)) (fun d h => hd d (List.mem_cons_of_mem _ h)) hs hs' h2
    exact ⟨by rw [e1, e2], e3⟩
theorem NTu.pl {d : PyData} (h : NTu d) : Pl d := by
  induction h with
  | int i => exact .int i
  | tup a ih => exact .tup ih
theorem NTu.inj {e : PyData} (h : NTu e) : InjAt e := by
  induction h with
  | int j =>
    intro d hd s s' hs hs' h
    obtain ⟨c, t, ec, _, _, n, _⟩ := pl_head hd
    rcases n with ⟨i, rfl⟩ | n
    · obtain ⟨e1, e2⟩ := num_split (cp_num i) (cp_num j) hs hs' h
      exact ⟨by rw [cp_int_inj e1], e2⟩
    · cases ej : cp (.int j) with
      | nil => exact absurd ej (cp_ne j)
      | cons c' t' =>
        rw [ec, ej] at h
        injection h with h _
        rw [h] at n
        exact absurd (cp_num j c' (by rw [ej]; exact List.mem_cons_self ..)) n
  | @tup es a ih =>
    intro d hd s s' hs hs' h
    obtain ⟨c, t, ec, _, _, _, n⟩ := pl_head hd
    rw [cp_tup] at h
    rcases n with ⟨ds, rfl⟩ | n
    · rw [cp_tup] at h
      injection h with _ h
      have hd : ∀ d ∈ ds, Pl d := by
        cases hd with
        | tup a => exact a
      obtain ⟨e1, e2⟩ := tl_inj ih (fun e he => (a e he).pl) hd hs hs' h
      exact ⟨by rw [e1], e2⟩
    · rw [ec] at h
      injection h with h _
      exact absurd h n
theorem shown_inj {d e : PyData} (hd : Pl d) (he : NTu e) (h : d.shown = e.shown) : d = e := (he.inj d hd [] [] (.inl rfl) (.inl rfl) (by
  show d.shown.cps.toList ++ [] = e.shown.cps.toList ++ []
  rw [h])).1
theorem shown_dict {e : PyData} (he : NTu e) : (PyData.dict []).shown ≠ e.shown := fun h => by
  have h : (PyData.dict []).shown.cps.toList = cp e := by rw [h]
  obtain ⟨c, t, ec, _, _, n, n2⟩ := pl_head he.pl
  have h0 : (PyData.dict []).shown.cps.toList = [123, 125] := by decide +kernel
  rw [h0, ec] at h
  injection h with h _
  subst h
  cases he with
  | int i => exact absurd (cp_num i 123 (by rw [ec]; exact List.mem_cons_self ..)) (by unfold Num; decide)
  | @tup ds a =>
    rw [cp_tup] at ec
    injection ec with ec _
    cases ec
end Pm

namespace Pm
open PySem PySem.Spec PyProof.Rows L2
/-! ### sets of whole numbers by comprehensions, of one clause and of two -/
/-- what a clause's turn does behind its tests, whatever that is -/
abbrev SBody := Value → Env → Sem PySem.Fin → Sem PySem.Fin
/-- the turn of a set comprehension's clause k with the body left open -/
structure TurnIs (prog : Program) (w : World) (e : Expr) (k : Nat) (tg iter : Expr) (ifs : List Expr) (body : SBody) : Prop where
  eq : ∀ (it acc : Value) (env : Env), compTurn e k it acc env = (do
      standAt iter.pos
      match ← pyNext it with
      | none => pure (.done .next)
      | some v =>
        letOwnedTupleGo tg it v
        assign tg env v
        let mut ok := true
        for c in ifs do
          if ok then ok ← isTrue c env (eval c env)
        if ok then body acc env (again (.compLoop e k it acc env)) else again (.compLoop e k it acc env))
  quiet : ∀ (it acc : Value) (env : Env), (Code.compLoop e k it acc env).quiet = true
  under : ∀ (A : Around) (it acc : Value) (env : Env), A.under (.compLoop e k it acc env) = A
  den : ∀ (it acc : Value) (env : Env), (model prog w).den (.compLoop e k it acc env) = (compTurn e k it acc env).onRaise (fun x => do noteFrame x env; theTreesLotGoes x)
section
variable {prog : Program} {w : World} {A : Around} {R : Result → Shared → Prop} {s : Shared} {e tg iter : Expr} {ifs : List Expr} {k : Nat} {body : SBody} {it acc : Value} {env : Env}
theorem loop_is (ht : TurnIs prog w e k tg iter ifs body) (I : Nat → Shared → Prop)
    (turn : ∀ n s, I n s → wpAny (model prog w) A (pyNext it) (fun r s₁ => match r with
      | none => R (.ok .next) s₁
      | some v => wpAny (model prog w) A (letOwnedTupleGo tg it v) (fun _ s₂ => wpAny (model prog w) A (assign tg env v) (fun _ s₃ =>
          wpAny (model prog w) A (forIn ifs true fun c r => if r = true then do let ok ← isTrue c env (eval c env); pure (ForInStep.yield ok) else pure (ForInStep.yield r)) (fun ok s₄ =>
            if ok = true then wpAny (model prog w) A (body acc env (again (.compLoop e k it acc env))) (fun f s₅ => f = .again (.compLoop e k it acc env) ∧ ∃ m, m < n ∧ I m s₅) (fun _ _ => False) s₄
            else ∃ m, m < n ∧ I m s₄) (fun _ _ => False) s₃) (fun _ _ => False) s₂) (fun _ _ => False) s₁) (fun _ _ => False) s)
    (n : Nat) (h : I n s) : codeAny (model prog w) A (.compLoop e k it acc env) R s := by
  refine codeAny_loop (ht.quiet it acc env) I (fun n s hI => ?_) n h
  rw [ht.under, ht.den]
  refine wpAny_noted ?_
  rw [ht.eq it acc env]
  refine wpAny_bind (wpAny_standAt (wpAny_bind (wpAny_mono (turn n s hI) (fun r s₁ h₁ => ?_) fun _ _ z => z.elim)))
  cases r with
  | none => exact wpAny_pure h₁
  | some v =>
    refine wpAny_bind (wpAny_mono h₁ (fun _ s₂ h₂ => wpAny_bind (wpAny_mono h₂ (fun _ s₃ h₃ => wpAny_bind (wpAny_mono h₃ (fun ok s₄ h₄ => ?_) fun _ _ z => z.elim)) fun _ _ z => z.elim)) fun _ _ z => z.elim)
    cases ok with
    | false => exact wpAny_pure ⟨rfl, h₄⟩
    | true => exact wpAny_mono h₄ (fun f s₅ h₅ => by obtain ⟨rfl, h₅⟩ := h₅; exact ⟨rfl, h₅⟩) fun _ _ z => z.elim
end
theorem turn_one (prog : Program) (w : World) (elt tg iter : Expr) (ifs : List Expr) (scope : Scope) (pos : Pos) :
    TurnIs prog w (.SetComp elt [⟨tg, iter, ifs, 0⟩] scope pos) 0 tg iter ifs (fun acc env k => do
      (do let v ← eval elt env; standAt elt.pos; let _ ← call (.builtin "set.add") [acc, v])
      k) :=
  ⟨fun _ _ _ => rfl, fun _ _ _ => rfl, fun _ _ _ _ => rfl, fun _ _ _ => rfl⟩
theorem turn_out (prog : Program) (w : World) (elt tg iter tg1 iter1 : Expr) (ifs ifs1 : List Expr) (scope : Scope) (pos : Pos) :
    TurnIs prog w (.SetComp elt [⟨tg, iter, ifs, 0⟩, ⟨tg1, iter1, ifs1, 0⟩] scope pos) 0 tg iter ifs (fun acc env k => do
      let x ← eval iter1 env
      standAt iter1.pos
      let x ← foldedSetIterable iter1 env x
      let _ ← runOwn (.compStart (.SetComp elt [⟨tg, iter, ifs, 0⟩, ⟨tg1, iter1, ifs1, 0⟩] scope pos) 1 (← holding [x] (pyIter x)) acc env) env
      k) :=
  ⟨fun _ _ _ => rfl, fun _ _ _ => rfl, fun _ _ _ _ => rfl, fun _ _ _ => rfl⟩
theorem turn_in (prog : Program) (w : World) (elt tg iter tg1 iter1 : Expr) (ifs ifs1 : List Expr) (scope : Scope) (pos : Pos) :
    TurnIs prog w (.SetComp elt [⟨tg, iter, ifs, 0⟩, ⟨tg1, iter1, ifs1, 0⟩] scope pos) 1 tg1 iter1 ifs1 (fun acc env k => do
      (do let v ← eval elt env; standAt elt.pos; let _ ← call (.builtin "set.add") [acc, v])
      k) :=
  ⟨fun _ _ _ => rfl, fun _ _ _ => rfl, fun _ _ _ _ => rfl, fun _ _ _ => rfl⟩

/-- slots outside vs stay known -/
def Keeps (vs : List Nat) (σ σ' : L2.St) : Prop := σ.length = σ'.length ∧ ∀ (j : Nat) v, j ∉ vs → σ[j]? = some (some v) → σ'[j]? = some (some v)
theorem Keeps.wipe {vs vs1 : List Nat} (σ : L2.St) (h : ∀ i ∈ vs1, i ∈ vs) : Keeps vs σ (wipe σ vs1) :=
  ⟨(wipe_length σ vs1).symm, fun j v hj e => by rw [wipe_out fun z => hj (h j z)]; exact e⟩
/-- what a turn's body does in the block -/
def BodyTo (Xb : Cx) (body : SBody) (D : Addr) (vs : List Nat) (tb : L2.St → Hp → (Hp → Prop) → Prop) : Prop :=
  ∀ (pins : List (Addr × Obj)) (s : Shared) (σ : L2.St) (H : Hp) (Nx : Hp → Prop), Inv Xb pins σ H s → tb σ H Nx → ∀ (kk : Sem PySem.Fin) (P : PySem.Fin → Shared → Prop),
    (∀ σ' H' s', Inv Xb pins σ' H' s' → Keeps vs σ σ' → Nx H' → wpAny (model Xb.prog Xb.w) Xb.A kk P (fun _ _ => False) s') → wpAny (model Xb.prog Xb.w) Xb.A (body (.ref D) Xb.env kk) P (fun _ _ => False) s
/-- the readings of a clause's loop -/
def Turns (J : It) (g : TG) (tt : TT) (tb : L2.St → Hp → (Hp → Prop) → Prop) (vs : List Nat) (σ : L2.St) (Qe : Hp → Prop) (W : Nat → Nat → Hp → Prop) : Prop := ∀ i m H, W i m H →
  (J.stop i H ∧ Qe H) ∨ (J.go i H ∧ ∃ Nx : Hp → Prop, (∀ H', Nx H' → ∃ m', m' < m ∧ W (i + 1) m' H') ∧ ∀ x H', J.yld i H x H' → g x (wipe σ vs) H' fun σ2 H2 => wipe σ2 vs = wipe σ vs ∧ tt σ2 H2 fun b H3 =>
    if b = true then tb σ2 H3 Nx else Nx H3)
theorem si_loop {Xb : Cx} {pins : List (Addr × Obj)} {σ : L2.St} {e tg iter : Expr} {ifs : List Expr} {k : Nat} {body : SBody} {D it : Addr} {fp : List Addr} {tn : Nat → Heap → Prop} {J : It} {vs : List Nat} {g : TG} {tt : TT} {tb : L2.St → Hp → (Hp → Prop) → Prop} {W : Nat → Nat → Hp → Prop} {Qe : Hp → Prop} {R : Result → Shared → Prop} {s : Shared} {H : Hp} {m : Nat}
    (hT : TurnIs Xb.prog Xb.w e k tg iter ifs body) (hc : Xb.calm = true) (hx : Xb.xe = fun _ _ => False) (T : Turn Xb.prog Xb.w Xb.K tg J fp it tn)
    (fpk : ∀ (σ' : L2.St) (H' : Hp) (s' : Shared), Inv Xb pins σ' H' s' → (∀ b ∈ fp, H' b = none) → ∀ b ∈ fp, FpOk Xb pins H' b) (pg : PG Xb tg g) (pt : PTs Xb ifs tt) (pb : BodyTo Xb body D vs tb)
    (turn : Turns J g tt tb vs σ Qe W) (hR : ∀ H' s', Inv Xb pins (wipe σ vs) H' s' → Qe H' → R (.ok .next) s')
    (I : Inv Xb pins (wipe σ vs) H s) (st : tn 0 s.heap) (nf : ∀ b ∈ fp, H b = none) (w0 : W 0 m H) : codeAny (model Xb.prog Xb.w) Xb.A (.compLoop e k (.ref it) (.ref D) Xb.env) R s := by
  refine loop_is hT (fun n s' => ∃ i H', Inv Xb pins (wipe σ vs) H' s' ∧ tn i s'.heap ∧ (∀ b ∈ fp, H' b = none) ∧ W i n H') ?_ m ⟨0, H, I, st, nf, w0⟩
  rintro n s1 ⟨i, H1, I1, st1, n1, w1⟩
  rcases turn i n H1 w1 with ⟨stop, qq⟩ | ⟨go, Nx, hNx, step⟩
  · refine wpAny_mono (T.done Xb rfl rfl rfl hc i pins s1 _ H1 (fun _ _ => False) I1 (fpk _ _ _ I1 n1) st1 stop) (fun r s2 z => ?_) fun _ _ z => z
    obtain ⟨rfl, I2⟩ := z
    exact hR H1 s2 I2 qq
  · refine wpAny_mono (T.item Xb rfl rfl rfl hc i pins s1 _ H1 (fun _ _ => False) I1 (fpk _ _ _ I1 n1) st1 go) (fun r s2 z => ?_) fun _ _ z => z
    obtain ⟨u, rfl, z⟩ := z
    refine wpAny_mono z (fun _ s3 z3 => ?_) fun _ _ z => z
    obtain ⟨x, H3, I3, r3, y3, st3, n3⟩ := z3
    have I4 := I3.pinned (fpk _ _ _ I3 n3) (T.obj _ _ st3)
    have pg' := pg.run _ s3 _ H3 x u _ I4 r3 (step x H3 y3)
    rw [hx] at pg'
    refine wpAny_mono pg' (fun _ s5 z5 => ?_) fun _ _ z => z
    obtain ⟨σ5, H5, I5, hw5, q5⟩ := z5
    have pt' := pt.run _ s5 σ5 H5 _ I5 q5
    rw [hx] at pt'
    refine wpAny_mono pt' (fun b s6 z6 => ?_) fun _ _ z => z
    obtain ⟨H6, I6, q6⟩ := z6
    have back : ∀ (σ9 : L2.St) (H9 : Hp) (s9 : Shared), Inv Xb (pins ++ pinsAt fp s3.heap) σ9 H9 s9 → Keeps vs σ5 σ9 → Nx H9 → ∃ m, m < n ∧ ∃ i H', Inv Xb pins (wipe σ vs) H' s9 ∧ tn i s9.heap ∧ (∀ b ∈ fp, H' b = none) ∧ W i m H' := fun σ9 H9 s9 I9 kp nx => by
      obtain ⟨m', hm, w'⟩ := hNx H9 nx
      have pin : ∀ b ∈ fp, ∀ o, s3.heap.get? b = some o → s9.heap.get? b = some o ∧ H9 b = none := fun b hb o eo =>
        let z := I9.pin (b, o) (List.mem_append_right _ (List.mem_append_right _ (mem_pinsAt hb eo)))
        ⟨z.1, z.2.1⟩
      refine ⟨m', hm, i + 1, H9, (I9.unpinned (pins := pins)).weak ?_ (fun j v ej => ?_), T.keep _ _ _ st3 fun b hb o eo => (pin b hb o eo).1, fun b hb => ?_, w'⟩
      · rw [← hw5, wipe_length]
        exact kp.1
      · rw [← hw5] at ej
        obtain ⟨e1, e2⟩ := wipe_some ej
        exact kp.2 j v e2 e1
      · obtain ⟨o, eo, _⟩ := T.obj _ _ st3 b hb
        exact (pin b hb o eo).2
    cases b with
    | false =>
      simp only [Bool.false_eq_true, if_false] at q6 ⊢
      exact back σ5 H6 s6 I6 ⟨rfl, fun _ _ _ z => z⟩ q6
    | true =>
      simp only [if_true] at q6 ⊢
      exact pb _ s6 σ5 H6 Nx I6 q6 _ _ fun σ9 H9 s9 I9 kp nx => wpAny_pure ⟨rfl, back σ9 H9 s9 I9 kp nx⟩
/-- one more member -/
theorem siAdd {X : Cx} {pins : List (Addr × Obj)} {σ : L2.St} {H : Hp} {s : Shared} {E : Value → Shared → Prop} {D : Addr} {S : Int → Bool} {n : Nat} {y : Int} {u : Value} {Q : Value → Shared → Prop} (I : Inv X pins σ H s) (hD : H D = some (SetO X.w D S n)) (room : n + 1 < scanBound) (r : RelV (.int y) u)
    (h : ∀ s' v, Inv X pins σ (upd H D (SetO X.w D (fun j => S j || decide (j = y)) (if S y = true then n else n + 1))) s' → Q v s') : wpAny (model X.prog X.w) X.A (call (.builtin "set.add") [.ref D, u]) Q E s := by
  obtain ⟨tk, rfl⟩ := r
  refine setR_add (setO_get I hD) room fun h' sb new => h _ _ ?_
  have he : ∃ u, h'.get? D = some u := by
    have ⟨o, _, _, _, ho, _⟩ := new
    exact ⟨o, ho⟩
  exact I.write (e := D) (t' := s.toks + 1) (by rw [hD]; trivial) (.inl rfl) (fun b u hb hu => (sb.2 b hb).trans hu) he (setO_new new)
def tbE (w : World) (te : TE) (D : Addr) : L2.St → Hp → (Hp → Prop) → Prop := fun σ H Nx => te σ H fun y H1 => ∃ (c : Int) (S : Int → Bool) (n : Nat), y = .int c ∧ H1 D = some (SetO w D S n) ∧ n + 1 < scanBound ∧
  Nx (upd H1 D (SetO w D (fun j => S j || decide (j = c)) (if S c = true then n else n + 1)))
theorem body_elt {Xb : Cx} {elt : Expr} {te : TE} {D : Addr} {vs : List Nat} (hx : Xb.xe = fun _ _ => False) (he : PE Xb elt te) :
    BodyTo Xb (fun acc env k => do
      (do let v ← eval elt env; standAt elt.pos; let _ ← call (.builtin "set.add") [acc, v])
      k) D vs (tbE Xb.w te D) := by
  intro pins s σ H Nx I h kk P hk
  have he' := he.run pins s σ H _ I h
  rw [hx] at he'
  refine wpAny_bind (wpAny_bind (wpAny_mono he' (fun u s1 z => ?_) fun _ _ z => z))
  obtain ⟨y, H1, I1, r1, c, S, n, rfl, hD, room, nx⟩ := z
  refine wpAny_bind (wpAny_standAt (wpAny_bind (siAdd I1 hD room r1 fun s2 v I2 => ?_)))
  exact wpAny_pure (hk σ _ s2 I2 ⟨rfl, fun _ _ _ z => z⟩ nx)

section
variable {prog : Program} {w : World} {A : Around} {R : Result → Shared → Prop} {s : Shared} {elt tg iter tg1 iter1 : Expr} {ifs ifs1 : List Expr} {scope : Scope} {pos : Pos} {it acc : Value} {env : Env}
/-- the second clause begins -/
theorem start_in (h0 : codeAny (model prog w) A (.compLoop (.SetComp elt [⟨tg, iter, ifs, 0⟩, ⟨tg1, iter1, ifs1, 0⟩] scope pos) 1 it acc env) R s)
    (h : wpAny (model prog w) A (pyIter it) (fun it' s' => codeAny (model prog w) A (.compLoop (.SetComp elt [⟨tg, iter, ifs, 0⟩, ⟨tg1, iter1, ifs1, 0⟩] scope pos) 1 it' acc env) R s')
      (notedBy (model prog w) A env fun x s' => R (.error x) s') s) :
    codeAny (model prog w) A (.compStart (.SetComp elt [⟨tg, iter, ifs, 0⟩, ⟨tg1, iter1, ifs1, 0⟩] scope pos) 1 it acc env) R s := by
  refine codeAny_of_tree ?_
  show wpAny _ _ ((compStart (.SetComp elt [⟨tg, iter, ifs, 0⟩, ⟨tg1, iter1, ifs1, 0⟩] scope pos) 1 it acc env).onRaise (fun x => do noteFrame x env; standAt theWindowsPlace)) _ _ s
  refine wpAny_notedAt ?_
  unfold compStart
  show wpAny _ _ (ask >>= _) _ _ s
  refine wpAny_bind (wpAny_askSetting (wpAny_ite ?_))
  split
  · first
      | exact wpAny_bind (wpAny_pure (wpAny_pure (And.intro rfl h0)))
      | exact wpAny_pure (And.intro rfl h0)
  · refine wpAny_bind (wpAny_rule ?_)
    show wpAny _ _ (standAt iter1.pos >>= _) _ _ s
    exact wpAny_bind (wpAny_standAt (wpAny_bind (wpAny_mono h (fun it' s' h' => wpAny_pure (And.intro rfl h')) fun _ _ x => x)))
end
/-- the body that is a clause of its own -/
def tbC (wi1 : TI) (g1 : TG) (tt1 : TT) (tb : L2.St → Hp → (Hp → Prop) → Prop) (vs1 : List Nat) : L2.St → Hp → (Hp → Prop) → Prop := fun σ H Nx => wi1 σ H fun J H1 => ∃ W : Nat → Nat → Hp → Prop, (∃ m, W 0 m H1) ∧ Turns J g1 tt1 tb vs1 σ Nx W
theorem body_clause {Xb : Cx} {elt tg iter tg1 iter1 : Expr} {ifs ifs1 : List Expr} {scope : Scope} {pos : Pos} {D : Addr} {vs vs1 : List Nat} {wi1 : TI} {g1 : TG} {tt1 : TT} {te : TE} (hx : Xb.xe = fun _ _ => False) (hc : Xb.calm = true) (hv : ∀ i ∈ vs1, i ∈ vs)
    (pi1 : PI Xb tg1 iter1 wi1) (pg1 : PG Xb tg1 g1) (pt1 : PTs Xb ifs1 tt1) (he : PE Xb elt te) (hs1 : ∀ x, foldedSetIterable iter1 Xb.env x = pure x) :
    BodyTo Xb (fun acc env k => do
      let x ← eval iter1 env
      standAt iter1.pos
      let x ← foldedSetIterable iter1 env x
      let _ ← runOwn (.compStart (.SetComp elt [⟨tg, iter, ifs, 0⟩, ⟨tg1, iter1, ifs1, 0⟩] scope pos) 1 (← holding [x] (pyIter x)) acc env) env
      k) D vs (tbC wi1 g1 tt1 (tbE Xb.w te D) vs1) := by
  intro pins s σ H Nx I h kk P hk
  have hi := pi1.run pins s σ H _ I h
  rw [hx] at hi
  refine wpAny_bind (wpAny_mono hi (fun x s1 hi1 => ?_) fun _ _ z => z)
  refine wpAny_bind (wpAny_standAt (wpAny_bind (wpAny_of_eq (hs1 x) (wpAny_bind (wpAny_holding (wpAny_mono hi1 (fun itv s2 z2 => ?_) fun _ _ z => z))))))
  obtain ⟨it1, fp, tn, J, H2, rfl, I2, T, st, f2, W, ⟨m, w0⟩, turn⟩ := z2
  refine wpAny_bind (wpAny_runOwn ?_)
  rw [Around.mark_none]
  have loop : codeAny (model Xb.prog Xb.w) Xb.A (.compLoop (.SetComp elt [⟨tg, iter, ifs, 0⟩, ⟨tg1, iter1, ifs1, 0⟩] scope pos) 1 (.ref it1) (.ref D) Xb.env)
      (fun r s' => match r with
        | .ok _ => ∃ H', Inv Xb pins (wipe σ vs1) H' s' ∧ Nx H'
        | .error _ => False) s2 :=
    si_loop (Qe := Nx) (turn_in Xb.prog Xb.w elt tg iter tg1 iter1 ifs ifs1 scope pos) hc hx T (fun σ' H' s' _ hn b hb => ⟨hn b hb, (f2 b hb).2⟩) pg1 pt1 (body_elt hx he) turn (fun H' s' I' q => ⟨H', I', q⟩)
      (I2.weak (wipe_length _ _) (fun j v e => (wipe_some e).1)) st (fun b hb => (f2 b hb).1) w0
  refine codeAny_mono (start_in loop (T.self Xb.A 0 _ _ _ st loop)) fun r s' hr => ?_
  cases r with
  | ok f =>
    obtain ⟨H', I', nx⟩ := hr
    have q := hk (wipe σ vs1) H' s' I' (Keeps.wipe σ hv) nx
    first
      | exact q
      | exact wpAny_bind (wpAny_pure q)
      | exact wpAny_pure q
  | error e => exact hr.elim
/-- the whole, its body left open -/
def tSI (w : World) (wi : TI) (g : TG) (tt : TT) (tb : Addr → L2.St → Hp → (Hp → Prop) → Prop) (vs : List Nat) : TE := fun σ H Q => wi σ H fun J H1 => ∀ D, H1 D = none →
  ∃ W : Nat → Nat → Hp → Prop, (∃ m, W 0 m (upd H1 D (SetO w D (fun _ => false) 0))) ∧ Turns J g tt (tb D) vs σ (Q (.ref D)) W
section
variable {X : Cx}
theorem si_core {pins : List (Addr × Obj)} {s : Shared} {σ : L2.St} {H : Hp} {Q : VK} {elt tg iter : Expr} {ifs : List Expr} {rest : List Comprehension} {scope : Scope} {own : List (PySem.Str × Nat)} {pos pos' : Pos} {wi : TI} {g : TG} {tt : TT} {body : SBody} {tb : Addr → L2.St → Hp → (Hp → Prop) → Prop} {Qf : Value → Shared → Prop}
    (hT : TurnIs X.prog X.w (.SetComp elt (⟨tg, iter, ifs, 0⟩ :: rest) scope pos) 0 tg iter ifs body)
    (hc : X.calm = true) (hN : X.N.Nodup) (I : Inv X pins σ H s) (hi : PI X tg iter wi) (ok : BlkOk X.N X.env.scope scope own)
    (hg : ∀ (s : Shared) (H : Hp) (C : Addr) (cl : List (PySem.Str × Addr)) (fp : List Addr), PG (X.blk s H scope (compEnvC scope cl C X.env) fp) tg g) (ht : ∀ (s : Shared) (H : Hp) (C : Addr) (cl : List (PySem.Str × Addr)) (fp : List Addr), PTs (X.blk s H scope (compEnvC scope cl C X.env) fp) ifs tt)
    (hb : ∀ (s : Shared) (H : Hp) (C : Addr) (cl : List (PySem.Str × Addr)) (fp : List Addr) (D : Addr), BodyTo (X.blk s H scope (compEnvC scope cl C X.env) fp) body D (own.map (·.2)) (tb D)) (hs : ∀ x, foldedSetIterable iter X.env x = pure x)
    (h : tSI X.w wi g tt tb (own.map (·.2)) σ H Q)
    (hRR : ∀ D C s' m H', Inv X pins σ H' s' → Q (.ref D) H' → s'.heap.Ns C m → FpOk X pins H' C → compPost (model X.prog X.w) X.A X.xe none Qf (.ref D) C (.ok .next) s') :
    wpAny (model X.prog X.w) X.A (comprehension (.SetComp elt (⟨tg, iter, ifs, 0⟩ :: rest) scope pos) scope X.env pos' (newSet (.type "set")) false (eval iter X.env) none) Qf X.xe s := by
  have hfree : ∀ y ∈ scope.names, y.2 = .free → ∃ c, X.env.cells.lookup y.1 = some c := fun y hy e =>
    (ok.free y hy e).elim (fun k => I.ok.has _ (.inl k)) fun k => I.ok.has _ (.inr k)
  refine wpAny_comprehension_free (use := none) rfl hs (closure_ok hfree) ok.kind (fun y hy e => by rw [ok.uniq y hy, e])
    (thn (hi.run pins s σ H _ I h) fun xv s1 hx => thn hx fun itv s2 h2 => ?_)
  obtain ⟨it, fp, tn, J, H2, rfl, I2, T, st2, f2, q⟩ := h2
  refine PpSet.newSet_ok (newEnv_comp ?_)
  generalize hD : s2.heap.objs.size = D
  have hDn : H2 D = none := I2.hok.fresh (Nat.le_of_eq hD)
  obtain ⟨W, ⟨m0, w0⟩, turn⟩ := q D hDn
  have hlt : ∀ b ∈ fp, b < s2.heap.objs.size := fun b hb => let ⟨_, e, _⟩ := T.obj _ _ st2 b hb; Heap.lt_size e
  obtain ⟨s3, hs3⟩ : ∃ s3 : Shared, s3 = { s2 with heap := s2.heap.push { cls := .type "set", dict := none, data := .set #[] 0 (.fresh 0 0 (!X.w.params.followText "set-order")) } } := ⟨_, rfl⟩
  obtain ⟨H3, hH3⟩ : ∃ H3, H3 = upd H2 D (SetO X.w D (fun _ => false) 0) := ⟨_, rfl⟩
  have I3 : Inv X pins σ H3 s3 := by
    rw [hs3, hH3]
    refine I2.laid (t' := s2.toks) (fun b o e => Heap.get?_push_of_some _ e) (Nat.le_of_eq hD) ?_
    rw [← hD]
    exact setO_new (setR_fresh X.w)
  have f3 : ∀ b ∈ fp, FpOk X pins H3 b ∧ b < s3.heap.objs.size := fun b hb => by
    refine ⟨⟨?_, (f2 b hb).2⟩, by rw [hs3]; show b < (Heap.push _ _).objs.size; rw [Heap.size_push]; exact Nat.lt_succ_of_lt (hlt b hb)⟩
    rw [hH3, upd_ne (by rw [← hD]; exact Nat.ne_of_lt (hlt b hb))]
    exact (f2 b hb).1
  have st3 : tn 0 s3.heap := T.keep _ _ _ st2 fun b _ o e => by rw [hs3]; exact Heap.get?_push_of_some _ e
  have I4 := block_start I3 ok hN f3
  rw [← hH3] at w0
  rw [show ({ s2 with heap := s2.heap.push { cls := .type "set", dict := none, data := .set #[] 0 (.fresh 0 0 (!X.w.params.followText "set-order")) } } : Shared) = s3 from hs3.symm]
  obtain ⟨ce, hce⟩ : ∃ ce, ce = compEnvC scope (cellsFrom (s3.heap.objs.size + 1) scope.names (cloFrom X.env.cells scope.names [])) s3.heap.objs.size X.env := ⟨_, rfl⟩
  obtain ⟨s4, hs4⟩ : ∃ s4 : Shared, s4 = { s3 with heap := pushCells (s3.heap.push { cls := .type "dict", data := .dict #[] }) scope.names } := ⟨_, rfl⟩
  have pg := hg s3 H3 s3.heap.objs.size (cellsFrom (s3.heap.objs.size + 1) scope.names (cloFrom X.env.cells scope.names [])) fp
  have pt := ht s3 H3 s3.heap.objs.size (cellsFrom (s3.heap.objs.size + 1) scope.names (cloFrom X.env.cells scope.names [])) fp
  have pb := hb s3 H3 s3.heap.objs.size (cellsFrom (s3.heap.objs.size + 1) scope.names (cloFrom X.env.cells scope.names [])) fp D
  show codeAny _ _ (.compStart _ 0 (.ref it) (.ref D) (compEnvC scope (cellsFrom (s3.heap.objs.size + 1) scope.names (cloFrom X.env.cells scope.names [])) s3.heap.objs.size X.env)) (compPost (model X.prog X.w) X.A X.xe none Qf (.ref D) s3.heap.objs.size) { s3 with heap := pushCells (s3.heap.push { cls := .type "dict", data := .dict #[] }) scope.names }
  rw [← hce] at I4 pg pt pb ⊢
  rw [← hs4] at I4 ⊢
  have cL : ce.locals = s3.heap.objs.size := by rw [hce] <;> rfl
  have st4 : tn 0 s4.heap := T.keep _ _ _ st3 fun b _ o e => by rw [hs4]; exact pushCells_keeps _ _ _ _ (Heap.get?_push_of_some _ e)
  have loop : codeAny (model X.prog X.w) X.A (.compLoop (.SetComp elt (⟨tg, iter, ifs, 0⟩ :: rest) scope pos) 0 (.ref it) (.ref D) ce) (compPost (model X.prog X.w) X.A X.xe none Qf (.ref D) s3.heap.objs.size) s4 := by
    refine si_loop (Xb := X.blk s3 H3 scope ce fp) (pins := []) (Qe := Q (.ref D)) hT hc rfl T (fun σ' H' s' I' hn b hb => ?_) pg pt pb turn (fun H' s' I' qq => ?_) I4 st4 (fun b hb => (f3 b hb).1.1) w0
    · exact ⟨hn b hb, (I'.ok.exf b hb).1, I'.ok.exfs b hb, .inl hb, fun x c e => (I'.ok.exf b hb).2 x c e, fun p hp => absurd (show p ∈ ([] : List (Addr × Obj)) ++ [] from hp) (by simp)⟩
    · have I7 : Inv X pins σ H' s' := I3.call' (ch := fp) I'.os I'.base I'.hok I'.bare fun b hb => ⟨(f3 b hb).1.2.2.2.1, (f3 b hb).1.2.1, (f3 b hb).1.2.2.2.2.1, (f3 b hb).1.2.2.2.2.2⟩
      have nC : H' s3.heap.objs.size = none := by
        have z : H' ce.locals = none := I'.free
        rw [cL] at z
        exact z
      obtain ⟨m, hn, _⟩ := I'.loc
      have hn : s'.heap.Ns ce.locals m := hn
      rw [cL] at hn
      exact hRR D s3.heap.objs.size s' m H' I7 qq hn (I3.fpOk (Nat.le_refl _) nC)
  exact PpSet.codeAny_compStart_set loop (T.self X.A 0 _ _ _ st4 loop)
theorem pe_si {elt tg iter : Expr} {ifs : List Expr} {scope : Scope} {own : List (PySem.Str × Nat)} {pos : Pos} {wi : TI} {g : TG} {tt : TT} {te : TE} (hc : X.calm = true) (hN : X.N.Nodup) (hi : PI X tg iter wi) (ok : BlkOk X.N X.env.scope scope own)
    (hg : ∀ (s : Shared) (H : Hp) (C : Addr) (cl : List (PySem.Str × Addr)) (fp : List Addr), PG (X.blk s H scope (compEnvC scope cl C X.env) fp) tg g) (ht : ∀ (s : Shared) (H : Hp) (C : Addr) (cl : List (PySem.Str × Addr)) (fp : List Addr), PTs (X.blk s H scope (compEnvC scope cl C X.env) fp) ifs tt)
    (he : ∀ (s : Shared) (H : Hp) (C : Addr) (cl : List (PySem.Str × Addr)) (fp : List Addr), PE (X.blk s H scope (compEnvC scope cl C X.env) fp) elt te) (hs : ∀ x, foldedSetIterable iter X.env x = pure x := by intro _; rfl) :
    PE X (.SetComp elt [⟨tg, iter, ifs, 0⟩] scope pos) (tSI X.w wi g tt (tbE X.w te) (own.map (·.2))) := by
  refine ⟨fun pins s σ H Q I h => ?_⟩
  rw [PpSet.eval_SetComp]
  refine si_core (turn_one X.prog X.w elt tg iter ifs scope pos) hc hN I hi ok hg ht (fun s H C cl fp D => body_elt (Xb := X.blk s H scope (compEnvC scope cl C X.env) fp) rfl (he s H C cl fp)) hs h fun D C s' m H' I' q hn f => ⟨m, hn, fun h'' sb => ?_⟩
  obtain ⟨f0, f1, f2, f3, f4, f5⟩ := f
  exact ⟨.ref D, H', I'.turned (t' := s'.toks) (fun b o hb e => (sb.2 b hb).trans e) f0 f1 f3 f4 f5, rfl, q⟩
theorem pe_si2 {elt tg iter tg1 iter1 : Expr} {ifs ifs1 : List Expr} {scope : Scope} {own : List (PySem.Str × Nat)} {vs1 : List Nat} {pos : Pos} {wi wi1 : TI} {g g1 : TG} {tt tt1 : TT} {te : TE} (hc : X.calm = true) (hN : X.N.Nodup) (hi : PI X tg iter wi) (ok : BlkOk X.N X.env.scope scope own) (hv : ∀ i ∈ vs1, i ∈ own.map (·.2))
    (hg : ∀ (s : Shared) (H : Hp) (C : Addr) (cl : List (PySem.Str × Addr)) (fp : List Addr), PG (X.blk s H scope (compEnvC scope cl C X.env) fp) tg g) (ht : ∀ (s : Shared) (H : Hp) (C : Addr) (cl : List (PySem.Str × Addr)) (fp : List Addr), PTs (X.blk s H scope (compEnvC scope cl C X.env) fp) ifs tt)
    (hi1 : ∀ (s : Shared) (H : Hp) (C : Addr) (cl : List (PySem.Str × Addr)) (fp : List Addr), PI (X.blk s H scope (compEnvC scope cl C X.env) fp) tg1 iter1 wi1)
    (hg1 : ∀ (s : Shared) (H : Hp) (C : Addr) (cl : List (PySem.Str × Addr)) (fp : List Addr), PG (X.blk s H scope (compEnvC scope cl C X.env) fp) tg1 g1) (ht1 : ∀ (s : Shared) (H : Hp) (C : Addr) (cl : List (PySem.Str × Addr)) (fp : List Addr), PTs (X.blk s H scope (compEnvC scope cl C X.env) fp) ifs1 tt1)
    (he : ∀ (s : Shared) (H : Hp) (C : Addr) (cl : List (PySem.Str × Addr)) (fp : List Addr), PE (X.blk s H scope (compEnvC scope cl C X.env) fp) elt te) (hs : ∀ x, foldedSetIterable iter X.env x = pure x := by intro _; rfl) (hs1 : ∀ env x, foldedSetIterable iter1 env x = pure x := by intro _ _; rfl) :
    PE X (.SetComp elt [⟨tg, iter, ifs, 0⟩, ⟨tg1, iter1, ifs1, 0⟩] scope pos) (tSI X.w wi g tt (fun D => tbC wi1 g1 tt1 (tbE X.w te D) vs1) (own.map (·.2))) := by
  refine ⟨fun pins s σ H Q I h => ?_⟩
  rw [PpSet.eval_SetComp]
  refine si_core (turn_out X.prog X.w elt tg iter tg1 iter1 ifs ifs1 scope pos) hc hN I hi ok hg ht (fun s H C cl fp D => body_clause (Xb := X.blk s H scope (compEnvC scope cl C X.env) fp) rfl hc hv (hi1 s H C cl fp) (hg1 s H C cl fp) (ht1 s H C cl fp) (he s H C cl fp) (hs1 _)) hs h fun D C s' m H' I' q hn f => ⟨m, hn, fun h'' sb => ?_⟩
  obtain ⟨f0, f1, f2, f3, f4, f5⟩ := f
  exact ⟨.ref D, H', I'.turned (t' := s'.toks) (fun b o hb e => (sb.2 b hb).trans e) f0 f1 f3 f4 f5, rfl, q⟩
end
end Pm

namespace Pm
open PySem PySem.Spec PyProof.Rows L2
/-! ### own classes: made, their methods called, by promises where no repr is under way -/
/-- what a caller holds of a method -/
structure OwnM (P : Program) (w : World) (K : PySem.W.Frag) (mg : Str → Option Value) (base : Heap) (CX : CXT) (k : Nat) (C : Addr) (m : Str) (ps : List Str) (dvs : List V) (sp : Sp) : Prop where
  ex : ∃ f fd ds, FnG P w K mg base CX k f fd ps sp ∧ Meth K C m f ∧ Binds K fd ps ds ∧ Vals dvs ds
/-- .. of a class: its making, by its __init__ -/
structure OwnC (P : Program) (w : World) (K : PySem.W.Frag) (mg : Str → Option Value) (base : Heap) (CX : CXT) (k : Nat) (x : Str) (C : Addr) (ps : List Str) (dvs : List V) (sp : Sp) : Prop where
  ex : ∃ f fd ds, FnG P w K mg base CX k f fd ps sp ∧ Mk K C f ∧ mg x = some (.ref C) ∧ Binds K fd ps ds ∧ Vals dvs ds
section
variable {X : Cx} {CX : CXT} {k : Nat} {f C : Addr} {fd : FuncData} {ps : List Str} {sp : Sp} {dvs : List V} {ds : List Value} {E : XK} {x m : Str} {p pos apos : Pos} {e o : Expr} {es : List Expr} {ta : TE} {t : TA}
theorem pe_ownM {pl : Sem Bool} (he : PE X o ta) (c : Cls X.K C) (O : OwnM X.prog X.w X.K X.mg X.base CX k C m ps dvs sp) (hG : X.A.guards = some []) (hr : Room k X.A) (hx : Passes CX X E) (ha : PA X (e :: es) t)
    (hst : starEach (e :: es) X.env = (false, eval e X.env) :: starEach es X.env := by rfl) (hpl : (backTo pos (starEach es X.env)).any (·.1) = false := by rfl)
    (ht : eval (.Call (.Attribute o m apos) (e :: es) [] pos) X.env = (do
      let ov ← eval o X.env
      standAt apos.atName
      let (f, first) ← holding [ov] (getMethod ov m pl)
      callWith pos f first (backTo pos (starEach (e :: es) X.env)) (backToKw pos (keywordEach [] X.env))) := by rfl) :
    PE X (.Call (.Attribute o m apos) (e :: es) [] pos) (tMeth C m sp dvs E ta t) := by
  obtain ⟨f, fd, ds, F, hm, hb, hd⟩ := O.ex
  refine ⟨fun pins s σ H Q I h => PySem.W.methodCall_KW (pl := pl) (thn (he.run pins s σ H _ I h) fun u s1 ⟨x, H1, I1, rx, a, dx, fs, ex, ea, l, q⟩ => ?_) ht⟩
  subst ex
  cases rx
  refine getmeth_ok I1 ea c hm l (PySem.W.callWith_K (first := [.ref a]) (h₀ := X.base) I.ok.mod.kin hm.kp (thn (ha.run pos pins s1 σ H1 _ I1 q) fun us s2 ⟨vs, H2, I2, r, q2⟩ => ⟨I2.kIn, ?_⟩) hst hpl)
  have r2 : Vals (.ref a :: vs ++ dvs) (.ref a :: us ++ ds) := (show Vals (V.ref a :: vs) (Value.ref a :: us) from .cons rfl r).append hd
  exact runG F hG hr (hb s2 (.ref a :: us) I2.kIn (by rw [← r2.length]; exact F.len _ _ _ _ q2)) hx I2 r2 q2
theorem pe_ownM0 {pl : Sem Bool} (he : PE X o ta) (c : Cls X.K C) (O : OwnM X.prog X.w X.K X.mg X.base CX k C m ps dvs sp) (hG : X.A.guards = some []) (hr : Room k X.A) (hx : Passes CX X E)
    (ht : eval (.Call (.Attribute o m apos) [] [] pos) X.env = (do
      let ov ← eval o X.env
      standAt apos.atName
      let (f, first) ← holding [ov] (getMethod ov m pl)
      callWith pos f first (backTo pos (starEach [] X.env)) (backToKw pos (keywordEach [] X.env))) := by rfl) :
    PE X (.Call (.Attribute o m apos) [] [] pos) (tMeth C m sp dvs E ta tNil) := by
  obtain ⟨f, fd, ds, F, hm, hb, hd⟩ := O.ex
  refine ⟨fun pins s σ H Q I h => PySem.W.methodCall_KW (pl := pl) (thn (he.run pins s σ H _ I h) fun u s1 ⟨x, H1, I1, rx, a, dx, fs, ex, ea, l, q⟩ => ?_) ht⟩
  subst ex
  cases rx
  have r2 : Vals ([V.ref a] ++ dvs) ([Value.ref a] ++ ds) := (show Vals [V.ref a] [Value.ref a] from .cons rfl .nil).append hd
  refine getmeth_ok I1 ea c hm l (PySem.W.callWith_K0 (first := [.ref a]) I1.kIn hm.kp (runG F hG hr (us := [.ref a]) (hb s1 [.ref a] I1.kIn (by rw [← r2.length]; exact F.len _ _ _ _ q)) hx I1 r2 q))
theorem pe_ownC (O : OwnC X.prog X.w X.K X.mg X.base CX k x C ps dvs sp) (hG : X.A.guards = some []) (hr : Room (k + 1) X.A) (hx : Passes CX X E) (ha : PA X (e :: es) t) (hg : Gl X x := by rfl)
    (hdb : (x == ("__debug__" : Str)) = false := by decide) (he : starEach (e :: es) X.env = (false, eval e X.env) :: starEach es X.env := by rfl) (hpl : (backTo pos (starEach es X.env)).any (·.1) = false := by rfl) :
    PE X (.Call (.Name x p) (e :: es) [] pos) (tMake C sp dvs E t) := by
  obtain ⟨f, fd, ds, F, M, hm, hb, hd⟩ := O.ex
  refine ⟨fun pins s σ H Q I h => wpAny_Call_Name_kw (ld_glob I hg hm ?_ hdb)⟩
  refine PySem.W.callWith_K (h₀ := X.base) I.ok.mod.kin M.kp (thn (ha.run pos pins s σ H _ I h) fun us s1 ⟨vs, H1, I1, r, q⟩ => ⟨I1.kIn, ?_⟩) he hpl
  have hq := q (s1.heap.objs.size + 1) s1.heap.objs.size (I1.hok.fresh (Nat.le_succ _)) (I1.hok.fresh (Nat.le_refl _)) (Nat.ne_of_lt (Nat.lt_succ_self _))
  have I2 := Inv.made (C := C) I1
  have r2 : Vals (V.ref (s1.heap.objs.size + 1) :: (vs ++ dvs)) (Value.ref (s1.heap.objs.size + 1) :: (us ++ ds)) := .cons rfl (r.append hd)
  have hl : (Value.ref (s1.heap.objs.size + 1) :: us ++ ds).length = ps.length := by
    have e := r2.length
    rw [F.len _ _ _ _ hq] at e
    exact e.symm
  refine wpAny_call (make_map (f := f) I1.kIn M.makes M.init (beq_iff_eq.mp M.fn) (codeAny_mono (F.run (X.A.under (.builtin "type.__call__" ⟨.ref C :: us, []⟩)) (by first | exact hG | (simpa [Around.under] using hG)) X.stack _ _ ⟨Value.ref (s1.heap.objs.size + 1) :: us, []⟩ (Value.ref (s1.heap.objs.size + 1) :: (us ++ ds)) _ _ E (hr.make C us [])
    (I2.env0.make C us []) (hb _ (Value.ref (s1.heap.objs.size + 1) :: us) I2.kIn hl) r2 hq) fun r s' hq' => ?_))
  cases r with
  | error e => exact hx pins σ _ _ e s' I2 hq'
  | ok fl =>
    cases fl with
    | ret u =>
      obtain ⟨v, H', I3, rv, ev, q3⟩ := I2.after hq'
      subst ev
      exact ⟨rv, ⟨V.ref (s1.heap.objs.size + 1), H', I3, rfl, q3⟩⟩
    | next => exact False.elim hq'
    | brk => exact False.elim hq'
    | cont => exact False.elim hq'
end
/-! ### readings -/
section
variable {K : PySem.W.Frag} {σ : L2.St} {H : Hp} {Q : VK}
theorem i_fld {ta : TE} {f : Str} (h : ta σ H fun x H1 => ∃ a C dx fs v, x = .ref a ∧ H1 a = some (.ins C dx fs) ∧ Cls K C ∧ NoAttr K C f ∧ fs.lookup f = some v ∧ Q v H1) : tFld K ta f σ H Q := h
end
end Pm

/-! ### == of values among which are instances with an own == -/
namespace PmEqo
open PySem PySem.SeqAt
open AutoSeq1 (wpAny_loadPart')
open MeetsSeq MeetsSeq2 MeetsSeq3 SeqRoads2
section
variable {prog : Program} {w : World} {A : Around} {R : Result → Shared → Prop}
/-- tuples item by item, each comparison with its own answer, objects made on the way -/
theorem tup_eq (l b : Addr) (items items2 : Array Value) (n n2 : Nat) (dd dd2 : Option Addr) (sl sl2 : Array (Option Value)) (e : Nat → Bool) (I : Shared → Prop)
    (turn : ∀ i (h1 : i < items.size) (h2 : i < items2.size) s, I s → wpAny (model prog w) A.in1 (eqBool items[i] items2[i]) (fun r s' => r = e i ∧ I s') (fun e s' => R (.error e) s') s)
    (fin : ∀ s, I s → R (.ok (.ret (.bool ((List.range (min items.size items2.size)).all e && items.size == items2.size)))) s) {s : Shared} (hl : s.heap.get? l = some { cls := .type "tuple", dict := dd, data := .seq items n, slots := sl }) (hb : s.heap.get? b = some { cls := .type "tuple", dict := dd2, data := .seq items2 n2, slots := sl2 }) (h : I s) :
    wpAny (model prog w) A.in1 (Builtin.«tuple.__eq__» ⟨[.ref l, .ref b], []⟩) (GQ.FinOf prog w A R) (fun e s' => R (.error e) s') s := by
  have f2 := AutoSeq1.sub_tuple_tuple
  have hZ : (items.toList.zip items2.toList).length = min items.size items2.size := by simp
  have h0 := h
  obtain ⟨hp, g, d, tk, os⟩ := s
  wp_walk using wpAny_loadPart' hl, wpAny_loadPart' hb, wpAny_forIn_list _ (fun rest b s' => b.1 = none ∧ ∃ i, rest = (items.toList.zip items2.toList).drop i ∧ I s' ∧
    ((List.range (min items.size items2.size)).drop i).all e = (List.range (min items.size items2.size)).all e) _
  case turn =>
    rintro ⟨y, x⟩ rest b s' ⟨hb', i, hz, hI, hR⟩
    have hlt : i < (items.toList.zip items2.toList).length := by
      rcases Nat.lt_or_ge i (items.toList.zip items2.toList).length with h' | h'
      · exact h'
      · rw [List.drop_of_length_le h'] at hz; cases hz
    have hm : i < min items.size items2.size := hZ ▸ hlt
    have h1 : i < items.size := Nat.lt_of_lt_of_le hm (Nat.min_le_left _ _)
    have h2 : i < items2.size := Nat.lt_of_lt_of_le hm (Nat.min_le_right _ _)
    rw [List.drop_eq_getElem_cons hlt] at hz
    injection hz with hyx hrest
    have hy : y = items[i] := by have := congrArg Prod.fst hyx; simpa using this
    have hx : x = items2[i] := by have := congrArg Prod.snd hyx; simpa using this
    subst hy hx
    have hd : (List.range (min items.size items2.size)).drop i = i :: (List.range (min items.size items2.size)).drop (i + 1) := by simp [List.drop_eq_getElem_cons, hm]
    rw [hd, List.all_cons] at hR
    refine wpAny_bind (wpAny_mono (turn i h1 h2 s' hI) (fun r s2 q2 => ?_) fun _ _ x => x)
    obtain ⟨hr, q2⟩ := q2
    subst hr
    cases hy : e i with
    | true =>
      rw [hy] at hR
      wp_walk
      exact ⟨rfl, i + 1, hrest, q2, by simpa using hR⟩
    | false =>
      rw [hy] at hR
      wp_walk
      have q := fin _ q2
      rw [← hR] at q
      simpa using q
  case fin =>
    rintro ⟨b1, b2⟩ s' ⟨hb', i, hz, hI, hR⟩
    simp only at hb'
    subst hb'
    have hge : min items.size items2.size ≤ i := by
      rcases Nat.lt_or_ge i (items.toList.zip items2.toList).length with h' | h'
      · rw [List.drop_eq_getElem_cons h'] at hz; cases hz
      · exact hZ ▸ h'
    rw [List.drop_of_length_le (by simpa using hge)] at hR
    have q := fin _ hI
    rw [← hR] at q
    wp_walk
    simpa [Builtin.Tuple.tupleCompareSizes] using q
  case h =>
    exact ⟨rfl, 0, rfl, h0, rfl⟩
end
section
variable {prog : Program} {w : World} {A : Around} {E : Value → Shared → Prop} {s : Shared}
theorem rc_tup {l b : Addr} {items items2 : Array Value} {Q : Value → Shared → Prop} (hu : A.units < cLine) (e : Nat → Bool) (I : Shared → Prop) (hl : s.heap.IsTuple l items) (hb : s.heap.IsTuple b items2)
    (turn : ∀ i (h1 : i < items.size) (h2 : i < items2.size) s, I s → wpAny (model prog w) A.in1 (eqBool items[i] items2[i]) (fun r s' => r = e i ∧ I s') E s)
    (fin : ∀ s, I s → Q (.bool ((List.range (min items.size items2.size)).all e && items.size == items2.size)) s) (h : I s) : wpAny (model prog w) A (richCompare .Eq (.ref l) (.ref b)) Q E s := by
  obtain ⟨⟨cls, dd, data, sl⟩, ho, hc, n, hd⟩ := id hl
  obtain ⟨⟨cls2, dd2, data2, sl2⟩, ho2, hc2, n2, hd2⟩ := id hb
  simp only at hc hd hc2 hd2
  subst hc hd hc2 hd2
  refine wpAny_richCompare_same_room (op := .Eq) ⟨_, ho, rfl⟩ ⟨_, ho2, rfl⟩ F.slot_tuple_eq (GQ.call_here F.slot_tuple_eq ⟨_, ho, rfl⟩ F.entry_tuple_eq (F.args_tuple_eq_2 _ _) ?_) hu
  exact tup_eq (R := wants (fun v s' => v ≠ .notImplemented ∧ Q v s') E) l b items items2 n n2 dd dd2 sl sl2 e I turn (fun s' q => ⟨(fun x => nomatch x), fin s' q⟩) ho ho2 h
end
/-! a built-in's own == declines an instance -/
theorem int_no (b : Int) (u : Tok) (l : Addr) (c : Addr) (dd : Option Addr) : Meets (Builtin.«int.__eq__» ⟨[.int b u, .ref l], []⟩) (fun _ R s => s.heap.get? l = some { cls := .ref c, dict := dd, data := .plain } ∧ R (.ok (.ret .notImplemented)) s) :=
  .of_wp fun prog w A R s h => by obtain ⟨hp, g, d, tk, os⟩ := s; obtain ⟨hl, h⟩ := h; wp_walk using wpAny_loadPart' hl, wpAny_load hl; exact ⟨_, rfl, h⟩
theorem bool_no (b : Bool) (l : Addr) (c : Addr) (dd : Option Addr) : Meets (Builtin.«int.__eq__» ⟨[.bool b, .ref l], []⟩) (fun _ R s => s.heap.get? l = some { cls := .ref c, dict := dd, data := .plain } ∧ R (.ok (.ret .notImplemented)) s) :=
  .of_wp fun prog w A R s h => by obtain ⟨hp, g, d, tk, os⟩ := s; obtain ⟨hl, h⟩ := h; wp_walk using wpAny_loadPart' hl, wpAny_load hl; exact ⟨_, rfl, h⟩
theorem str_no (b : Str) (u : Tok) (l : Addr) (c : Addr) (dd : Option Addr) : Meets (Builtin.«str.__eq__» ⟨[.str b u, .ref l], []⟩) (fun _ R s => s.heap.get? l = some { cls := .ref c, dict := dd, data := .plain } ∧ R (.ok (.ret .notImplemented)) s) :=
  .of_wp fun prog w A R s h => by obtain ⟨hp, g, d, tk, os⟩ := s; obtain ⟨hl, h⟩ := h; wp_walk using wpAny_loadPart' hl, wpAny_load hl; exact ⟨_, rfl, h⟩
end PmEqo
namespace PmEqo
open PySem PySem.SeqAt PySem.W PyProof.Rows
section
variable {prog : Program} {w : World} {A : Around} {E : Value → Shared → Prop} {s : Shared} {K : Frag} {h₀ : Heap} {L : Addr} {m : Str → Option Value} {x C f : Addr} {ox : Obj} {od : Option Obj}
/-- a built-in value ahead, that declines; the instance's own == is asked behind -/
theorem rc_behind {a : Value} {Ta ida : String} {Q : Value → Shared → Prop} (hu : A.units < cLine) (F : Fr h₀ L s.heap m) (X₀ : K.In h₀) (I : InstAt s.heap x ox C od) (ha : s.TypeIs a Ta) (hsub : subIn K (.ref C) (.type Ta) = some false) (h1 : Slot Ta "__eq__" ida)
    (hc1 : ∀ Q' : Value → Shared → Prop, Q' .notImplemented s → wpAny (model prog w) A (call (.builtin ida) [a, .ref x]) Q' E s)
    (hs : findIn K (.ref C) "__eq__" = some (some (.ref f))) (hf : isFn K (.ref f) = true) (h : wpAny (model prog w) A (call (.ref f) [.ref x, a]) (PySem.W.CmpBack Q) E s) : wpAny (model prog w) A (richCompare .Eq a (.ref x)) Q E s := by
  have X := X₀.keeps F.keep
  have one : wpAny (model prog w) A (tryCompare (.ref x) "__eq__" a) (fun r s' => ∃ v, r = some v ∧ Q v s') E s := by
    unfold tryCompare
    refine wpAny_bind (ifBound_K X I hs hf (wpAny_mono h (fun v s' hv => ?_) fun _ _ e => e))
    cases v <;> first | exact hv.elim | exact wpAny_pure ⟨_, rfl, hv⟩
  have hne : (Value.type Ta != Value.ref C) = true := by simp
  simp only [richCompare, cmpInfo, ha.oneThing_none]
  refine wpAny_holding (wpAny_bind (wpAny_cRoomFor hu ?_))
  refine wpAny_bind (wpAny_typeOf ha (wpAny_bind (I.type.here ?_)))
  simp only [hne, if_true]
  refine wpAny_bind ((looks_subIn X hsub).here ?_)
  simp only [Bool.false_eq_true, if_false, Bool.not_false, if_true]
  refine wpAny_bind (m := tryCompare a _ (.ref x)) (wpAny_tryCompare_declines ha h1 (hc1 _ ⟨rfl, ?_⟩))
  refine wpAny_bind (wpAny_mono one (fun r s' z => ?_) fun _ _ e => e)
  obtain ⟨v, rfl, hq⟩ := z
  exact wpAny_pure hq
end

section
variable {prog : Program} {w : World} {A : Around} {E : Value → Shared → Prop} {s : Shared} {K : Frag} {C : Addr}
open AutoSeq1 (wpAny_loadPart')
open MeetsSeq MeetsSeq2 MeetsSeq3 SeqRoads2
theorem tup_no {l d : Addr} {items : Array Value} {n : Nat} {dd : Option Addr} {sl : Array (Option Value)} {dx : Addr} {Q' : Value → Shared → Prop} (X : K.In s.heap) (hsub : subIn K (.ref C) (.type "tuple") = some false)
    (hl : s.heap.get? l = some { cls := .type "tuple", dict := dd, data := .seq items n, slots := sl }) (hd : s.heap.get? d = some { cls := .ref C, dict := some dx, data := .plain }) (hq : Q' .notImplemented s) :
    wpAny (model prog w) A (call (.builtin "tuple.__eq__") [.ref l, .ref d]) Q' E s := by
  refine GQ.call_here F.slot_tuple_eq ⟨_, hl, rfl⟩ F.entry_tuple_eq (F.args_tuple_eq_2 _ _) ?_
  have hs : ∀ {Q : Bool → Shared → Prop}, Q false s → wpAny (model prog w) A.in1 (isSubtype (.ref C) (.type "tuple")) Q (fun e s' => wants Q' E (.error e) s') s := fun {Q} q => (looks_subIn X hsub).here q
  obtain ⟨hp, g, dr, tk, os⟩ := s
  wp_walk using wpAny_loadPart' hl, wpAny_loadPart' hd, wpAny_load hd, hs
  all_goals first | exact hq | exact ⟨_, rfl, hq⟩ | skip
end
end PmEqo

namespace Pm
open PySem PySem.Spec PyProof.Rows L2
/-! ### data in which sets of days stand: what stands for it, when two such are == -/
inductive WD where
  | non | bl (b : Bool) | int (n : Int) | str (s : PySem.Str) | days (rs : List Bool) (ts : List Int) | tup (l : List WD)
mutual
def weq : WD → WD → Bool
  | .non, .non => true
  | .bl a, .bl b => a == b
  | .bl a, .int b => (if a then 1 else 0) == b
  | .int a, .bl b => a == (if b then 1 else 0)
  | .int a, .int b => a == b
  | .str a, .str b => a == b
  | .days r t, .days r' t' => r == r' && t == t'
  | .tup l, .tup m => weqL l m
  | _, _ => false
def weqL : List WD → List WD → Bool
  | [], [] => true
  | a :: l, b :: m => weq a b && weqL l m
  | _, _ => false
end
mutual
theorem weq_refl : ∀ a : WD, weq a a = true
  | .non => rfl
  | .bl a => by simp [weq]
  | .int a => by simp [weq]
  | .str a => by simp [weq]
  | .days r t => by simp [weq]
  | .tup l => by rw [weq]; exact weqL_refl l
theorem weqL_refl : ∀ l : List WD, weqL l l = true
  | [] => rfl
  | a :: l => by rw [weqL, weq_refl a, weqL_refl l]; rfl
end
mutual
theorem weq_symm : ∀ a b : WD, weq a b = weq b a
  | .non, b => by cases b <;> rfl
  | .bl a, b => by cases b <;> simp [weq, Bool.beq_comm, eq_comm]
  | .int a, b => by cases b <;> simp [weq, Bool.beq_comm, eq_comm]
  | .str a, b => by cases b <;> first | rfl | (rw [weq, weq]; exact BEq.comm)
  | .days r t, b => by cases b <;> first | rfl | (rw [weq, weq, BEq.comm (a := r), BEq.comm (a := t)])
  | .tup l, b => by
    cases b with
    | tup m => rw [weq, weq]; exact weqL_symm l m
    | _ => rfl
theorem weqL_symm : ∀ l m : List WD, weqL l m = weqL m l
  | [], [] => rfl
  | [], b :: m => rfl
  | a :: l, [] => rfl
  | a :: l, b :: m => by rw [weqL, weqL, weq_symm a b, weqL_symm l m]
end
mutual
theorem weq_trans : ∀ a b c : WD, weq a b = true → weq b c = true → weq a c = true
  | .non, b, c, h1, h2 => by cases b <;> cases c <;> simp_all [weq]
  | .bl a, b, c, h1, h2 => by cases b <;> cases c <;> first | (simp_all [weq]; done) | (cases a <;> simp_all [weq]; done) | (rename_i x y; cases a <;> cases y <;> simp_all [weq])
  | .int a, b, c, h1, h2 => by
    cases b with
    | bl b => cases c with
      | bl c => simp only [weq, beq_iff_eq] at h1 h2 ⊢; rw [h1, h2]
      | int c => simp only [weq, beq_iff_eq] at h1 h2 ⊢; rw [h1, h2]
      | _ => simp [weq] at h2
    | int b => cases c with
      | bl c => simp only [weq, beq_iff_eq] at h1 h2 ⊢; rw [h1, h2]
      | int c => simp only [weq, beq_iff_eq] at h1 h2 ⊢; rw [h1, h2]
      | _ => simp [weq] at h2
    | _ => simp [weq] at h1
  | .str a, b, c, h1, h2 => by cases b <;> cases c <;> simp_all [weq]
  | .days r t, b, c, h1, h2 => by cases b <;> cases c <;> simp_all [weq]
  | .tup l, b, c, h1, h2 => by
    cases b with
    | tup m => cases c with
      | tup k => rw [weq] at h1 h2 ⊢; exact weqL_trans l m k h1 h2
      | _ => simp [weq] at h2
    | _ => simp [weq] at h1
theorem weqL_trans : ∀ l m k : List WD, weqL l m = true → weqL m k = true → weqL l k = true
  | [], [], [], _, _ => rfl
  | [], [], c :: k, _, h => by simp [weqL] at h
  | [], b :: m, k, h, _ => by simp [weqL] at h
  | a :: l, [], k, h, _ => by simp [weqL] at h
  | a :: l, b :: m, [], _, h => by simp [weqL] at h
  | a :: l, b :: m, c :: k, h1, h2 => by
    rw [weqL, Bool.and_eq_true] at h1 h2 ⊢
    exact ⟨weq_trans a b c h1.1 h2.1, weqL_trans l m k h1.2 h2.2⟩
end

/-- the attributes of a set of days -/
def dfs (r : Addr) (p : Int) (m t : Addr) : List (PySem.Str × V) := [("rests", .ref r), ("period", .int p), ("marks", .ref m), ("turned", .ref t)]
/-- the marks of rests -/
def marksFrom (i : Nat) : List Bool → List Int
  | [] => []
  | b :: l => if b = true then (i : Int) :: marksFrom (i + 1) l else marksFrom (i + 1) l
/-- a set of days stands -/
structure DaysAt (K : PySem.W.Frag) (C : Addr) (H : Hp) (a : Addr) (rs : List Bool) (ts : List Int) : Prop where
  ex : ∃ dx r m t, H a = some (.ins C dx (dfs r rs.length m t)) ∧ Tp K H r (rs.map V.bl) ∧ Tp K H m ((marksFrom 0 rs).map V.int) ∧ Tp K H t (ts.map V.int)
/-- pairwise along two lists -/
inductive Par {α β : Type} (R : α → β → Prop) : List α → List β → Prop
  | nil : Par R [] []
  | cons {a : α} {b : β} {l : List α} {m : List β} : R a b → Par R l m → Par R (a :: l) (b :: m)
theorem Par.length {α β : Type} {R : α → β → Prop} {l : List α} {m : List β} (h : Par R l m) : l.length = m.length := by
  induction h with
  | nil => rfl
  | cons _ _ ih => simp [ih]
theorem Par.imp {α β : Type} {R S : α → β → Prop} (f : ∀ a b, R a b → S a b) {l : List α} {m : List β} (h : Par R l m) : Par S l m := by
  induction h with
  | nil => exact .nil
  | cons h _ ih => exact .cons (f _ _ h) ih
theorem Par.get {α β : Type} {R : α → β → Prop} {l : List α} {m : List β} (h : Par R l m) : ∀ (i : Nat) (a : α), l[i]? = some a → ∃ b, m[i]? = some b ∧ R a b := by
  induction h with
  | nil => intro i a e; simp at e
  | cons h _ ih =>
    intro i a e
    cases i with
    | zero => simp at e; subst e; exact ⟨_, rfl, h⟩
    | succ i => simp at e ⊢; exact ih i a e
theorem Par.get' {α β : Type} {R : α → β → Prop} {l : List α} {m : List β} (h : Par R l m) : ∀ (i : Nat) (b : β), m[i]? = some b → ∃ a, l[i]? = some a ∧ R a b := by
  induction h with
  | nil => intro i a e; simp at e
  | cons h _ ih =>
    intro i a e
    cases i with
    | zero => simp at e; subst e; exact ⟨_, rfl, h⟩
    | succ i => simp at e ⊢; exact ih i a e
theorem Par.append {α β : Type} {R : α → β → Prop} {l l' : List α} {m m' : List β} (h : Par R l m) (h' : Par R l' m') : Par R (l ++ l') (m ++ m') := by
  induction h with
  | nil => exact h'
  | cons h _ ih => exact .cons h ih
theorem Par.snoc {α β : Type} {R : α → β → Prop} {l : List α} {m : List β} {a : α} {b : β} (h : Par R l m) (h' : R a b) : Par R (l ++ [a]) (m ++ [b]) := h.append (.cons h' .nil)
theorem Par.take {α β : Type} {R : α → β → Prop} {l : List α} {m : List β} (h : Par R l m) : ∀ n : Nat, Par R (l.take n) (m.take n) := by
  induction h with
  | nil => intro n; simp; exact .nil
  | cons h _ ih =>
    intro n
    cases n with
    | zero => exact .nil
    | succ n => exact .cons h (ih n)
theorem Par.drop {α β : Type} {R : α → β → Prop} {l : List α} {m : List β} (h : Par R l m) : ∀ n : Nat, Par R (l.drop n) (m.drop n) := by
  induction h with
  | nil => intro n; simp; exact .nil
  | cons h t ih =>
    intro n
    cases n with
    | zero => exact .cons h t
    | succ n => exact ih n
/-- v stands for a datum, n tuples deep at most -/
def WAt (K : PySem.W.Frag) (C : Addr) (H : Hp) : Nat → V → WD → Prop
  | 0, v, d => match d with
    | .non => v = .non
    | .bl b => v = .bl b
    | .int i => v = .int i
    | .str x => v = .str x
    | .days rs ts => ∃ a, v = .ref a ∧ DaysAt K C H a rs ts
    | .tup _ => False
  | n + 1, v, d => match d with
    | .non => v = .non
    | .bl b => v = .bl b
    | .int i => v = .int i
    | .str x => v = .str x
    | .days rs ts => ∃ a, v = .ref a ∧ DaysAt K C H a rs ts
    | .tup l => ∃ p vs, v = .ref p ∧ Tp K H p vs ∧ Par (WAt K C H n) vs l
/-- tuples and sets of days stay -/
structure Tw (H H' : Hp) : Prop where
  t : ∀ b xs, H b = some (.tup xs) → H' b = some (.tup xs)
  d : ∀ b C dx fs, H b = some (.ins C dx fs) → H' b = some (.ins C dx fs)
section
variable {K : PySem.W.Frag} {C : Addr} {H H' H1 : Hp} {m n p a : Addr} {xs : List V} {rs : List Bool} {ts : List Int} {v : V} {d : WD} {k : Nat}
theorem Tw.refl (H : Hp) : Tw H H := ⟨fun _ _ h => h, fun _ _ _ _ h => h⟩
theorem Tw.same (e : Same H H') : Tw H H' := ⟨fun b xs h => e b _ h, fun b _ _ _ h => e b _ h⟩
theorem Tw.fxl {xs ys : List V} (e : Fx m n H H') (hm : H m = some (.lst xs)) (hn : H n = some (.lst ys)) : Tw H H' := ⟨fun b xs h => e.tup b xs h, fun b C dx fs h => e.oth b _ h (ne_of h hm (fun z => nomatch z)) (ne_of h hn (fun z => nomatch z))⟩
theorem Tw.trans (a : Tw H H1) (b : Tw H1 H') : Tw H H' := ⟨fun c xs h => b.t c xs (a.t c xs h), fun c C dx fs h => b.d c C dx fs (a.d c C dx fs h)⟩
theorem Tw.tm (a : Tw H H') : Tm H H' := ⟨a.t⟩
theorem Tp.tw {xs : List V} (h : Tp K H p xs) (e : Tw H H') : Tp K H' p xs := h.tm e.tm
theorem DaysAt.tw (h : DaysAt K C H a rs ts) (e : Tw H H') : DaysAt K C H' a rs ts := by
  obtain ⟨dx, r, m, t, h1, h2, h3, h4⟩ := h.ex
  exact ⟨dx, r, m, t, e.d _ _ _ _ h1, h2.tw e, h3.tw e, h4.tw e⟩
theorem WAt.tw : ∀ {k : Nat} {v : V} {d : WD}, WAt K C H k v d → Tw H H' → WAt K C H' k v d := by
  intro k
  induction k with
  | zero =>
    intro v d h e
    cases d with
    | days rs ts => obtain ⟨a, rfl, h⟩ := h; exact ⟨a, rfl, h.tw e⟩
    | _ => exact h
  | succ k ih =>
    intro v d h e
    cases d with
    | days rs ts => obtain ⟨a, rfl, h⟩ := h; exact ⟨a, rfl, h.tw e⟩
    | tup l => obtain ⟨p, vs, rfl, hp, h⟩ := h; exact ⟨p, vs, rfl, hp.tw e, h.imp fun _ _ z => ih z e⟩
    | _ => exact h
theorem WAt.up : ∀ {k : Nat} {v : V} {d : WD}, WAt K C H k v d → WAt K C H (k + 1) v d := by
  intro k
  induction k with
  | zero => intro v d h; cases d <;> first | exact h | exact h.elim
  | succ k ih =>
    intro v d h
    cases d with
    | tup l => obtain ⟨p, vs, rfl, hp, h⟩ := h; exact ⟨p, vs, rfl, hp, h.imp fun _ _ z => ih z⟩
    | _ => exact h
theorem WAt.mono (h : WAt K C H k v d) {j : Nat} (e : k ≤ j) : WAt K C H j v d := by
  obtain ⟨i, rfl⟩ := Nat.le.dest e
  clear e
  induction i with
  | zero => exact h
  | succ i ih => exact ih.up
end
end Pm

namespace Pm
open PySem PySem.Spec PyProof.Rows L2
/-! ### what stands stands for one datum alone -/
theorem relV_inj {x y : V} {u : Value} (h1 : RelV x u) (h2 : RelV y u) : x = y := by
  cases x <;> simp only [L2.RelV] at h1 <;> first
    | (subst h1; cases y <;> simp only [L2.RelV] at h2 <;> first | rfl | (cases h2; rfl) | (cases h2; done) | (obtain ⟨t2, h2⟩ := h2; cases h2))
    | (obtain ⟨t1, h1⟩ := h1; subst h1; cases y <;> simp only [L2.RelV] at h2 <;> first | (cases h2; done) | (obtain ⟨t2, h2⟩ := h2; first | (cases h2; rfl) | cases h2))
theorem vals_inj : ∀ {xs ys : List V} {us : List Value}, Vals xs us → Vals ys us → xs = ys
  | _, _, _, .nil, .nil => rfl
  | _, _, _, .cons r t, .cons r' t' => by rw [relV_inj r r', vals_inj t t']
section
variable {X : Cx} {pins : List (Addr × Obj)} {σ : L2.St} {H : Hp} {s : Shared} {C : Addr}
theorem tp_det {p : Addr} {xs ys : List V} (I : Inv X pins σ H s) (h1 : Tp X.K H p xs) (h2 : Tp X.K H p ys) : xs = ys := by
  obtain ⟨its, r1, e1, _⟩ := I.tuple h1.sq
  obtain ⟨its2, r2, e2, _⟩ := I.tuple h2.sq
  obtain ⟨o1, a1, _, n1, d1⟩ := e1
  obtain ⟨o2, a2, _, n2, d2⟩ := e2
  rw [a1] at a2
  cases a2
  rw [d1] at d2
  injection d2 with e
  have e : its = its2 := by have := congrArg Array.toList e; simpa using this
  subst e
  exact vals_inj r1 r2
theorem map_inj' {α β : Type} {f : α → β} (hf : ∀ a b, f a = f b → a = b) : ∀ {l m : List α}, l.map f = m.map f → l = m
  | [], [], _ => rfl
  | [], _ :: _, h => by simp at h
  | _ :: _, [], h => by simp at h
  | a :: l, b :: m, h => by
    simp only [List.map_cons] at h
    injection h with h1 h2
    rw [hf _ _ h1, map_inj' hf h2]
theorem days_det {a : Addr} {rs rs' : List Bool} {ts ts' : List Int} (I : Inv X pins σ H s) (h1 : DaysAt X.K C H a rs ts) (h2 : DaysAt X.K C H a rs' ts') : rs = rs' ∧ ts = ts' := by
  obtain ⟨dx, r, m, t, e1, e2, _, e4⟩ := h1.ex
  obtain ⟨dx', r', m', t', f1, f2, _, f4⟩ := h2.ex
  rw [e1] at f1
  simp only [Option.some.injEq, HO.ins.injEq, dfs, List.cons.injEq, Prod.mk.injEq, V.ref.injEq, true_and, and_true] at f1
  obtain ⟨_, rfl, _, _, rfl⟩ := f1
  exact ⟨map_inj' (fun a b h => by injection h) (tp_det I e2 f2), map_inj' (fun a b h => by injection h) (tp_det I e4 f4)⟩
theorem ins_no_tp {p C dx : Addr} {fs : List (PySem.Str × V)} {xs : List V} (I : Inv X pins σ H s) (h1 : H p = some (.ins C dx fs)) (h2 : Tp X.K H p xs) : False := by
  obtain ⟨its, _, e1, _⟩ := I.tuple h2.sq
  obtain ⟨o, a, c, _, _⟩ := e1
  obtain ⟨mA, J, _⟩ := ins_get I.hok h1
  have o1 := J.obj
  rw [a] at o1
  cases o1
  cases c
theorem par_eq {α : Type} {R S : α → WD → Prop} (f : ∀ a b c, R a b → S a c → b = c) : ∀ {l : List α} {m k : List WD}, Par R l m → Par S l k → m = k
  | _, _, _, .nil, .nil => rfl
  | _, _, _, .cons r t, .cons r' t' => by rw [f _ _ _ r r', par_eq f t t']
theorem wat_det (I : Inv X pins σ H s) : ∀ {n k : Nat} {v : V} {a b : WD}, WAt X.K C H n v a → WAt X.K C H k v b → a = b := by
  intro n
  induction n with
  | zero =>
    intro k v a b h1 h2
    cases k <;> cases a <;> cases b <;> simp only [WAt] at h1 h2 <;> first
      | rfl
      | (subst h1; cases h2; rfl)
      | (subst h1; cases h2; done)
      | (subst h2; obtain ⟨_, e, _⟩ := h1; cases e; done)
      | (subst h1; obtain ⟨_, e, _⟩ := h2; cases e; done)
      | (subst h1; obtain ⟨_, _, e, _⟩ := h2; cases e; done)
      | (obtain ⟨p, rfl, h1⟩ := h1; obtain ⟨p', e, h2⟩ := h2; cases e; obtain ⟨rfl, rfl⟩ := days_det I h1 h2; rfl)
      | (obtain ⟨p, rfl, h1⟩ := h1; obtain ⟨p', vs, e, h2, _⟩ := h2; cases e; obtain ⟨_, _, _, _, e1, _⟩ := h1.ex; exact (ins_no_tp I e1 h2).elim)
      | exact h1.elim
      | exact h2.elim
  | succ n ih =>
    intro k v a b h1 h2
    cases k <;> cases a <;> cases b <;> simp only [WAt] at h1 h2 <;> first
      | rfl
      | (subst h1; cases h2; rfl)
      | (subst h1; cases h2; done)
      | (subst h2; obtain ⟨_, e, _⟩ := h1; cases e; done)
      | (subst h2; obtain ⟨_, _, e, _⟩ := h1; cases e; done)
      | (subst h1; obtain ⟨_, e, _⟩ := h2; cases e; done)
      | (subst h1; obtain ⟨_, _, e, _⟩ := h2; cases e; done)
      | (obtain ⟨p, rfl, h1⟩ := h1; obtain ⟨p', e, h2⟩ := h2; cases e; obtain ⟨rfl, rfl⟩ := days_det I h1 h2; rfl)
      | (obtain ⟨p, rfl, h1⟩ := h1; obtain ⟨p', vs, e, h2, _⟩ := h2; cases e; obtain ⟨_, _, _, _, e1, _⟩ := h1.ex; exact (ins_no_tp I e1 h2).elim)
      | (obtain ⟨p, vs, rfl, h1, _⟩ := h1; obtain ⟨p', e, h2⟩ := h2; cases e; obtain ⟨_, _, _, _, e1, _⟩ := h2.ex; exact (ins_no_tp I e1 h1).elim)
      | (obtain ⟨p, vs, rfl, h1, g1⟩ := h1; obtain ⟨p', vs', e, h2, g2⟩ := h2; cases e; cases tp_det I h1 h2; rw [par_eq (R := WAt X.K C H n) (S := WAt X.K C H _) (fun _ _ _ r s => ih r s) g1 g2])
      | exact h1.elim
      | (obtain ⟨p, vs, rfl, h1, g1⟩ := h1; obtain ⟨p', vs', e, h2, g2⟩ := h2; cases e; have z := tp_det I h1 h2; subst z; exact congrArg _ (par_eq (R := WAt X.K C H n) (S := WAt X.K C H _) (fun _ _ _ r s => ih r s) g1 g2))
end
end Pm
namespace Pm
open PySem PySem.Spec PyProof.Rows L2
/-- what Days' own == promises -/
def spEqD (K : PySem.W.Frag) (C : Addr) : Sp := fun vs H Q _ => ∃ (n : Nat) (a : Addr) (y : V) (rs : List Bool) (ts : List Int) (d : WD), vs = [.ref a, y] ∧ DaysAt K C H a rs ts ∧ WAt K C H n y d ∧ ∀ H', Same H H' → Q (.bl (weq (.days rs ts) d)) H'
/-- a class with an own == : what == of its instances asks of the text -/
structure EqC (P : Program) (w : World) (K : PySem.W.Frag) (mg : Str → Option Value) (base : Heap) (kq : Nat) (C : Addr) : Prop where
  cls : Cls K C
  ex : ∃ fe fd, PySem.W.findIn K (.ref C) "__eq__" = some (some (.ref fe)) ∧ PySem.W.isFn K (.ref fe) = true ∧ FnG P w K mg base CX0 kq fe fd ["self", "other"] (spEqD K C) ∧ Binds K fd ["self", "other"] []
  bel : ∀ T ∈ (["NoneType", "bool", "int", "str", "tuple"] : List String), PySem.W.subIn K (.type T) (.ref C) = some false
  abv : ∀ T ∈ (["NoneType", "bool", "int", "str", "tuple"] : List String), PySem.W.subIn K (.ref C) (.type T) = some false
/-- somewhere below the running body, with room, no repr under way -/
structure SubG (X : Cx) (n : Nat) (A : Around) : Prop where
  room : Room n A
  fr : A.frames = X.A.frames
  gd : A.guards = some []
theorem SubG.in1 {X : Cx} {n : Nat} {A : Around} (s : SubG X (n + 1) A) : SubG X n A.in1 := ⟨s.room.in1, s.fr, s.gd⟩
theorem SubG.mono {X : Cx} {n m : Nat} {A : Around} (s : SubG X n A) (h : m ≤ n) : SubG X m A := ⟨s.room.mono h, s.fr, s.gd⟩
section
variable {X : Cx} {pins : List (Addr × Obj)} {σ : L2.St} {H : Hp} {s : Shared} {C : Addr} {kq n k : Nat} {A : Around}
def EqPost (X : Cx) (pins : List (Addr × Obj)) (σ : L2.St) (H : Hp) (b : Bool) (r : Value) (s' : Shared) : Prop := r = .bool b ∧ ∃ H', Inv X pins σ H' s' ∧ Same H H'
theorem call_own (E : EqC X.prog X.w X.K X.mg X.base kq C) (sb : SubG X kq A) (I : Inv X pins σ H s) {a fe : Addr} {rs : List Bool} {ts : List Int} {y : V} {v : Value} {d : WD} (ha : DaysAt X.K C H a rs ts) (hy : WAt X.K C H n y d) (ry : L2.RelV y v)
    (he : PySem.W.findIn X.K (.ref C) "__eq__" = some (some (.ref fe))) : wpAny (model X.prog X.w) A (call (.ref fe) [.ref a, v]) (EqPost X pins σ H (weq (.days rs ts) d)) X.xe s := by
  obtain ⟨fe', fd, he', _, F, hb⟩ := E.ex
  rw [he] at he'
  cases he'
  have e0 : Env0 X.prog X.w X.K X.mg X.base A X.stack s H := by
    have e := I.env0
    exact ⟨by rw [sb.fr]; exact e.frames, e.mod, e.bs, e.bsz, e.funs, e.frf, e.hok, e.bare⟩
  have hsp : spEqD X.K C [.ref a, y] H (fun w H' => w = .bl (weq (.days rs ts) d) ∧ Same H H') (fun _ _ _ => False) := ⟨n, a, y, rs, ts, d, rfl, ha, hy, fun H' e => ⟨rfl, e⟩⟩
  have r2 : Vals [V.ref a, y] [Value.ref a, v] := .cons rfl (.cons ry .nil)
  refine wpAny_call (codeAny_mono (F.run A sb.gd X.stack s H ⟨[.ref a, v], []⟩ [.ref a, v] [.ref a, y] _ (fun _ _ _ => False) sb.room e0 (by simpa using hb s [.ref a, v] I.kIn rfl) r2 hsp) fun r s' hq => ?_)
  cases r with
  | error e => exact (show Passes CX0 X (fun _ _ _ => False) from pass0) pins σ H s e s' I hq
  | ok fl =>
    cases fl with
    | ret w =>
      obtain ⟨z, H', I', rz, ez, ex⟩ := I.after hq
      subst ez
      cases rz
      exact ⟨rfl, H', I', ex⟩
    | next => exact False.elim hq
    | brk => exact False.elim hq
    | cont => exact False.elim hq
theorem back_of {b : Bool} {w : Value} {s' : Shared} (h : EqPost X pins σ H b w s') : PySem.W.CmpBack (EqPost X pins σ H b) w s' := by
  obtain ⟨rfl, h⟩ := h
  exact ⟨rfl, h⟩
theorem ty_of {y : V} {v : Value} {d : WD} (I : Inv X pins σ H s) (hy : WAt X.K C H n y d) (ry : L2.RelV y v) :
    PySem.W.Looks (model X.prog X.w) s.heap (typeOf v) (.ref C) ∨ ∃ T ∈ (["NoneType", "bool", "int", "str", "tuple"] : List String), PySem.W.Looks (model X.prog X.w) s.heap (typeOf v) (.type T) := by
  have key : ∀ (a : Addr) (rs : List Bool) (ts : List Int), DaysAt X.K C H a rs ts → PySem.W.Looks (model X.prog X.w) s.heap (typeOf (.ref a)) (.ref C) := fun a rs ts h => by
    obtain ⟨dx, _, _, _, e, _⟩ := h.ex
    obtain ⟨mA, J, _⟩ := ins_get I.hok e
    obtain ⟨od, J, _⟩ := J.look
    exact J.type
  cases n <;> cases d <;> simp only [WAt] at hy <;> first
    | exact hy.elim
    | (subst hy; cases ry; exact .inr ⟨"NoneType", by simp, .now⟩)
    | (subst hy; cases ry; exact .inr ⟨"bool", by simp, .now⟩)
    | (subst hy; obtain ⟨t, rfl⟩ := ry; exact .inr ⟨"int", by simp, .now⟩)
    | (subst hy; obtain ⟨t, rfl⟩ := ry; exact .inr ⟨"str", by simp, .now⟩)
    | (obtain ⟨a, rfl, h⟩ := hy; cases ry; exact .inl (key a _ _ h))
    | (obtain ⟨p, vs, rfl, hp, _⟩ := hy
       cases ry
       obtain ⟨its, _, e1, _⟩ := I.tuple hp.sq
       obtain ⟨o, a, c, _, _⟩ := e1
       refine .inr ⟨"tuple", by simp, ?_⟩
       rw [← c]
       exact (PySem.W.Looks.ld a).andThen .now)
/-- the instance on the left -/
theorem rc_left (E : EqC X.prog X.w X.K X.mg X.base kq C) (sb : SubG X kq A) (I : Inv X pins σ H s) {a : Addr} {rs : List Bool} {ts : List Int} {y : V} {v : Value} {d : WD} (ha : DaysAt X.K C H a rs ts) (hy : WAt X.K C H n y d) (ry : L2.RelV y v) :
    wpAny (model X.prog X.w) A (richCompare .Eq (.ref a) v) (EqPost X pins σ H (weq (.days rs ts) d)) X.xe s := by
  obtain ⟨fe, fd, he, hf, F, hb⟩ := E.ex
  obtain ⟨dx, _, _, _, e, _⟩ := ha.ex
  obtain ⟨mA, J, _⟩ := ins_get I.hok e
  obtain ⟨od, J, _⟩ := J.look
  obtain ⟨m, hF⟩ := I.fr
  have hcall := wpAny_mono (call_own E sb I ha hy ry he) (fun _ _ z => back_of z) fun _ _ z => z
  rcases ty_of I hy ry with hT | ⟨T, hm, hT⟩
  · exact PySem.W.cmp_K (op := .Eq) (tb := .ref C) sb.room.units0 hF I.ok.mod.kin J hT (by simp [PySem.W.notFirst]) he hf hcall
  · exact PySem.W.cmp_K (op := .Eq) (tb := .type T) sb.room.units0 hF I.ok.mod.kin J hT (by simp [PySem.W.notFirst, E.bel T hm]) he hf hcall
end
end Pm

namespace Pm
open PySem PySem.Spec PyProof.Rows L2
section
variable {X : Cx} {pins : List (Addr × Obj)} {σ : L2.St} {H : Hp} {s : Shared} {C : Addr} {kq n k : Nat} {A : Around}
theorem weq_days (a : WD) (rs : List Bool) (ts : List Int) (h : ∀ r t, a ≠ .days r t) : weq a (.days rs ts) = false := by
  cases a <;> first | rfl | exact (h _ _ rfl).elim
/-- the instance on the right, a built-in value on the left -/
theorem rc_right (E : EqC X.prog X.w X.K X.mg X.base kq C) (sb : SubG X kq A) (I : Inv X pins σ H s) {b : Addr} {rs : List Bool} {ts : List Int} {y : V} {v : Value} {d : WD} (hb : DaysAt X.K C H b rs ts) (hy : WAt X.K C H n y d) (ry : L2.RelV y v)
    (hn : ∀ r t, d ≠ .days r t) : wpAny (model X.prog X.w) A (richCompare .Eq v (.ref b)) (EqPost X pins σ H (weq d (.days rs ts))) X.xe s := by
  obtain ⟨fe, fd, he, hf, F, hbb⟩ := E.ex
  obtain ⟨dx, _, _, _, e, _⟩ := hb.ex
  obtain ⟨mA, J0, _⟩ := ins_get I.hok e
  have ob := J0.obj
  obtain ⟨od, J, _⟩ := J0.look
  obtain ⟨m, hF⟩ := I.fr
  have hcall := call_own E sb I hb hy ry he
  rw [weq_symm] at hcall
  have hcall := wpAny_mono hcall (fun _ _ z => back_of z) fun _ _ z => z
  have c0 : d = .non → v = .none → wpAny (model X.prog X.w) A (richCompare .Eq v (.ref b)) (EqPost X pins σ H (weq d (.days rs ts))) X.xe s := fun e1 e2 => by
    subst e1 e2
    exact PmEqo.rc_behind sb.room.units0 hF I.ok.mod.kin J (Ta := "NoneType") rfl (E.abv _ (by simp)) PySem.F.slot_NoneType_eq (fun _ hq => PySem.call_gives PySem.F.slot_NoneType_eq rfl PySem.F.entry_NoneType_eq (PySem.F.args_NoneType_eq_2 _ _) (SeqAt.NoneType___eq___none_ref_0 b) hq) he hf hcall
  have c1 : ∀ k, d = .bl k → v = .bool k → wpAny (model X.prog X.w) A (richCompare .Eq v (.ref b)) (EqPost X pins σ H (weq d (.days rs ts))) X.xe s := fun k e1 e2 => by
    subst e1 e2
    exact PmEqo.rc_behind sb.room.units0 hF I.ok.mod.kin J (Ta := "bool") rfl (E.abv _ (by simp)) PySem.F.slot_bool_eq (fun _ hq => PySem.call_meets PySem.F.slot_bool_eq rfl PySem.F.entry_int_eq (PySem.F.args_int_eq_2 _ _) (PmEqo.bool_no _ b C (some dx)) ⟨ob, hq⟩) he hf hcall
  have c2 : ∀ k t, d = .int k → v = .int k t → wpAny (model X.prog X.w) A (richCompare .Eq v (.ref b)) (EqPost X pins σ H (weq d (.days rs ts))) X.xe s := fun k t e1 e2 => by
    subst e1 e2
    exact PmEqo.rc_behind sb.room.units0 hF I.ok.mod.kin J (Ta := "int") (typeIs_int s _ t) (E.abv _ (by simp)) PySem.F.slot_int_eq (fun _ hq => PySem.call_meets PySem.F.slot_int_eq (typeIs_int s _ t) PySem.F.entry_int_eq (PySem.F.args_int_eq_2 _ _) (PmEqo.int_no _ t b C (some dx)) ⟨ob, hq⟩) he hf hcall
  have c3 : ∀ k t, d = .str k → v = .str k t → wpAny (model X.prog X.w) A (richCompare .Eq v (.ref b)) (EqPost X pins σ H (weq d (.days rs ts))) X.xe s := fun k t e1 e2 => by
    subst e1 e2
    exact PmEqo.rc_behind sb.room.units0 hF I.ok.mod.kin J (Ta := "str") rfl (E.abv _ (by simp)) PySem.F.slot_str_eq (fun _ hq => PySem.call_meets PySem.F.slot_str_eq rfl PySem.F.entry_str_eq (PySem.F.args_str_eq_2 _ _) (PmEqo.str_no _ t b C (some dx)) ⟨ob, hq⟩) he hf hcall
  have c4 : ∀ p vs l, d = .tup l → v = .ref p → Tp X.K H p vs → wpAny (model X.prog X.w) A (richCompare .Eq v (.ref b)) (EqPost X pins σ H (weq d (.days rs ts))) X.xe s := fun p vs l e1 e2 hp => by
    subst e1 e2
    obtain ⟨its, _, e1, _⟩ := I.tuple hp.sq
    obtain ⟨⟨cls, dd, data, sl⟩, a, c, nn, dt⟩ := e1
    simp only at c dt
    subst c dt
    exact PmEqo.rc_behind sb.room.units0 hF I.ok.mod.kin J (Ta := "tuple") ⟨_, a, rfl⟩ (E.abv _ (by simp)) PySem.F.slot_tuple_eq (fun _ hq => PmEqo.tup_no I.kIn (E.abv _ (by simp)) a ob hq) he hf hcall
  cases n <;> cases d <;> simp only [WAt] at hy <;> first
    | exact hy.elim
    | exact (hn _ _ rfl).elim
    | (subst hy; exact c0 rfl ry)
    | (subst hy; exact c1 _ rfl ry)
    | (subst hy; obtain ⟨t, rfl⟩ := ry; exact c2 _ t rfl rfl)
    | (subst hy; obtain ⟨t, rfl⟩ := ry; exact c3 _ t rfl rfl)
    | (obtain ⟨p, vs, rfl, hp, _⟩ := hy; exact c4 p vs _ rfl ry hp)
theorem rc_flat (I : Inv X pins σ H s) {u v : Value} {b c : Bool} (h : SeqAt.RcAt A s u v b) (e : b = c) : wpAny (model X.prog X.w) A (richCompare .Eq u v) (EqPost X pins σ H c) X.xe s := by
  subst e
  exact h X.prog X.w X.xe _ ⟨rfl, H, I, Same.refl _⟩
theorem weqL_all : ∀ (l m : List WD), weqL l m = ((List.range (min l.length m.length)).all (fun i => weq (l.getD i .non) (m.getD i .non)) && l.length == m.length)
  | [], [] => rfl
  | [], b :: m => by simp [weqL]
  | a :: l, [] => by simp [weqL]
  | a :: l, b :: m => by
    rw [weqL, weqL_all l m]
    simp only [List.length_cons, Nat.add_min_add_right, List.range_succ_eq_map, List.all_cons, List.all_map]
    simp [Bool.and_assoc, Function.comp_def]
/-- == inside a tuple, from the rich comparison -/
theorem eqB_of {x y : V} {u v : Value} {a b : WD} (I : Inv X pins σ H s) (rx : L2.RelV x u) (ry : L2.RelV y v) (hx : WAt X.K C H n x a) (hy : WAt X.K C H k y b)
    (h : wpAny (model X.prog X.w) A (richCompare .Eq u v) (EqPost X pins σ H (weq a b)) X.xe s) : wpAny (model X.prog X.w) A (eqBool u v) (fun r s' => r = weq a b ∧ ∃ H', Inv X pins σ H' s' ∧ Same H H') X.xe s := by
  by_cases huv : u = v
  · subst huv
    cases relV_inj rx ry
    cases wat_det I hx hy
    exact SeqAt.EqAt.same (A := A) (s := s) u X.prog X.w X.xe _ ⟨(weq_refl a).symm, H, I, Same.refl _⟩
  · have nofl : ∀ f t g t', u = .float f t → v = .float g t' → False := fun f t g t' e1 e2 => by
      subst e1
      cases x <;> simp only [L2.RelV] at rx <;> first
        | (cases rx; done)
        | (obtain ⟨_, rx⟩ := rx; cases rx; done)
        | (cases n <;> cases a <;> simp only [WAt] at hx <;> first | exact hx.elim | (cases hx; done) | (obtain ⟨_, e, _⟩ := hx; cases e; done) | (obtain ⟨_, _, e, _⟩ := hx; cases e; done))
    unfold eqBool
    refine wpAny_holding ?_
    refine wpAny_ite_split (fun hab => absurd (eq_of_beq hab) huv) (fun _ => ?_)
    have fin : wpAny (model X.prog X.w) A (do truthOfDropped (← richCompare .Eq u v)) (fun r s' => r = weq a b ∧ ∃ H', Inv X pins σ H' s' ∧ Same H H') X.xe s := by
      refine wpAny_bind (wpAny_mono h (fun r s' z => ?_) fun _ _ z => z)
      obtain ⟨rfl, z⟩ := z
      exact wpAny_truthy_bool ⟨rfl, z⟩
    cases u <;> cases v <;> first | exact fin | exact (nofl _ _ _ _ rfl rfl).elim
/-- the kinds of a datum, by its value -/
theorem wat_kind {x : V} {u : Value} {a : WD} (rx : L2.RelV x u) (hx : WAt X.K C H n x a) :
    (a = .non ∧ u = .none) ∨ (∃ i, a = .bl i ∧ u = .bool i) ∨ (∃ i t, a = .int i ∧ u = .int i t) ∨ (∃ i t, a = .str i ∧ u = .str i t) ∨ (∃ p rs ts, a = .days rs ts ∧ u = .ref p ∧ DaysAt X.K C H p rs ts) ∨ (∃ p vs l m, a = .tup l ∧ u = .ref p ∧ Tp X.K H p vs ∧ n = m + 1 ∧ Par (WAt X.K C H m) vs l) := by
  cases n <;> cases a <;> simp only [WAt] at hx <;> first
    | exact hx.elim
    | (subst hx; exact .inl ⟨rfl, rx⟩)
    | (subst hx; exact .inr (.inl ⟨_, rfl, rx⟩))
    | (subst hx; obtain ⟨t, rfl⟩ := rx; exact .inr (.inr (.inl ⟨_, t, rfl, rfl⟩)))
    | (subst hx; obtain ⟨t, rfl⟩ := rx; exact .inr (.inr (.inr (.inl ⟨_, t, rfl, rfl⟩))))
    | (obtain ⟨p, rfl, h⟩ := hx; exact .inr (.inr (.inr (.inr (.inl ⟨p, _, _, rfl, rx, h⟩)))))
    | (obtain ⟨p, vs, rfl, h, g⟩ := hx; exact .inr (.inr (.inr (.inr (.inr ⟨p, vs, _, _, rfl, rx, h, rfl, g⟩)))))
theorem rcStep (E : EqC X.prog X.w X.K X.mg X.base kq C) (sb : SubG X kq A) (I : Inv X pins σ H s) {x y : V} {u v : Value} {a b : WD} (rx : L2.RelV x u) (ry : L2.RelV y v) (hx : WAt X.K C H n x a) (hy : WAt X.K C H k y b)
    (htt : ∀ p vs l m q ws l' m', a = .tup l → u = .ref p → Tp X.K H p vs → n = m + 1 → Par (WAt X.K C H m) vs l → b = .tup l' → v = .ref q → Tp X.K H q ws → k = m' + 1 → Par (WAt X.K C H m') ws l' →
      wpAny (model X.prog X.w) A (richCompare .Eq u v) (EqPost X pins σ H (weq a b)) X.xe s) :
    wpAny (model X.prog X.w) A (richCompare .Eq u v) (EqPost X pins σ H (weq a b)) X.xe s := by
  have hu := sb.room.units0
  have tupI : ∀ {p : Addr} {vs : List V}, Tp X.K H p vs → ∃ items, s.heap.IsTuple p items := fun h => let ⟨its, _, e, _⟩ := I.tuple h.sq; ⟨_, e⟩
  rcases wat_kind rx hx with ⟨rfl, rfl⟩ | ⟨i, rfl, rfl⟩ | ⟨i, t, rfl, rfl⟩ | ⟨i, t, rfl, rfl⟩ | ⟨p, rs, ts, rfl, rfl, ha⟩ | ⟨p, vs, l, m, rfl, rfl, hp, e1, g1⟩ <;>
  rcases wat_kind ry hy with ⟨rfl, rfl⟩ | ⟨j, rfl, rfl⟩ | ⟨j, t', rfl, rfl⟩ | ⟨j, t', rfl, rfl⟩ | ⟨q, rs', ts', rfl, rfl, hb⟩ | ⟨q, ws, l', m', rfl, rfl, hq, e2, g2⟩
  · exact rc_flat I SeqAt.RcAt.none_none rfl
  · exact rc_flat I (SeqAt.RcAt.none_bool _) rfl
  · exact rc_flat I (SeqAt.RcAt.none_int _ _) rfl
  · exact rc_flat I (SeqAt.RcAt.none_str _ _) rfl
  · exact rc_right E sb I hb hx rx (fun _ _ e => by cases e)
  · obtain ⟨its, e⟩ := tupI hq; exact rc_flat I (SeqAt.RcAt.none_tuple e hu) rfl
  · exact rc_flat I (SeqAt.RcAt.bool_none _) rfl
  · exact rc_flat I (SeqAt.RcAt.bool_bool _ _) rfl
  · exact rc_flat I (SeqAt.RcAt.bool_int _ _ _) rfl
  · exact rc_flat I (SeqAt.RcAt.bool_str _ _ _) rfl
  · exact rc_right E sb I hb hx rx (fun _ _ e => by cases e)
  · obtain ⟨its, e⟩ := tupI hq; exact rc_flat I (SeqAt.RcAt.bool_tuple _ e hu) rfl
  · exact rc_flat I (SeqAt.RcAt.int_none _ _) rfl
  · exact rc_flat I (SeqAt.RcAt.int_bool _ _ _) rfl
  · exact rc_flat I (SeqAt.RcAt.int_int _ _ _ _) rfl
  · exact rc_flat I (SeqAt.RcAt.int_str _ _ _ _) rfl
  · exact rc_right E sb I hb hx rx (fun _ _ e => by cases e)
  · obtain ⟨its, e⟩ := tupI hq; exact rc_flat I (SeqAt.RcAt.int_tuple _ _ e hu) rfl
  · exact rc_flat I (SeqAt.RcAt.str_none _ _) rfl
  · exact rc_flat I (SeqAt.RcAt.str_bool _ _ _) rfl
  · exact rc_flat I (SeqAt.RcAt.str_int _ _ _ _) rfl
  · exact rc_flat I (SeqAt.RcAt.str_str _ _ _ _) rfl
  · exact rc_right E sb I hb hx rx (fun _ _ e => by cases e)
  · obtain ⟨its, e⟩ := tupI hq; exact rc_flat I (SeqAt.RcAt.str_tuple _ _ e hu) rfl
  · exact rc_left E sb I ha hy ry
  · exact rc_left E sb I ha hy ry
  · exact rc_left E sb I ha hy ry
  · exact rc_left E sb I ha hy ry
  · exact rc_left E sb I ha hy ry
  · exact rc_left E sb I ha hy ry
  · obtain ⟨its, e⟩ := tupI hp; exact rc_flat I (SeqAt.RcAt.tuple_none e hu) rfl
  · obtain ⟨its, e⟩ := tupI hp; exact rc_flat I (SeqAt.RcAt.tuple_bool _ e hu) rfl
  · obtain ⟨its, e⟩ := tupI hp; exact rc_flat I (SeqAt.RcAt.tuple_int _ _ e hu) rfl
  · obtain ⟨its, e⟩ := tupI hp; exact rc_flat I (SeqAt.RcAt.tuple_str _ _ e hu) rfl
  · exact rc_right E sb I hb hx rx (fun _ _ e => by cases e)
  · exact htt p vs l m q ws l' m' rfl rfl hp e1 g1 rfl rfl hq e2 g2
/-- == of any two, objects made on the way -/
theorem rcW (E : EqC X.prog X.w X.K X.mg X.base kq C) : ∀ (n : Nat) {k : Nat} {A : Around} {s : Shared} {H : Hp} {x y : V} {u v : Value} {a b : WD}, SubG X (kq + n) A → Inv X pins σ H s → L2.RelV x u → L2.RelV y v → WAt X.K C H n x a → WAt X.K C H k y b →
    wpAny (model X.prog X.w) A (richCompare .Eq u v) (EqPost X pins σ H (weq a b)) X.xe s := by
  intro n
  induction n with
  | zero =>
    intro k A s H x y u v a b sb I rx ry hx hy
    refine rcStep E sb I rx ry hx hy fun p vs l m q ws l' m' _ _ _ e => ?_
    cases e
  | succ n ih =>
    intro k A s H x y u v a b sb I rx ry hx hy
    refine rcStep E (sb.mono (by omega)) I rx ry hx hy fun p vs l m q ws l' m' ea eu hp en g eb ev hq ek g' => ?_
    subst ea eu eb ev ek
    cases en
    obtain ⟨its, r1, e1, _⟩ := I.tuple hp.sq
    obtain ⟨its2, r2, e2, _⟩ := I.tuple hq.sq
    have l1 : its.toArray.size = l.length := by rw [List.size_toArray, ← r1.length, g.length]
    have l2 : its2.toArray.size = l'.length := by rw [List.size_toArray, ← r2.length, g'.length]
    refine PmEqo.rc_tup sb.room.units0 (fun i => weq (l.getD i .non) (l'.getD i .non)) (fun s' => ∃ H', Inv X pins σ H' s' ∧ Same H H') e1 e2 (fun i h1 h2 s' z => ?_) (fun s' z => ⟨?_, z⟩) ⟨H, I, Same.refl _⟩
    · obtain ⟨H1, I1, sm⟩ := z
      have a1 : its[i]? = some its.toArray[i] := by
        have h1' : i < its.length := by simpa using h1
        rw [List.getElem?_eq_getElem h1'] <;> simp
      have a2 : its2[i]? = some its2.toArray[i] := by
        have h2' : i < its2.length := by simpa using h2
        rw [List.getElem?_eq_getElem h2'] <;> simp
      have b1 : i < vs.length := by rw [r1.length]; simpa using h1
      have b2 : i < ws.length := by rw [r2.length]; simpa using h2
      obtain ⟨u, hu, ru⟩ := r1.get (List.getElem?_eq_getElem b1)
      obtain ⟨v, hv, rv⟩ := r2.get (List.getElem?_eq_getElem b2)
      rw [a1] at hu
      rw [a2] at hv
      rw [Option.some.inj hu, Option.some.inj hv]
      obtain ⟨d, hd, wd⟩ := g.get i _ (List.getElem?_eq_getElem b1)
      obtain ⟨d', hd', wd'⟩ := g'.get i _ (List.getElem?_eq_getElem b2)
      have ed : l.getD i .non = d := by simp [hd]
      have ed' : l'.getD i .non = d' := by simp [hd']
      rw [ed, ed']
      have w1 := wd.tw (Tw.same sm)
      have w2 := wd'.tw (Tw.same sm)
      refine wpAny_mono (eqB_of I1 ru rv w1 w2 (ih (sb.in1 (n := kq + n)) I1 ru rv w1 w2)) (fun r s2 q => ?_) fun _ _ z => z
      obtain ⟨rfl, H2, I2, sm2⟩ := q
      exact ⟨rfl, H2, I2, sm.trans sm2⟩
    · rw [l1, l2, weq, weqL_all]
/-- .. as the operators of the text -/
def rEqW (K : PySem.W.Frag) (C : Addr) (n : Nat) (neg : Bool) : R2 := fun x y H Q => ∃ a b k, WAt K C H n x a ∧ WAt K C H k y b ∧ ∀ H', Same H H' → Q (.bl (if neg then !weq a b else weq a b)) H'
theorem op_eqW (E : EqC X.prog X.w X.K X.mg X.base kq C) (hG : X.A.guards = some []) (hr : Room (kq + n) X.A) : OpR X (compareOp .Eq) (rEqW X.K C n false) := by
  intro pins s σ H x y u v Q I rx ry h
  obtain ⟨a, b, k, hx, hy, q⟩ := h
  show wpAny (model X.prog X.w) X.A (richCompare .Eq u v) (EP X pins σ Q) X.xe s
  refine wpAny_mono (rcW E n ⟨hr, rfl, hG⟩ I rx ry hx hy) (fun r s' z => ?_) fun _ _ z => z
  obtain ⟨rfl, H', I', sm⟩ := z
  exact ⟨.bl (weq a b), H', I', rfl, q H' sm⟩
end
end Pm

namespace PmEqo
open PySem PySem.Spec PyProof.Rows L2
/-! ### sorted of whole numbers out of a set, a list or a tuple, however many -/
section
variable {P : Program} {w : World} {A : Around} {E : Value → Shared → Prop} {s : Shared}
theorem sorted_any {v : Value} {Good : List Value → Prop} {Q : Value → Shared → Prop}
    (hc : wpAny (model P w) A.in1 (collect v) (fun vs s1 => Good vs ∧ (∃ ns, IntsAre vs ns) ∧ vs.length ≤ sizeLine ∧ (∀ b o, s.heap.get? b = some o → s1.heap.get? b = some o) ∧ s1.gens = s.gens ∧ s1.os = s.os) E s)
    (hQ : ∀ (vs : List Value) (s1 s' : Shared) (p : Addr) (out : Array Value) (c : Nat) (ns ns' : List Int), Good vs → IntsAre vs ns → (∀ b o, s.heap.get? b = some o → s1.heap.get? b = some o) → s1.gens = s.gens → s1.os = s.os →
      (∀ b o, s1.heap.get? b = some o → s'.heap.get? b = some o) → s'.gens = s1.gens → s'.os = s1.os → s1.heap.objs.size ≤ p →
      s'.heap.get? p = some (seqObj "list" out c) → IntsAre out.toList ns' → ns'.Perm ns → ns'.Pairwise (· ≤ ·) → vs.length ≤ sizeLine → Q (.ref p) s') :
    wpAny (model P w) A (call (.builtin "sorted") [v]) Q E s := by
  refine Calls.call_function_entry kind_sorted plain_sorted entry_sorted (args_sorted1 _) ?_
  unfold Builtin.«sorted»
  refine wpAny_bind (m := checkCount "sorted" 1 1 _) (wpAny_pure ?_)
  refine wpAny_bind (wpAny_mono hc (fun vs s1 z => ?_) fun _ _ z => z)
  obtain ⟨hg, ⟨ns, hI⟩, hz, k1, g1, o1⟩ := z
  refine wpAny_bind (wpAny_newList ?_ hz)
  have hoL : (s1.heap.push (seqObj "list" vs.toArray 0)).get? s1.heap.objs.size = some (seqObj "list" vs.toArray 0) := Heap.get?_push_size _ rfl
  refine wpAny_bind (wpAny_holding (wpAny_call_entry slot_list_sort ⟨_, hoL, rfl⟩ entry_list_sort (SrtO.list_sort_ord SrtO.swo_int hoL hz (fun h2 => SrtO.ints_sortable hI h2) fun out hs hb => ⟨_, rfl, ?_⟩) (args_list_sort _)))
  obtain ⟨a1, a2, a3⟩ := SrtO.ints_out hI hs hb
  obtain ⟨c, hcc⟩ := sortedHeap_at (vs := vs) (out := out.toArray) hoL
  refine wpAny_pure ⟨_, rfl, hQ vs s1 _ s1.heap.objs.size out.toArray c ns _ hg hI k1 g1 o1 (fun b u q => ?_) rfl rfl (Nat.le_refl _) hcc (by simpa using a1) a2 a3 hz⟩
  have hlt := Heap.lt_size q
  show (sortedHeap (s1.heap.push (seqObj "list" vs.toArray 0)) s1.heap.objs.size vs out.toArray).get? b = some u
  rw [sortedHeap_old (Nat.ne_of_lt hlt) (by rw [size_push']; exact Nat.lt_succ_of_lt hlt)]
  exact Heap.get?_push_of_some _ q
end
end PmEqo
namespace Pm
open PySem PySem.Spec PyProof.Rows L2
theorem raw_ints : ∀ {vs : List Value} {ns : List Int}, IntsAre vs ns → vs.map Builtin.Re.reRawOf = ns
  | _, _, .nil => rfl
  | _, _, .cons n t h => congrArg (n :: ·) (raw_ints h)
/-- sorted of a set, a list or a tuple of whole numbers -/
def rSortAny (w : World) (K : PySem.W.Frag) : List V → Hp → VK → Prop := fun vs H Q => ∃ (a : Addr), vs = [V.ref a] ∧
  ((∃ (S : Int → Bool) (n : Nat), H a = some (SetO w a S n) ∧ ∀ (ns : List Int) (p : Addr), ns.Pairwise (· < ·) → (∀ k : Int, k ∈ ns ↔ S k = true) → ns.length = n → H p = none → Q (.ref p) (upd H p (.lst (ns.map V.int)))) ∨
   (∃ ns : List Int, (SqL K H a (ns.map V.int) ∨ SqT K H a (ns.map V.int)) ∧ ∀ (ns' : List Int) (p : Addr), ns'.Perm ns → ns'.Pairwise (· ≤ ·) → H p = none → Q (.ref p) (upd H p (.lst (ns'.map V.int)))))
theorem cr_sortAny {X : Cx} (hc : X.calm = true) : CallR X (.builtin "sorted") (rSortAny X.w X.K) := by
  intro pins s σ H vs us Q I r h
  obtain ⟨a, rfl, h⟩ := h
  rw [Vals.ref1 r]
  have back : ∀ (s1 s' : Shared) (p : Addr) (out : Array Value) (c : Nat) (ns' : List Int), (∀ b o, s.heap.get? b = some o → s1.heap.get? b = some o) → s1.gens = s.gens → s1.os = s.os →
      (∀ b o, s1.heap.get? b = some o → s'.heap.get? b = some o) → s'.gens = s1.gens → s'.os = s1.os → s1.heap.objs.size ≤ p →
      s'.heap.get? p = some (seqObj "list" out c) → IntsAre out.toList ns' → ns'.length ≤ sizeLine → H p = none ∧ Inv X pins σ (upd H p (.lst (ns'.map V.int))) s' := fun s1 s' p out c ns' k1 g1 o1 k g o hp hg hi hz => by
    have I1 : Inv X pins σ H s1 := I.call' (ch := []) o1 (Un.kept k1) (I.hok.kept k1) (by rw [g1]; exact I.bare) (fun _ z => nomatch z)
    have hn : H p = none := I1.hok.fresh hp
    refine ⟨hn, ?_⟩
    have J : Inv X pins σ (upd H p (.lst (ns'.map V.int))) { s1 with heap := s'.heap, gens := s'.gens, drawn := s'.drawn, toks := s'.toks } :=
      I1.call (ch := []) (Un.laid k hp hn) (I1.hok.laid k hp ⟨by rw [List.length_map]; exact hz, out.toList, c, vals_of_ints hi, hg⟩) (by rw [g]; exact I1.bare) (fun _ z => nomatch z)
    have e : s' = { s1 with heap := s'.heap, gens := s'.gens, drawn := s'.drawn, toks := s'.toks } := by
      cases s'
      cases s1
      cases o
      rfl
    rw [e]
    exact J
  rcases h with ⟨S, n, ha, q⟩ | ⟨ns, ha, q⟩
  · obtain ⟨o, es, ep, t, ho, hex, hd, g, nd, hm, hb, hf, hn, hr, hl⟩ := setO_get I ha
    refine PmEqo.sorted_any (Good := fun vs => vs.Perm (es.toList.map (·.2))) (collect_set (A := X.A.in1) (I.ok.hd hc) ⟨o, ho, hex.1, hd⟩ hf hb hr hl fun s1 vs k1 hz g1 o1 pm => ⟨pm, ⟨_, ints_of vs fun v hv => ?_⟩, ?_, k1, g1, o1⟩) fun vs s1 s' p out c ns ns' pm hI kk1 gg1 oo1 k gg oo hp hg hi pn hs hz => ?_
    · obtain ⟨e, he, q⟩ := List.mem_map.mp (pm.mem_iff.mp hv)
      obtain ⟨k, tk, h1, _⟩ := g e he
      exact ⟨k, tk, by rw [← q]; exact h1⟩
    · rw [pm.length_eq, List.length_map, Array.length_toList]
      have : scanBound ≤ sizeLine := by decide
      omega
    · have pk : ns.Perm (es.toList.map keyOf) := by
        have q := pm.map Builtin.Re.reRawOf
        rw [List.map_map] at q
        have e : vs.map Builtin.Re.reRawOf = ns := raw_ints hI
        rw [e] at q
        exact q
      have pp : ns'.Perm (es.toList.map keyOf) := pn.trans pk
      have hlen : ns'.length = n := by rw [pp.length_eq, List.length_map, Array.length_toList]; exact hn
      obtain ⟨hnn, J⟩ := back s1 s' p out c ns' kk1 gg1 oo1 k gg oo hp hg hi (by have z : scanBound ≤ sizeLine := (by decide); omega)
      exact ⟨.ref p, _, J, rfl, q ns' p (lt_of_le_nodup ns' hs (pp.nodup_iff.mpr nd)) (fun k => by rw [pp.mem_iff, ← hm k]) hlen hnn⟩
  · have fin : ∀ (its : List Value), Vals (ns.map V.int) its → its.length ≤ sizeLine → wpAny (model X.prog X.w) X.A.in1 (collect (.ref a)) (fun vs s1 => vs = its ∧ (∃ ns, IntsAre vs ns) ∧ vs.length ≤ sizeLine ∧ (∀ b o, s.heap.get? b = some o → s1.heap.get? b = some o) ∧ s1.gens = s.gens ∧ s1.os = s.os) X.xe s →
        wpAny (model X.prog X.w) X.A (call (.builtin "sorted") [.ref a]) (EP X pins σ Q) X.xe s := fun its rv hz hcol => by
      refine PmEqo.sorted_any (Good := fun vs => vs = its) hcol fun vs s1 s' p out c ms ns' pm hI kk1 gg1 oo1 k gg oo hp hg hi pn hs hz => ?_
      subst pm
      have e : ms = ns := by
        have h1 := SrtO.iv_ints hI
        have h2 := SrtO.iv_ints rv.ints
        rw [← h1, h2]
      subst e
      have hl : ns'.length ≤ sizeLine := by
        have h3 := rv.length
        rw [List.length_map] at h3
        rw [pn.length_eq]
        omega
      obtain ⟨hnn, J⟩ := back s1 s' p out c ns' kk1 gg1 oo1 k gg oo hp hg hi hl
      exact ⟨.ref p, _, J, rfl, q ns' p pn hs hnn⟩
    rcases ha with ha | ha
    · obtain ⟨its, rv, hl, hz⟩ := I.list ha
      obtain ⟨o, ho, hcl, n, hd⟩ := id hl.isList
      have hz' : its.length ≤ sizeLine := by rw [← rv.length]; exact hz
      exact fin its rv hz' (wpAny_collect_seq a (.inl rfl) ho hcl hd (fun h' k => ⟨by simp, ⟨_, by simpa using rv.ints⟩, by simpa using hz', k, rfl, rfl⟩) (by simpa using hz'))
    · obtain ⟨its, rv, hl, hz⟩ := I.tuple ha
      obtain ⟨o, ho, hcl, n, hd⟩ := id hl
      have hz' : its.length ≤ sizeLine := by rw [← rv.length]; exact hz
      exact fin its rv hz' (wpAny_collect_seq a (.inr rfl) ho hcl hd (fun h' k => ⟨by simp, ⟨_, by simpa using rv.ints⟩, by simpa using hz', k, rfl, rfl⟩) (by simpa using hz'))

theorem k_sortAny {X : Cx} (K : PySem.W.Frag) (w : World) (hc : X.calm = true) (hK : X.K = K := by rfl) (hw : X.w = w := by rfl) : CallR X (.builtin "sorted") (rSortAny w K) := by subst hK hw; exact cr_sortAny hc
/-- len of a set -/
def rLenS (w : World) : List V → Hp → VK → Prop := fun vs H Q => ∃ (a : Addr) (S : Int → Bool) (n : Nat), vs = [.ref a] ∧ H a = some (SetO w a S n) ∧ n < scanBound ∧ Q (.int n) H
theorem k_lenS {X : Cx} (w : World) (hw : X.w = w := by rfl) : CallR X (.builtin "len") (rLenS w) := by
  subst hw
  intro pins s σ H vs us Q I r h
  obtain ⟨a, S, n, rfl, ha, hn, q⟩ := h
  rw [Vals.ref1 r]
  obtain ⟨o, es, ep, t, ho, hex, hd, _, _, _, _, hf, hn', _⟩ := setO_get I ha
  refine call_len_set ho hex hd hf (by rw [hn'] <;> have z : scanBound = 4096 := rfl <;> omega) ⟨.int n, H, I.tok _, ⟨_, by rw [hn']⟩, q⟩
theorem k_si {X : Cx} {elt tg iter : Expr} {ifs : List Expr} {scope : Scope} {own : List (PySem.Str × Nat)} {pos : Pos} {wi : TI} {g : TG} {tt : TT} {te : TE} (w : World) (hc : X.calm = true) (hN : X.N.Nodup) (hi : PI X tg iter wi) (ok : BlkOk X.N X.env.scope scope own)
    (hg : ∀ (s : Shared) (H : Hp) (C : Addr) (cl : List (PySem.Str × Addr)) (fp : List Addr), PG (X.blk s H scope (compEnvC scope cl C X.env) fp) tg g) (ht : ∀ (s : Shared) (H : Hp) (C : Addr) (cl : List (PySem.Str × Addr)) (fp : List Addr), PTs (X.blk s H scope (compEnvC scope cl C X.env) fp) ifs tt)
    (he : ∀ (s : Shared) (H : Hp) (C : Addr) (cl : List (PySem.Str × Addr)) (fp : List Addr), PE (X.blk s H scope (compEnvC scope cl C X.env) fp) elt te) (hs : ∀ x, foldedSetIterable iter X.env x = pure x := by intro _; rfl) (hw : X.w = w := by rfl) :
    PE X (.SetComp elt [⟨tg, iter, ifs, 0⟩] scope pos) (tSI w wi g tt (tbE w te) (own.map (·.2))) := by subst hw; exact pe_si hc hN hi ok hg ht he hs
theorem k_si2 {X : Cx} {elt tg iter tg1 iter1 : Expr} {ifs ifs1 : List Expr} {scope : Scope} {own : List (PySem.Str × Nat)} {vs1 : List Nat} {pos : Pos} {wi wi1 : TI} {g g1 : TG} {tt tt1 : TT} {te : TE} (w : World) (hc : X.calm = true) (hN : X.N.Nodup) (hi : PI X tg iter wi) (ok : BlkOk X.N X.env.scope scope own) (hv : ∀ i ∈ vs1, i ∈ own.map (·.2))
    (hg : ∀ (s : Shared) (H : Hp) (C : Addr) (cl : List (PySem.Str × Addr)) (fp : List Addr), PG (X.blk s H scope (compEnvC scope cl C X.env) fp) tg g) (ht : ∀ (s : Shared) (H : Hp) (C : Addr) (cl : List (PySem.Str × Addr)) (fp : List Addr), PTs (X.blk s H scope (compEnvC scope cl C X.env) fp) ifs tt)
    (hi1 : ∀ (s : Shared) (H : Hp) (C : Addr) (cl : List (PySem.Str × Addr)) (fp : List Addr), PI (X.blk s H scope (compEnvC scope cl C X.env) fp) tg1 iter1 wi1)
    (hg1 : ∀ (s : Shared) (H : Hp) (C : Addr) (cl : List (PySem.Str × Addr)) (fp : List Addr), PG (X.blk s H scope (compEnvC scope cl C X.env) fp) tg1 g1) (ht1 : ∀ (s : Shared) (H : Hp) (C : Addr) (cl : List (PySem.Str × Addr)) (fp : List Addr), PTs (X.blk s H scope (compEnvC scope cl C X.env) fp) ifs1 tt1)
    (he : ∀ (s : Shared) (H : Hp) (C : Addr) (cl : List (PySem.Str × Addr)) (fp : List Addr), PE (X.blk s H scope (compEnvC scope cl C X.env) fp) elt te) (hs : ∀ x, foldedSetIterable iter X.env x = pure x := by intro _; rfl) (hs1 : ∀ env x, foldedSetIterable iter1 env x = pure x := by intro _ _; rfl) (hw : X.w = w := by rfl) :
    PE X (.SetComp elt [⟨tg, iter, ifs, 0⟩, ⟨tg1, iter1, ifs1, 0⟩] scope pos) (tSI w wi g tt (fun D => tbC wi1 g1 tt1 (tbE w te D) vs1) (own.map (·.2))) := by subst hw; exact pe_si2 hc hN hi ok hv hg ht hi1 hg1 ht1 he hs hs1
/-! ### readings of sets -/
/-- the set at A has the members of a list -/
structure SetL (w : World) (H : Hp) (A : Addr) (l : List Int) : Prop where
  ex : ∃ S n, H A = some (SetO w A S n) ∧ (∀ k, S k = true ↔ k ∈ l) ∧ n ≤ l.length ∧ (n = l.length ↔ l.Nodup)
theorem setL_new {w : World} {H : Hp} {A : Addr} : SetL w (upd H A (SetO w A (fun _ => false) 0)) A [] := ⟨_, _, upd_same, by simp, by simp, by simp⟩
theorem SetL.same {w : World} {H H' : Hp} {A : Addr} {l : List Int} (h : SetL w H A l) (e : Same H H') : SetL w H' A l := by
  obtain ⟨S, n, h1, h2⟩ := h.ex
  exact ⟨S, n, e _ _ h1, h2⟩
/-- one more -/
theorem setL_add {w : World} {H : Hp} {A : Addr} {l : List Int} {c : Int} (h : SetL w H A l) (hl : l.length ≤ 4000) {Nx : Hp → Prop} (k : ∀ H', (∀ b o, b ≠ A → H b = some o → H' b = some o) → SetL w H' A (l ++ [c]) → Nx H') :
    ∃ (c' : Int) (S : Int → Bool) (n : Nat), V.int c = .int c' ∧ H A = some (SetO w A S n) ∧ n + 1 < scanBound ∧ Nx (upd H A (SetO w A (fun j => S j || decide (j = c')) (if S c' = true then n else n + 1))) := by
  obtain ⟨S, n, h1, h2, h3, h4⟩ := h.ex
  refine ⟨c, S, n, rfl, h1, by have z : scanBound = 4096 := rfl; omega, k _ (fun b o hb e => by rw [upd_ne hb]; exact e) ⟨_, _, upd_same, fun j => ?_, ?_, ?_⟩⟩
  · simp [h2 j]
  · rw [List.length_append, List.length_singleton]
    split <;> omega
  · rw [List.length_append, List.length_singleton, List.nodup_append]
    by_cases hc : S c = true
    · rw [if_pos hc]
      have hm := (h2 c).mp hc
      constructor
      · intro e; omega
      · rintro ⟨_, _, e⟩; exact absurd rfl (e c hm c (by simp))
    · rw [if_neg hc]
      have hm : c ∉ l := fun z => hc ((h2 c).mpr z)
      constructor
      · intro e
        exact ⟨h4.mp (by omega), by simp, fun a ha b hb => by simp at hb; subst hb; exact fun e => hm (e ▸ ha)⟩
      · rintro ⟨a, _, _⟩
        have := h4.mpr a
        omega
def SiI (w : World) (J : It) (g : TG) (tt : TT) (tb : Addr → L2.St → Hp → (Hp → Prop) → Prop) (vs : List Nat) (Q : VK) (σ : L2.St) (H : Hp) : Prop := ∀ D, H D = none →
  ∃ W : Nat → Nat → Hp → Prop, (∃ m, W 0 m (upd H D (SetO w D (fun _ => false) 0))) ∧ Turns J g tt (tb D) vs σ (Q (.ref D)) W
section
variable {K : PySem.W.Frag} {w : World} {σ : L2.St} {H : Hp} {Q : VK} {g : TG} {tt : TT} {vs : List Nat} {a : Addr} {xs : List V} {t : Bool}
theorem i_si {wi : TI} {tb : Addr → L2.St → Hp → (Hp → Prop) → Prop} (h : wi σ H fun J H1 => SiI w J g tt tb vs Q σ H1) : tSI w wi g tt tb vs σ H Q := h
theorem turns_tup {tb : L2.St → Hp → (Hp → Prop) → Prop} {Qe : Hp → Prop} (Pv : Nat → Hp → Prop) (h0 : Pv 0 H) (hl : ∀ i H, i ≤ xs.length → Pv i H → SqT K H a xs)
    (hs : ∀ i x H, xs[i]? = some x → Pv i H → g x (wipe σ vs) H fun σ2 H2 => wipe σ2 vs = wipe σ vs ∧ tt σ2 H2 fun b H3 => if b = true then tb σ2 H3 (Pv (i + 1)) else Pv (i + 1) H3) (hd : ∀ H, Pv xs.length H → Qe H) :
    ∃ W : Nat → Nat → Hp → Prop, (∃ m, W 0 m H) ∧ Turns (Itt K a) g tt tb vs σ Qe W := by
  refine ⟨fun i m H => m = xs.length - i ∧ i ≤ xs.length ∧ Pv i H, ⟨xs.length, by simp, Nat.zero_le _, h0⟩, ?_⟩
  rintro i m H ⟨rfl, hi, p⟩
  have q := hl i H hi p
  by_cases hlt : i < xs.length
  · refine .inr ⟨⟨xs, xs[i], q, by simp [hlt]⟩, Pv (i + 1), fun H' p' => ⟨xs.length - (i + 1), by omega, rfl, hlt, p'⟩, fun x H' y => ?_⟩
    obtain ⟨e, y⟩ := y
    subst e
    exact hs i x _ (y xs q) p
  · have e : i = xs.length := by omega
    subst e
    exact .inl ⟨⟨xs, q, Nat.le_refl _⟩, hd H p⟩
theorem turns_lst {tb : L2.St → Hp → (Hp → Prop) → Prop} {Qe : Hp → Prop} (Pv : Nat → Hp → Prop) (h0 : Pv 0 H) (hl : ∀ i H, i ≤ xs.length → Pv i H → SqL K H a xs)
    (hs : ∀ i x H, xs[i]? = some x → Pv i H → g x (wipe σ vs) H fun σ2 H2 => wipe σ2 vs = wipe σ vs ∧ tt σ2 H2 fun b H3 => if b = true then tb σ2 H3 (Pv (i + 1)) else Pv (i + 1) H3) (hd : ∀ H, Pv xs.length H → Qe H) :
    ∃ W : Nat → Nat → Hp → Prop, (∃ m, W 0 m H) ∧ Turns (Itl K a) g tt tb vs σ Qe W := by
  refine ⟨fun i m H => m = xs.length - i ∧ i ≤ xs.length ∧ Pv i H, ⟨xs.length, by simp, Nat.zero_le _, h0⟩, ?_⟩
  rintro i m H ⟨rfl, hi, p⟩
  have q := hl i H hi p
  by_cases hlt : i < xs.length
  · refine .inr ⟨⟨xs, xs[i], q, by simp [hlt]⟩, Pv (i + 1), fun H' p' => ⟨xs.length - (i + 1), by omega, rfl, hlt, p'⟩, fun x H' y => ?_⟩
    obtain ⟨e, y⟩ := y
    subst e
    exact hs i x _ (y xs q) p
  · have e : i = xs.length := by omega
    subst e
    exact .inl ⟨⟨xs, q, Nat.le_refl _⟩, hd H p⟩
/-- over a tuple or a list that stays: an invariant of one's own -/
theorem i_siT {tb : Addr → L2.St → Hp → (Hp → Prop) → Prop} (I : Addr → Nat → Hp → Prop) (h0 : ∀ A, New H A → I A 0 (upd H A (SetO w A (fun _ => false) 0))) (hl : ∀ A i H', New H A → I A i H' → Tp K H' a xs)
    (hs : ∀ A i x H', New H A → xs[i]? = some x → I A i H' → g x (wipe σ vs) H' fun σ2 H2 => wipe σ2 vs = wipe σ vs ∧ tt σ2 H2 fun b H3 => if b = true then tb A σ2 H3 (I A (i + 1)) else I A (i + 1) H3) (hd : ∀ A H', New H A → I A xs.length H' → Q (.ref A) H') : SiI w (Itt K a) g tt tb vs Q σ H :=
  fun A hA => turns_tup (I A) (h0 A hA) (fun i H' _ p => (hl A i H' hA p).sq) (fun i x H' hx p => hs A i x H' hA hx p) fun H' p => hd A H' hA p
theorem i_siL {tb : Addr → L2.St → Hp → (Hp → Prop) → Prop} (I : Addr → Nat → Hp → Prop) (h0 : ∀ A, New H A → I A 0 (upd H A (SetO w A (fun _ => false) 0))) (hl : ∀ A i H', New H A → I A i H' → SqL K H' a xs)
    (hs : ∀ A i x H', New H A → xs[i]? = some x → I A i H' → g x (wipe σ vs) H' fun σ2 H2 => wipe σ2 vs = wipe σ vs ∧ tt σ2 H2 fun b H3 => if b = true then tb A σ2 H3 (I A (i + 1)) else I A (i + 1) H3) (hd : ∀ A H', New H A → I A xs.length H' → Q (.ref A) H') : SiI w (Itl K a) g tt tb vs Q σ H :=
  fun A hA => turns_lst (I A) (h0 A hA) (fun i H' _ p => hl A i H' hA p) (fun i x H' hx p => hs A i x H' hA hx p) fun H' p => hd A H' hA p
theorem i_siV {tb : Addr → L2.St → Hp → (Hp → Prop) → Prop} (h1 : SqV K H a t xs) (I : Addr → Nat → Hp → Prop) (h0 : ∀ A, New H A → I A 0 (upd H A (SetO w A (fun _ => false) 0))) (hl : ∀ A i H', New H A → I A i H' → SqV K H' a t xs)
    (hs : ∀ A i x H', New H A → xs[i]? = some x → I A i H' → g x (wipe σ vs) H' fun σ2 H2 => wipe σ2 vs = wipe σ vs ∧ tt σ2 H2 fun b H3 => if b = true then tb A σ2 H3 (I A (i + 1)) else I A (i + 1) H3) (hd : ∀ A H', New H A → I A xs.length H' → Q (.ref A) H') :
    ∃ b, V.ref a = .ref b ∧ (((∃ xs, SqL K H b xs) ∧ SiI w (Itl K b) g tt tb vs Q σ H) ∨ ((∃ xs, SqT K H b xs) ∧ SiI w (Itt K b) g tt tb vs Q σ H)) := by
  refine ⟨a, rfl, ?_⟩
  cases t
  · exact .inl ⟨⟨xs, h1⟩, i_siL I h0 hl hs hd⟩
  · exact .inr ⟨⟨xs, Tp.sq h1⟩, i_siT I h0 hl hs hd⟩
theorem i_elt {te : TE} {A : Addr} {Nx : Hp → Prop} (h : te σ H fun y H1 => ∃ (c : Int) (S : Int → Bool) (n : Nat), y = .int c ∧ H1 A = some (SetO w A S n) ∧ n + 1 < scanBound ∧ Nx (upd H1 A (SetO w A (fun j => S j || decide (j = c)) (if S c = true then n else n + 1)))) : tbE w te A σ H Nx := h
theorem i_lenSet {A : Addr} {l : List Int} (h : SetL w H A l) (hl : l.length ≤ 4000) (k : ∀ n : Nat, n ≤ l.length → (n = l.length ↔ l.Nodup) → Q (.int n) H) : rLenS w [.ref A] H Q := by
  obtain ⟨S, n, h1, _, h3, h4⟩ := h.ex
  exact ⟨A, S, n, rfl, h1, by have z : scanBound = 4096 := rfl; omega, k n h3 h4⟩
/-- sorted of a set -/
theorem i_sortS {A : Addr} {l : List Int} (h : SetL w H A l) (k : ∀ (ns : List Int) (p : Addr) H', ns.Pairwise (· < ·) → (∀ k : Int, k ∈ ns ↔ k ∈ l) → ns.length ≤ l.length → New H p → Same H H' → H' p = some (.lst (ns.map V.int)) → Q (.ref p) H') : rSortAny w K [.ref A] H Q := by
  obtain ⟨S, n, h1, h2, h3, _⟩ := h.ex
  exact ⟨A, rfl, .inl ⟨S, n, h1, fun ns p hp hm hl hn => k ns p _ hp (fun j => (hm j).trans (h2 j)) (by omega) hn (same_new hn) upd_same⟩⟩
theorem i_sortQ {A : Addr} {ns : List Int} (h : SqL K H A (ns.map V.int) ∨ Tp K H A (ns.map V.int)) (k : ∀ (ns' : List Int) (p : Addr) H', ns'.Perm ns → ns'.Pairwise (· ≤ ·) → New H p → Same H H' → H' p = some (.lst (ns'.map V.int)) → Q (.ref p) H') : rSortAny w K [.ref A] H Q :=
  ⟨A, rfl, .inr ⟨ns, h.imp id Tp.sq, fun ns' p hp hs hn => k ns' p _ hp hs hn (same_new hn) upd_same⟩⟩
end
end Pm

namespace Pm
open PySem PySem.Spec PyProof.Rows L2
/-! ### dicts from whole numbers to True -/
def dT (ks : List Int) : List (Key × V) := ks.map fun k => (Sum.inl k, V.bl true)
def addD (ks : List Int) (k : Int) : List Int := if k ∈ ks then ks else ks ++ [k]
def undup (l : List Int) : List Int := l.foldl addD []
theorem dT_has (ks : List Int) (k : Int) : (valV (dT ks) (Sum.inl k)).isSome = decide (k ∈ ks) := by
  induction ks with
  | nil => rfl
  | cons j l ih =>
    unfold dT at ih ⊢
    rw [List.map_cons]
    by_cases e : j = k
    · subst e
      rw [valV_pos rfl]
      simp
    · rw [valV_neg (by intro z; injection z with z; exact e z), ih]
      simp [Ne.symm e]
theorem dT_put (ks : List Int) (k : Int) : putK (dT ks) (Sum.inl k) (.bl true) = dT (addD ks k) := by
  unfold putK addD
  rw [valV_any, dT_has]
  by_cases h : k ∈ ks
  · rw [decide_eq_true h, if_pos rfl, if_pos h]
    unfold dT
    rw [List.map_map]
    apply List.map_congr_left
    intro j _
    simp only [Function.comp]
    split <;> rfl
  · rw [decide_eq_false h, if_neg (by simp), if_neg h]
    unfold dT
    rw [List.map_append]
    rfl
theorem dT_merge : ∀ (l ks : List Int), mergeK (dT ks) (dT l) = dT (l.foldl addD ks)
  | [], _ => rfl
  | k :: l, ks => by
    show mergeK (putK (dT ks) (Sum.inl k) (.bl true)) (dT l) = _
    rw [dT_put, dT_merge l]
    rfl
theorem fold_mem : ∀ (l ks : List Int) (k : Int), k ∈ l.foldl addD ks ↔ k ∈ ks ∨ k ∈ l
  | [], _, _ => by simp
  | j :: l, ks, k => by
    rw [List.foldl_cons, fold_mem l]
    unfold addD
    split
    · rename_i h
      simp only [List.mem_cons]
      constructor
      · rintro (a | a)
        · exact .inl a
        · exact .inr (.inr a)
      · rintro (a | rfl | a)
        · exact .inl a
        · exact .inl h
        · exact .inr a
    · simp only [List.mem_append, List.mem_cons, List.not_mem_nil, or_false, or_assoc]
theorem fold_nodup : ∀ (l ks : List Int), ks.Nodup → (l.foldl addD ks).Nodup
  | [], _, h => h
  | j :: l, ks, h => by
    rw [List.foldl_cons]
    refine fold_nodup l _ ?_
    unfold addD
    split
    · exact h
    · rename_i hj
      rw [List.nodup_append]
      exact ⟨h, by simp, fun a ha b hb => by simp at hb; subst hb; exact fun e => hj (e ▸ ha)⟩
theorem undup_mem (l : List Int) (k : Int) : k ∈ undup l ↔ k ∈ l := by unfold undup; rw [fold_mem]; simp
theorem undup_nodup (l : List Int) : (undup l).Nodup := fold_nodup l [] (by simp)
theorem fold_len : ∀ (l ks : List Int), (l.foldl addD ks).length ≤ ks.length + l.length
  | [], _ => by simp
  | j :: l, ks => by
    rw [List.foldl_cons]
    have := fold_len l (addD ks j)
    have h2 : (addD ks j).length ≤ ks.length + 1 := by unfold addD; split <;> simp
    simp only [List.length_cons]
    omega
theorem undup_len (l : List Int) : (undup l).length ≤ l.length := by have := fold_len l []; simpa [undup] using this
/-! rising lists with the same members are the same -/
theorem upr_eq : ∀ {l m : List Int}, l.Pairwise (· < ·) → m.Pairwise (· < ·) → (∀ k, k ∈ l ↔ k ∈ m) → l = m
  | [], [], _, _, _ => rfl
  | [], b :: m, _, _, h => by have := (h b).mpr (by simp); simp at this
  | a :: l, [], _, _, h => by have := (h a).mp (by simp); simp at this
  | a :: l, b :: m, h1, h2, h => by
    obtain ⟨a1, a2⟩ := List.pairwise_cons.mp h1
    obtain ⟨b1, b2⟩ := List.pairwise_cons.mp h2
    have e : a = b := by
      rcases List.mem_cons.mp ((h a).mp (by simp)) with z | z
      · exact z
      · rcases List.mem_cons.mp ((h b).mpr (by simp)) with y | y
        · exact y.symm
        · have := a1 b y; have := b1 a z; omega
    subst e
    have e2 : l = m := upr_eq a2 b2 fun k => by
      constructor
      · intro hk
        rcases List.mem_cons.mp ((h k).mp (List.mem_cons_of_mem _ hk)) with z | z
        · have := a1 k hk; omega
        · exact z
      · intro hk
        rcases List.mem_cons.mp ((h k).mpr (List.mem_cons_of_mem _ hk)) with z | z
        · have := b1 k hk; omega
        · exact z
    rw [e2]
theorem upr_of_le {l : List Int} (h : l.Pairwise (· ≤ ·)) (d : l.Nodup) : l.Pairwise (· < ·) := lt_of_le_nodup l h d
/-- the members of a list, rising, each once -/
def uprIns (k : Int) : List Int → List Int
  | [] => [k]
  | j :: l => if k < j then k :: j :: l else if k = j then j :: l else j :: uprIns k l
def upr (l : List Int) : List Int := l.foldr uprIns []
theorem uprIns_mem (k : Int) : ∀ (l : List Int) (x : Int), x ∈ uprIns k l ↔ x = k ∨ x ∈ l
  | [], x => by simp [uprIns]
  | j :: l, x => by
    unfold uprIns
    split
    · simp
    · split
      · rename_i h; subst h; simp
      · simp only [List.mem_cons, uprIns_mem k l]
        constructor
        · rintro (a | a | a)
          · exact .inr (.inl a)
          · exact .inl a
          · exact .inr (.inr a)
        · rintro (a | a | a)
          · exact .inr (.inl a)
          · exact .inl a
          · exact .inr (.inr a)
theorem uprIns_up (k : Int) : ∀ {l : List Int}, l.Pairwise (· < ·) → (uprIns k l).Pairwise (· < ·)
  | [], _ => by simp [uprIns]
  | j :: l, h => by
    obtain ⟨h1, h2⟩ := List.pairwise_cons.mp h
    unfold uprIns
    split
    · rename_i c
      refine List.pairwise_cons.mpr ⟨fun x hx => ?_, h⟩
      rcases List.mem_cons.mp hx with rfl | hx
      · exact c
      · have := h1 x hx; omega
    · split
      · exact h
      · rename_i c d
        refine List.pairwise_cons.mpr ⟨fun x hx => ?_, uprIns_up k h2⟩
        rcases (uprIns_mem k l x).mp hx with rfl | hx
        · omega
        · exact h1 x hx
theorem upr_up (l : List Int) : (upr l).Pairwise (· < ·) := by
  induction l with
  | nil => exact List.Pairwise.nil
  | cons k l ih => exact uprIns_up k ih
theorem upr_mem (l : List Int) (x : Int) : x ∈ upr l ↔ x ∈ l := by
  induction l with
  | nil => simp [upr]
  | cons k l ih =>
    show x ∈ uprIns k (upr l) ↔ _
    rw [uprIns_mem, ih, List.mem_cons]
theorem eq_upr {l m : List Int} (h : m.Pairwise (· < ·)) (hm : ∀ k, k ∈ m ↔ k ∈ l) : m = upr l := upr_eq h (upr_up l) fun k => (hm k).trans (upr_mem l k).symm
theorem upr_len (l : List Int) : (upr l).length ≤ l.length := by
  have h : ∀ (k : Int) (m : List Int), (uprIns k m).length ≤ m.length + 1 := fun k m => by
    induction m with
    | nil => simp [uprIns]
    | cons j m ih => unfold uprIns; split <;> (try split) <;> simp <;> omega
  induction l with
  | nil => simp [upr]
  | cons k l ih =>
    show (uprIns k (upr l)).length ≤ _
    have := h k (upr l)
    simp only [List.length_cons]
    omega
theorem cut_toN {xs : List V} {n : Nat} (h : n ≤ xs.length) : cutV xs none (some (n : Int)) = xs.take n := by
  unfold cutV
  rw [show HT.sIx xs.length xs.length (some (n : Int)) = min n xs.length from HT.sIx_nat _ _ _, HT.sIx_none, Nat.min_eq_left h]
  simp
theorem cut_fromN {xs : List V} {n : Nat} : cutV xs (some (n : Int)) none = xs.drop n := by
  unfold cutV
  by_cases h : n ≤ xs.length
  · rw [HT.sIx_nat, HT.sIx_none, Nat.min_eq_left h]
    exact List.take_of_length_le (by simp)
  · rw [HT.sIx_nat, HT.sIx_none, Nat.min_eq_right (by omega), List.drop_eq_nil_of_le (Nat.le_refl _), List.drop_eq_nil_of_le (by omega)]
    exact List.take_nil
/-! ### rules -/
def rInK : R2 := fun x y H Q => ∃ a kvs k, x = kV k ∧ y = .ref a ∧ H a = some (.dK kvs) ∧ Q (.bl (valV kvs k).isSome) H
theorem op_inK {X : Cx} {n : Nat} (hr : Room n X.A) : OpR X (compareOp .In) rInK := by
  intro pins s σ H x y v u Q I rx ry h
  obtain ⟨a, kvs, k, rfl, rfl, ha, q⟩ := h
  cases ry
  exact d_in (by have := hr.un; omega) I (DGet.k ha) rx fun s' I' => ⟨.bl (valV kvs k).isSome, H, I', rfl, q⟩
def rDictP (K : PySem.W.Frag) : List V → Hp → VK → Prop := fun xs H Q => ∃ (a : Addr) (ps : List Addr) (kvs : List (Key × V)), xs = [.ref a] ∧ SqL K H a (ps.map V.ref) ∧ Paired (fun p kv => SqT K H p [kV kv.1, kv.2]) ps kvs ∧ ∀ p, H p = none → Q (.ref p) (upd H p (.dK (mergeK [] kvs)))
theorem k_dictP {X : Cx} (K : PySem.W.Frag) (hc : X.calm = true) (hK : X.K = K := by rfl) : CallR X (.type "dict") (rDictP K) := by subst hK; exact call_dictP hc
theorem k_listD {X : Cx} (hc : X.calm = true) : CallR X (.type "list") rListD := call_list_dK hc
theorem kit_TL {K : PySem.W.Frag} {t : Value} {b c : Bool} (h1 : PySem.W.kitOne K t (.type "tuple") = some b) (h2 : PySem.W.kitOne K t (.type "list") = some c) : PySem.W.kitAny K t [.type "tuple", .type "list"] = some (b || c) := by
  refine kitAny_cons h1 (fun e => ?_) (fun e => by rw [e]; rfl)
  subst e
  refine kitAny_cons h2 (fun e => ?_) (fun e => by rw [e]; rfl)
  subst e
  exact kitAny_nil
section
variable {K : PySem.W.Frag} {w : World} {σ : L2.St} {H : Hp} {Q : VK} {g : TG} {tt : TT} {te tk tv : TE} {vs : List Nat} {a : Addr} {xs : List V} {t : Bool}
theorem i_inK {ks : List Int} {k : Int} (h : H a = some (.dK (dT ks))) (q : Q (.bl (decide (k ∈ ks))) H) : rInK (.int k) (.ref a) H Q := ⟨a, dT ks, Sum.inl k, rfl, rfl, h, by rw [dT_has]; exact q⟩
/-- dict of a list of pairs (day, True) -/
theorem i_dictP {ps : List Addr} {ks : List Int} (h : SqL K H a (ps.map V.ref)) (hp : Par (fun p k => Tp K H p [.int k, .bl true]) ps ks) (q : ∀ p H', New H p → Same H H' → H' p = some (.dK (dT (undup ks))) → Q (.ref p) H') : rDictP K [.ref a] H Q := by
  refine ⟨a, ps, dT ks, rfl, h, ?_, fun p hn => q p _ hn (same_new hn) (by rw [show mergeK [] (dT ks) = dT (undup ks) from dT_merge ks []]; exact upd_same)⟩
  unfold dT
  clear h q
  induction hp with
  | nil => exact .nil
  | cons h _ ih => exact .cons h.sq ih
theorem i_listD {ks : List Int} (h : H a = some (.dK (dT ks))) (q : ∀ p H', New H p → Same H H' → H' p = some (.lst (ks.map V.int)) → Q (.ref p) H') : rListD [.ref a] H Q := by
  refine ⟨a, dT ks, rfl, h, fun p hn => q p _ hn (same_new hn) ?_⟩
  rw [upd_same]
  unfold dT
  rw [List.map_map]
  rfl
theorem i_isiTL {p : Addr} (h1 : SqV K H a t xs) (hp : TpH H p [.ty "tuple", .ty "list"]) (q : Q (.bl true) H) : rIsiT K [.ref a, .ref p] H Q := by
  cases t
  · exact ⟨.ref a, p, _, .type "list", [.type "tuple", .type "list"], true, rfl, hp.eq, .cons (.ty _) (.cons (.ty _) .nil), (by
      rcases (h1 : SqL K H a xs) with (h | ⟨o, h⟩) | ⟨o, its, n, h, c, _⟩
      · exact .base (.lst h)
      · exact .base (.frz h)
      · exact .kList h c), kit_TL (b := false) (c := true) (kit_ty (by decide +kernel)) (kit_ty (by decide +kernel)), q⟩
  · exact ⟨.ref a, p, _, .type "tuple", [.type "tuple", .type "list"], true, rfl, hp.eq, .cons (.ty _) (.cons (.ty _) .nil), (by
      rcases (h1 : Tp K H a xs) with h | ⟨o, its, n, h, c, _⟩
      · exact .base (.tup h)
      · exact .kTuple h c), kit_TL (b := true) (c := false) (kit_ty (by decide +kernel)) (kit_ty (by decide +kernel)), q⟩
theorem i_lcV (h1 : SqV K H a t xs) (out : Nat → List V) (h0 : out 0 = [])
    (hs : ∀ A i x H', New H A → xs[i]? = some x → i < xs.length → Same H H' → H' A = some (.lst (out i)) → g x (wipe σ vs) H' fun σ2 H2 => wipe σ2 vs = wipe σ vs ∧ tt σ2 H2 fun b H3 =>
      if b = true then te σ2 H3 fun y H4 => LcY A H (out (i + 1)) y H4 else LcP A H (out (i + 1)) H3)
    (h : ∀ A H', New H A → Same H H' → H' A = some (.lst (out xs.length)) → Q (.ref A) H') : ∃ b, V.ref a = .ref b ∧ (((∃ xs, SqL K H b xs) ∧ LcI (Itl K b) g tt te vs Q σ H) ∨ ((∃ xs, SqT K H b xs) ∧ LcI (Itt K b) g tt te vs Q σ H)) := by
  refine ⟨a, rfl, ?_⟩
  cases t
  · exact .inl ⟨⟨xs, h1⟩, i_lcL h1 out h0 hs h⟩
  · exact .inr ⟨⟨xs, Tp.sq h1⟩, i_lcT h1 out h0 hs h⟩
theorem i_chain {r r' : R2} {ta tb tc : TE} (h : ta σ H fun x H1 => tb σ H1 fun y H2 => r x y H2 fun z H3 => ∃ k, z = .bl k ∧ (if k = true then tc σ H3 fun w' H4 => r' y w' H4 Q else Q (.bl false) H3)) : tChain r r' ta tb tc σ H Q := h
def DcI (J : It) (g : TG) (tt : TT) (tk tv : TE) (vs : List Nat) (Q : VK) (σ : L2.St) (H : Hp) : Prop := ∀ D, H D = none → ∃ W : Nat → Nat → Hp → Prop, (∃ m, W 0 m (upd H D (.dK []))) ∧ ∀ i m H, W i m H →
  (J.stop i H ∧ Q (.ref D) H) ∨ (J.go i H ∧ ∃ Nx : Hp → Prop, (∀ H', Nx H' → ∃ m', m' < m ∧ W (i + 1) m' H') ∧ ∀ x H', J.yld i H x H' → g x (wipe σ vs) H' fun σ2 H2 => wipe σ2 vs = wipe σ vs ∧ tt σ2 H2 fun b H3 =>
    if b = true then tk σ2 H3 fun y H4 => tv σ2 H4 fun z H5 => ∃ kvs k, y = kV k ∧ H5 D = some (.dK kvs) ∧ kvs.length < sizeLine ∧ Nx (upd H5 D (.dK (putK kvs k z))) else Nx H3)
theorem i_dc {wi : TI} (h : wi σ H fun J H1 => DcI J g tt tk tv vs Q σ H1) : tDc wi g tt tk tv vs σ H Q := h
/-- {x: True for x in ..} of whole numbers -/
theorem i_dcV {ns : List Int} (hx : xs = ns.map V.int) (hl : ns.length ≤ 100000) (h1 : SqV K H a t xs)
    (hs : ∀ (i : Nat) (k : Int) H', ns[i]? = some k → ∀ {Q1 : L2.St → Hp → Prop}, (∀ σ2, wipe σ2 vs = wipe σ vs → (∀ {Qb : Bool → Hp → Prop}, Qb true H' → tt σ2 H' Qb) → (∀ {Qk : VK}, Qk (.int k) H' → tk σ2 H' Qk) → (∀ {Qv : VK}, Qv (.bl true) H' → tv σ2 H' Qv) → Q1 σ2 H') → g (.int k) (wipe σ vs) H' Q1)
    (h : ∀ A H', New H A → Same H H' → H' A = some (.dK (dT (undup ns))) → Q (.ref A) H') :
    ∃ b, V.ref a = .ref b ∧ (((∃ xs, SqL K H b xs) ∧ DcI (Itl K b) g tt tk tv vs Q σ H) ∨ ((∃ xs, SqT K H b xs) ∧ DcI (Itt K b) g tt tk tv vs Q σ H)) := by
  subst hx
  have turn : ∀ (D : Addr) (i : Nat) (x : V) (H' : Hp), New H D → (ns.map V.int)[i]? = some x → Same H H' ∧ H' D = some (.dK (dT (undup (ns.take i)))) → g x (wipe σ vs) H' fun σ2 H2 => wipe σ2 vs = wipe σ vs ∧ tt σ2 H2 fun b H3 =>
      if b = true then tk σ2 H3 fun y H4 => tv σ2 H4 fun z H5 => ∃ kvs k, y = kV k ∧ H5 D = some (.dK kvs) ∧ kvs.length < sizeLine ∧ (Same H (upd H5 D (.dK (putK kvs k z))) ∧ (upd H5 D (.dK (putK kvs k z))) D = some (.dK (dT (undup (ns.take (i + 1)))))) else (Same H H3 ∧ H3 D = some (.dK (dT (undup (ns.take (i + 1)))))) := by
    intro D i x H' nD hi ⟨sm, hd⟩
    obtain ⟨k, hk, rfl⟩ : ∃ k, ns[i]? = some k ∧ V.int k = x := by simpa using hi
    refine hs i k H' hk fun σ2 hw ht hkk hv => ⟨hw, ht ?_⟩
    rw [if_pos rfl]
    refine hkk (hv ⟨_, Sum.inl k, rfl, hd, ?_, ?_, ?_⟩)
    · have := undup_len (ns.take i)
      unfold dT
      rw [List.length_map]
      rw [List.length_take] at this
      exact Nat.lt_of_le_of_lt (by omega) (by decide : 100000 < sizeLine)
    · intro b o e
      rw [upd_ne (fun z => by subst z; rw [show H b = none from nD] at e; cases e)]
      exact sm b o e
    · rw [upd_same, dT_put]
      congr 3
      rw [List.take_add_one, hk]
      unfold undup
      rw [List.foldl_append]
      rfl
  have fin : ns.take ns.length = ns := List.take_length
  refine ⟨a, rfl, ?_⟩
  cases t
  · refine .inl ⟨⟨_, h1⟩, fun D hD => ⟨fun i m H' => m = ns.length - i ∧ i ≤ ns.length ∧ Same H H' ∧ H' D = some (.dK (dT (undup (ns.take i)))), ⟨ns.length, by simp, Nat.zero_le _, same_new hD, upd_same⟩, ?_⟩⟩
    rintro i m H' ⟨rfl, hi, sm, hd⟩
    have q : SqL K H' a (ns.map V.int) := b_L sm h1
    by_cases hlt : i < ns.length
    · refine .inr ⟨⟨_, .int ns[i], q, by simp [hlt]⟩, fun H'' => Same H H'' ∧ H'' D = some (.dK (dT (undup (ns.take (i + 1))))), fun H'' p' => ⟨ns.length - (i + 1), by omega, rfl, hlt, p'.1, p'.2⟩, fun x H'' y => ?_⟩
      obtain ⟨e, y⟩ := y
      subst e
      exact turn D i x _ hD (y _ q) ⟨sm, hd⟩
    · have e : i = ns.length := by omega
      subst e
      rw [fin] at hd
      exact .inl ⟨⟨_, q, by simp⟩, h D H' hD sm hd⟩
  · refine .inr ⟨⟨_, Tp.sq h1⟩, fun D hD => ⟨fun i m H' => m = ns.length - i ∧ i ≤ ns.length ∧ Same H H' ∧ H' D = some (.dK (dT (undup (ns.take i)))), ⟨ns.length, by simp, Nat.zero_le _, same_new hD, upd_same⟩, ?_⟩⟩
    rintro i m H' ⟨rfl, hi, sm, hd⟩
    have q : SqT K H' a (ns.map V.int) := (Tp.mono sm h1).sq
    by_cases hlt : i < ns.length
    · refine .inr ⟨⟨_, .int ns[i], q, by simp [hlt]⟩, fun H'' => Same H H'' ∧ H'' D = some (.dK (dT (undup (ns.take (i + 1))))), fun H'' p' => ⟨ns.length - (i + 1), by omega, rfl, hlt, p'.1, p'.2⟩, fun x H'' y => ?_⟩
      obtain ⟨e, y⟩ := y
      subst e
      exact turn D i x _ hD (y _ q) ⟨sm, hd⟩
    · have e : i = ns.length := by omega
      subst e
      rw [fin] at hd
      exact .inl ⟨⟨_, q, by simp⟩, h D H' hD sm hd⟩
end
end Pm

namespace Pm
open PySem PySem.Spec PyProof.Rows L2
/-! ### a list of whatever is, or is not, the empty one -/
def rNeE (K : PySem.W.Frag) : R2 := fun x y H Q => ∃ a b xs, x = .ref a ∧ y = .ref b ∧ SqL K H a xs ∧ SqL K H b [] ∧ Q (.bl (!xs.isEmpty)) H
theorem op_neE {X : Cx} {n : Nat} (hr : Room n X.A) : OpR X (compareOp .NotEq) (rNeE X.K) := by
  intro pins s σ H x y v u Q I rx ry h
  obtain ⟨a, b, xs, rfl, rfl, ha, hb, q⟩ := h
  cases rx
  cases ry
  obtain ⟨its, r1, e1, _⟩ := I.list ha
  obtain ⟨its2, r2, e2, _⟩ := I.list hb
  cases r2
  cases xs with
  | nil =>
    cases r1
    have z := SeqAt.RcNeAt.lists (A := X.A) (s := s) (e := fun _ => true) e1.isList e2.isList rfl hr.units0 (fun j h1 _ => absurd h1 (by simp))
    exact z X.prog X.w X.xe _ ⟨.bl false, H, I, rfl, q⟩
  | cons x xs =>
    have hl := r1.length
    have z := SeqAt.RcNeAt.lists_lengths (A := X.A) (s := s) e1.isList e2.isList (by cases its with | nil => simp at hl | cons a l => rfl) hr.units0
    exact z X.prog X.w X.xe _ ⟨.bl true, H, I, rfl, q⟩
theorem k_neE {X : Cx} {n : Nat} (K : PySem.W.Frag) (hr : Room n X.A) (hK : X.K = K := by rfl) : OpR X (compareOp .NotEq) (rNeE K) := by subst hK; exact op_neE hr
theorem i_neE {K : PySem.W.Frag} {H : Hp} {Q : VK} {a b : Addr} {xs : List V} (h1 : SqL K H a xs) (h2 : SqL K H b []) (q : Q (.bl (!xs.isEmpty)) H) : rNeE K (.ref a) (.ref b) H Q := ⟨a, b, xs, rfl, rfl, h1, h2, q⟩
theorem k_eqW {X : Cx} {kq n : Nat} {C : Addr} (K : PySem.W.Frag) (E : EqC X.prog X.w X.K X.mg X.base kq C) (hG : X.A.guards = some []) (hr : Room (kq + n) X.A) (hK : X.K = K := by rfl) : OpR X (compareOp .Eq) (rEqW K C n false) := by subst hK; exact op_eqW E hG hr
end Pm

namespace Pm
open PySem PySem.Spec PyProof.Rows L2
/-! ### methods and classes, what a caller holds of them from the text -/
section
variable {P : Program} {w : World} {K : PySem.W.Frag} {mg : Str → Option Value} {base : Heap} {CX : CXT} {k : Nat} {x m qual : Str} {params : Arguments} {body : List Stmt} {scope : Scope} {dvs : List V} {kws : List (Str × V)} {f C : Addr} {fd : FuncData} {ps : List Str} {sp : Sp}
theorem ownM_n (F : FunD K m qual params body scope [] [] f fd) (M : Meth K C m f) (a : FnG P w K mg base CX k f fd ps sp)
    (h : ∀ (kV doc pm : Value) (an : Option Addr) (cdv ct : Value) (us : List Value), us.length = ps.length → bindArgs (PySem.W.fnOf m qual params body scope .none kV doc pm an cdv ct) ⟨us, []⟩ = pure (ps.zip us)) : OwnM P w K mg base CX k C m ps [] sp :=
  ⟨f, fd, [], a, M, F.bindsN h, .nil⟩
theorem ownC_n (F : FunD K m qual params body scope [] [] f fd) (M : Mk K C f) (g : mg x = some (.ref C)) (a : FnG P w K mg base CX k f fd ps sp)
    (h : ∀ (kV doc pm : Value) (an : Option Addr) (cdv ct : Value) (us : List Value), us.length = ps.length → bindArgs (PySem.W.fnOf m qual params body scope .none kV doc pm an cdv ct) ⟨us, []⟩ = pure (ps.zip us)) : OwnC P w K mg base CX k x C ps [] sp :=
  ⟨f, fd, [], a, M, g, F.bindsN h, .nil⟩
theorem ownC_k (F : FunD K m qual params body scope [] kws f fd) (M : Mk K C f) (g : mg x = some (.ref C)) (a : FnG P w K mg base CX k f fd ps sp) (n : Nat) (hk : kws ≠ []) (hn : n + kws.length = ps.length)
    (h : ∀ (D : Addr) (doc pm : Value) (an : Option Addr) (cdv ct : Value) (us ks : List Value), us.length = n → ks.length = kws.length →
      KwChain D ((kws.map (·.1)).zip ks) (bindArgs (PySem.W.fnOf m qual params body scope .none (.ref D) doc pm an cdv ct) ⟨us, []⟩) (ps.zip (us ++ ks))) : OwnC P w K mg base CX k x C ps (kws.map (·.2)) sp := by
  obtain ⟨ds, h1, h2⟩ := F.binds0 n hk hn h
  exact ⟨f, fd, ds, a, M, g, h2, h1⟩
end
end Pm

/-! ### != of tuples among whose items are instances with an own == -/
namespace PmEqo
open PySem PySem.SeqAt
open AutoSeq1 (wpAny_loadPart')
open MeetsSeq MeetsSeq2 MeetsSeq3 SeqRoads2
section
variable {prog : Program} {w : World} {A : Around} {R : Result → Shared → Prop}
/-- tuples item by item, each comparison with its own answer, objects made on the way -/
theorem tup_ne0 (l b : Addr) (items items2 : Array Value) (n n2 : Nat) (dd dd2 : Option Addr) (sl sl2 : Array (Option Value)) (e : Nat → Bool) (I : Shared → Prop)
    (turn : ∀ i (h1 : i < items.size) (h2 : i < items2.size) s, I s → wpAny (model prog w) A.in1 (eqBool items[i] items2[i]) (fun r s' => r = e i ∧ I s') (fun e s' => R (.error e) s') s)
    (fin : ∀ s, I s → R (.ok (.ret (.bool (!((List.range (min items.size items2.size)).all e && items.size == items2.size))))) s) {s : Shared} (hl : s.heap.get? l = some { cls := .type "tuple", dict := dd, data := .seq items n, slots := sl }) (hb : s.heap.get? b = some { cls := .type "tuple", dict := dd2, data := .seq items2 n2, slots := sl2 }) (h : I s) :
    wpAny (model prog w) A.in1 (Builtin.«tuple.__ne__» ⟨[.ref l, .ref b], []⟩) (GQ.FinOf prog w A R) (fun e s' => R (.error e) s') s := by
  have f2 := AutoSeq1.sub_tuple_tuple
  have hZ : (items.toList.zip items2.toList).length = min items.size items2.size := by simp
  have h0 := h
  obtain ⟨hp, g, d, tk, os⟩ := s
  wp_walk using wpAny_loadPart' hl, wpAny_loadPart' hb, wpAny_forIn_list _ (fun rest b s' => b.1 = none ∧ ∃ i, rest = (items.toList.zip items2.toList).drop i ∧ I s' ∧
    ((List.range (min items.size items2.size)).drop i).all e = (List.range (min items.size items2.size)).all e) _
  case turn =>
    rintro ⟨y, x⟩ rest b s' ⟨hb', i, hz, hI, hR⟩
    have hlt : i < (items.toList.zip items2.toList).length := by
      rcases Nat.lt_or_ge i (items.toList.zip items2.toList).length with h' | h'
      · exact h'
      · rw [List.drop_of_length_le h'] at hz; cases hz
    have hm : i < min items.size items2.size := hZ ▸ hlt
    have h1 : i < items.size := Nat.lt_of_lt_of_le hm (Nat.min_le_left _ _)
    have h2 : i < items2.size := Nat.lt_of_lt_of_le hm (Nat.min_le_right _ _)
    rw [List.drop_eq_getElem_cons hlt] at hz
    injection hz with hyx hrest
    have hy : y = items[i] := by have := congrArg Prod.fst hyx; simpa using this
    have hx : x = items2[i] := by have := congrArg Prod.snd hyx; simpa using this
    subst hy hx
    have hd : (List.range (min items.size items2.size)).drop i = i :: (List.range (min items.size items2.size)).drop (i + 1) := by simp [List.drop_eq_getElem_cons, hm]
    rw [hd, List.all_cons] at hR
    refine wpAny_bind (wpAny_mono (turn i h1 h2 s' hI) (fun r s2 q2 => ?_) fun _ _ x => x)
    obtain ⟨hr, q2⟩ := q2
    subst hr
    cases hy : e i with
    | true =>
      rw [hy] at hR
      wp_walk
      exact ⟨rfl, i + 1, hrest, q2, by simpa using hR⟩
    | false =>
      rw [hy] at hR
      wp_walk
      have q := fin _ q2
      rw [← hR] at q
      simpa using q
  case fin =>
    rintro ⟨b1, b2⟩ s' ⟨hb', i, hz, hI, hR⟩
    simp only at hb'
    subst hb'
    have hge : min items.size items2.size ≤ i := by
      rcases Nat.lt_or_ge i (items.toList.zip items2.toList).length with h' | h'
      · rw [List.drop_eq_getElem_cons h'] at hz; cases hz
      · exact hZ ▸ h'
    rw [List.drop_of_length_le (by simpa using hge)] at hR
    have q := fin _ hI
    rw [← hR] at q
    wp_walk
    simpa [Builtin.Tuple.tupleCompareSizes, bne] using q
  case h =>
    exact ⟨rfl, 0, rfl, h0, rfl⟩
end
section
variable {prog : Program} {w : World} {A : Around} {E : Value → Shared → Prop} {s : Shared}
theorem rc_tupN {l b : Addr} {items items2 : Array Value} {Q : Value → Shared → Prop} (hu : A.units < cLine) (e : Nat → Bool) (I : Shared → Prop) (hl : s.heap.IsTuple l items) (hb : s.heap.IsTuple b items2)
    (turn : ∀ i (h1 : i < items.size) (h2 : i < items2.size) s, I s → wpAny (model prog w) A.in1 (eqBool items[i] items2[i]) (fun r s' => r = e i ∧ I s') E s)
    (fin : ∀ s, I s → Q (.bool (!((List.range (min items.size items2.size)).all e && items.size == items2.size))) s) (h : I s) : wpAny (model prog w) A (richCompare .NotEq (.ref l) (.ref b)) Q E s := by
  obtain ⟨⟨cls, dd, data, sl⟩, ho, hc, n, hd⟩ := id hl
  obtain ⟨⟨cls2, dd2, data2, sl2⟩, ho2, hc2, n2, hd2⟩ := id hb
  simp only at hc hd hc2 hd2
  subst hc hd hc2 hd2
  refine wpAny_richCompare_same_room (op := .NotEq) ⟨_, ho, rfl⟩ ⟨_, ho2, rfl⟩ F.slot_tuple_ne (GQ.call_here F.slot_tuple_ne ⟨_, ho, rfl⟩ F.entry_tuple_ne (F.args_tuple_ne_2 _ _) ?_) hu
  exact tup_ne0 (R := wants (fun v s' => v ≠ .notImplemented ∧ Q v s') E) l b items items2 n n2 dd dd2 sl sl2 e I turn (fun s' q => ⟨(fun x => nomatch x), fin s' q⟩) ho ho2 h
end
end PmEqo
namespace Pm
open PySem PySem.Spec PyProof.Rows L2
section
variable {X : Cx} {pins : List (Addr × Obj)} {σ : L2.St} {H : Hp} {s : Shared} {C : Addr} {kq n k : Nat} {A : Around}
theorem rcWN (E : EqC X.prog X.w X.K X.mg X.base kq C) {k : Nat} {A : Around} {s : Shared} {H : Hp} {x y : V} {u v : Value} {l l' : List WD} (sb : SubG X (kq + (n + 1)) A) (I : Inv X pins σ H s) (rx : L2.RelV x u) (ry : L2.RelV y v) (hx : WAt X.K C H (n + 1) x (.tup l)) (hy : WAt X.K C H k y (.tup l')) :
    wpAny (model X.prog X.w) A (richCompare .NotEq u v) (EqPost X pins σ H (!weq (.tup l) (.tup l'))) X.xe s := by
  obtain ⟨p, vs, rfl, hp, g⟩ := hx
  cases k with
  | zero => exact hy.elim
  | succ k =>
    obtain ⟨q, ws, rfl, hq, g'⟩ := hy
    cases rx
    cases ry
    obtain ⟨its, r1, e1, _⟩ := I.tuple hp.sq
    obtain ⟨its2, r2, e2, _⟩ := I.tuple hq.sq
    have l1 : its.toArray.size = l.length := by rw [List.size_toArray, ← r1.length, g.length]
    have l2 : its2.toArray.size = l'.length := by rw [List.size_toArray, ← r2.length, g'.length]
    refine PmEqo.rc_tupN sb.room.units0 (fun i => weq (l.getD i .non) (l'.getD i .non)) (fun s' => ∃ H', Inv X pins σ H' s' ∧ Same H H') e1 e2 (fun i h1 h2 s' z => ?_) (fun s' z => ⟨?_, z⟩) ⟨H, I, Same.refl _⟩
    · obtain ⟨H1, I1, sm⟩ := z
      have a1 : its[i]? = some its.toArray[i] := by
        have h1' : i < its.length := by simpa using h1
        rw [List.getElem?_eq_getElem h1'] <;> simp
      have a2 : its2[i]? = some its2.toArray[i] := by
        have h2' : i < its2.length := by simpa using h2
        rw [List.getElem?_eq_getElem h2'] <;> simp
      have b1 : i < vs.length := by rw [r1.length]; simpa using h1
      have b2 : i < ws.length := by rw [r2.length]; simpa using h2
      obtain ⟨u, hu, ru⟩ := r1.get (List.getElem?_eq_getElem b1)
      obtain ⟨v, hv, rv⟩ := r2.get (List.getElem?_eq_getElem b2)
      rw [a1] at hu
      rw [a2] at hv
      rw [Option.some.inj hu, Option.some.inj hv]
      obtain ⟨d, hd, wd⟩ := g.get i _ (List.getElem?_eq_getElem b1)
      obtain ⟨d', hd', wd'⟩ := g'.get i _ (List.getElem?_eq_getElem b2)
      have ed : l.getD i .non = d := by simp [hd]
      have ed' : l'.getD i .non = d' := by simp [hd']
      rw [ed, ed']
      have w1 := wd.tw (Tw.same sm)
      have w2 := wd'.tw (Tw.same sm)
      refine wpAny_mono (eqB_of I1 ru rv w1 w2 (rcW E n (sb.in1 (n := kq + n)) I1 ru rv w1 w2)) (fun r s2 q => ?_) fun _ _ z => z
      obtain ⟨rfl, H2, I2, sm2⟩ := q
      exact ⟨rfl, H2, I2, sm.trans sm2⟩
    · rw [l1, l2, weq, weqL_all]
/-- .. as the operator of the text -/
def rNeW (K : PySem.W.Frag) (C : Addr) (n : Nat) : R2 := fun x y H Q => ∃ l l' k, WAt K C H (n + 1) x (.tup l) ∧ WAt K C H k y (.tup l') ∧ ∀ H', Same H H' → Q (.bl (!weq (.tup l) (.tup l'))) H'
theorem op_neW (E : EqC X.prog X.w X.K X.mg X.base kq C) (hG : X.A.guards = some []) (hr : Room (kq + (n + 1)) X.A) : OpR X (compareOp .NotEq) (rNeW X.K C n) := by
  intro pins s σ H x y u v Q I rx ry h
  obtain ⟨l, l', k, hx, hy, q⟩ := h
  show wpAny (model X.prog X.w) X.A (richCompare .NotEq u v) (EP X pins σ Q) X.xe s
  refine wpAny_mono (rcWN E ⟨hr, rfl, hG⟩ I rx ry hx hy) (fun r s' z => ?_) fun _ _ z => z
  obtain ⟨rfl, H', I', sm⟩ := z
  exact ⟨.bl (!weq (.tup l) (.tup l')), H', I', rfl, q H' sm⟩
theorem k_neW {X : Cx} {kq n : Nat} {C : Addr} (K : PySem.W.Frag) (E : EqC X.prog X.w X.K X.mg X.base kq C) (hG : X.A.guards = some []) (hr : Room (kq + (n + 1)) X.A) (hK : X.K = K := by rfl) : OpR X (compareOp .NotEq) (rNeW K C n) := by subst hK; exact op_neW E hG hr
theorem i_neW {K : PySem.W.Frag} {C : Addr} {n k : Nat} {x y : V} {l l' : List WD} {H : Hp} {Q : VK} (h1 : WAt K C H (n + 1) x (.tup l)) (h2 : WAt K C H k y (.tup l')) (q : ∀ H', Same H H' → Q (.bl (!weq (.tup l) (.tup l'))) H') : rNeW K C n x y H Q := ⟨l, l', k, h1, h2, q⟩
end
end Pm

/-! ### own classes of exceptions over a built-in one, with an __init__ of their own that stores one field -/
namespace PmExi
open PySem PySem.W PySem.Calls PyProof.Rows PySem.HandSPX
open Builtin Builtin.ObjectAttr
/-- what a built-in class must have -/
structure ExB (B newId initId : String) (bt : List Value) : Prop where
  F : ExcBaseFacts B newId initId bt
  pass : ∀ self, refuseLoop self "__setattr__" bt = pure ()
  ob : bt.contains (.type "object") = true
  ne : bt.isEmpty = false
  typ : typeOf (.type B) = pure (.type "type")
  stub : Manifest.isStub B = false
theorem tail_ne {bt l : List Value} (b : bt.isEmpty = false) (e : excTail bt l = true) : l.isEmpty = false := by
  cases l with
  | nil =>
    rcases excTail_cases [] e with ⟨c, r, q, _⟩ | q
    · cases q
    · rw [← q] at b
      exact b
  | cons _ _ => rfl
section
variable {prog : Program} {w : World} {A : Around} {E : Value → Shared → Prop} {R : Result → Shared → Prop} {hp : Heap} {g : Array GenState} {d : Drawn} {t : Nat} {os : OsState}
/-- self.name = v, its first field -/
theorem first_field {B newId initId : String} {bt : List Value} (b : ExB B newId initId bt) {K : W.Frag} {name : Str} {tk : Tok} {v : Value} {x C : Addr} {fv : Array Value} {cd : ClassData}
    (X : K.In hp) (hx : hp.get? x = some { cls := .ref C, data := .fields fv }) (hcd : W.clsIn K C = some cd) (hm : excTail bt cd.mro = true) (hh : cd.hasDict = true) (ha : W.findIn K (.ref C) name = some none)
    (hq : ∀ h' tk' dx, (∀ b o, b ≠ x → hp.get? b = some o → h'.get? b = some o) → hp.objs.size ≤ dx → dx ≠ x → h'.get? x = some { cls := .ref C, dict := some dx, data := .fields fv } →
      h'.Ns1 dx (fun y => if y = name then some v else none) → R (.ok (.ret .none)) ⟨h', g, d, tk', os⟩) :
    codeAny (model prog w) A (.call (.builtin "object.__setattr__") ⟨[.ref x, .str name tk, v], []⟩) R ⟨hp, g, d, t, os⟩ := by
  have I : W.InstAt hp x { cls := .ref C, data := .fields fv } C none := ⟨hx, rfl, rfl, trivial⟩
  have SF := F.store_object
  have hob : cd.mro.contains (.type "object") = true := (excTail_contains "object" _ hm).trans b.ob
  have hxs : x ≠ hp.objs.size := Nat.ne_of_lt (Heap.lt_size hx)
  have sub : W.Looks (model prog w) hp (isInstance (.ref x) (.type "object")) true := I.type.andThen (W.looks_mroIn X (by unfold W.mroIn; rw [hcd, Option.bind_some, if_neg (by rw [tail_ne b.ne hm]; decide), hob]))
  refine codeAny_call_builtin SF.slot.plain SF.entry (@W.check_slot (model prog w) _ _ ⟨hp, g, d, t, os⟩ "object.__setattr__" "object" "__setattr__" (.ref x) [.str name tk, v] [] _ SF.kind SF.split sub (SF.args (.ref x) (.str name tk) v) ?_)
  have hmr : W.Looks (model prog w) hp (mroOf (.ref C)) cd.mro := (W.looks_clsIn X hcd).andThen .now
  have L3 : W.Looks (model prog w) hp (storeTaker? none) none := .now
  have hcls : W.Looks (model prog w) hp (classData C) cd := W.looks_clsIn X hcd
  rw [W.osa_eq, refuse_eq]
  refine wpAny_bind (wpAny_bind (I.type.at (wpAny_bind (hmr.at ?_))))
  rw [excTail_pass _ (b.pass _) _ hm]
  refine wpAny_pure (wpAny_bind (I.type.at (wpAny_bind ((W.looks_findIn X ha).at (wpAny_bind (L3.at ?_))))))
  show wpAny _ _ (storeInOwnDict (.ref x) (.ref C) (.str name tk) name v false) _ _ _
  obtain ⟨nm, bs, mro, ns, qn, hd, sn, sb, ab, col, del⟩ := cd
  dsimp only at hh
  subst hh
  unfold storeInOwnDict ownDictForStores
  repeat (first | with_reducible refine store_in_new ?_ ?_ | with_reducible refine wpAny_loadPart_at hx ?_ | with_reducible refine hcls.at ?_ | wp_step)
  · exact ⟨_, #[], _, (Heap.get?_update_ne _ _ _ _ hxs.symm).trans (Heap.get?_push_at rfl rfl), rfl, fun e he => absurd he (by simp), fun _ => rfl⟩
  · intro h' tk' hn' hs
    have hx₁ : (hp.push { cls := .type "dict", data := .dict #[] }).get? x = some { cls := .ref C, data := .fields fv } := Heap.get?_push_of_some _ hx
    refine hq h' tk' hp.objs.size (fun b o hb ho => ?_) (Nat.le_refl _) hxs.symm ?_ hn'
    · exact (hs.2 b (Nat.ne_of_lt (Heap.lt_size ho))).trans ((Heap.get?_update_ne _ _ _ _ hb).trans (Heap.get?_push_of_some _ ho))
    · exact (hs.2 x hxs).trans (Heap.get?_update_self _ hx₁ rfl)
end
theorem exb_IndexError : ExB "IndexError" "IndexError.__new__" "IndexError.__init__" [.type "IndexError", .type "LookupError", .type "Exception", .type "BaseException", .type "object"] where
  F := PySem.F.excBase_IndexError
  pass := PySem.F.store_IndexError.passes
  ob := by decide +kernel
  ne := rfl
  typ := by kernel_rfl
  stub := by decide +kernel
end PmExi
namespace Pm
open PySem PySem.Spec PyProof.Rows L2
/-- what the text has written of such a class -/
structure OxB (K : PySem.W.Frag) (C : Addr) (B newId initId : String) (bt : List Value) : Prop where
  b : PmExi.ExB B newId initId bt
  q : PySem.W.excInitIn K C bt newId = true
  ov : PySem.W.excOver K C bt = true
  hd : PySem.W.hasDictIn K C = true
  sa : PySem.W.findIn K (.ref C) "__setattr__" = some (some (.builtin "object.__setattr__"))
  exC : PySem.W.subIn K (.ref C) (.type "BaseException") = some true
  tyC : PySem.W.typeIn K (.ref C) = some (.type "type")
  kC : PySem.W.keepIn K (.ref C) = true
section
variable {X : Cx} {pins : List (Addr × Obj)} {σ : L2.St} {H : Hp} {s : Shared} {a C dx : Addr} {f : PySem.Str} {y : V} {u : Value} {fs : List (PySem.Str × V)} {E : Value → Shared → Prop} {A : Around} {B newId initId : String} {bt : List Value}
theorem OxB.cd {K : PySem.W.Frag} (T : OxB K C B newId initId bt) : ∃ cd, PySem.W.clsIn K C = some cd ∧ PySem.W.excTail bt cd.mro = true ∧ cd.hasDict = true := by
  have o := T.ov
  unfold PySem.W.excOver at o
  cases hc : PySem.W.clsIn K C with
  | none => rw [hc] at o; cases o
  | some cd =>
    rw [hc] at o
    simp only [Option.any_some] at o
    have hd := T.hd
    unfold PySem.W.hasDictIn at hd
    rw [hc] at hd
    refine ⟨cd, rfl, ?_, by simpa using hd⟩
    split at o
    · rename_i C' bm hm
      rw [hm]
      rw [Bool.and_eq_true] at o
      exact o.2
    · cases o
/-- self.f = y -/
theorem oxb_store {Q : Unit → Shared → Prop} (T : OxB X.K C B newId initId bt) (I : Inv X pins σ H s) (e : H a = some (exo a C none)) (hno : PySem.W.findIn X.K (.ref C) f = some none) (ry : L2.RelV y u)
    (h : ∀ dx s', H dx = none → dx ≠ a → Inv X pins σ (upd (upd H dx (exd dx [(f, y)])) a (exo a C (some dx))) s' → Q () s') : wpAny (model X.prog X.w) A (setAttr (.ref a) f u) Q E s := by
  obtain ⟨cd, hcl, htl, hhd⟩ := T.cd
  obtain ⟨t1, ho⟩ := exo_at I.hok e
  obtain ⟨hp, g, d, t, os⟩ := s
  refine PySem.W.set_plain I.kIn (ox := { cls := .ref C, dict := none, data := .fields #[.ref t1, .none, .none, .none, .bool false, .none] }) (od := none) ⟨ho, rfl, rfl, trivial⟩ T.sa ?_
  refine PmExi.first_field T.b I.kIn ho hcl htl hhd hno (fun h' tk' dx k dn dne hx hn => ?_)
  have hnd : H dx = none := I.hok.fresh dn
  have nd : ∀ {b : Addr} {o : Obj}, hp.get? b = some o → b ≠ dx := fun {b o} q => Nat.ne_of_lt (Nat.lt_of_lt_of_le (Heap.lt_size q) dn)
  have na : ∀ {b : Addr}, H b = none → b ≠ a := fun {b} n z => by
    rw [z, e] at n
    cases n
  have Un1 : Un X.fs [] H (upd (upd H dx (exd dx [(f, y)])) a (exo a C (some dx))) hp h' := {
    keep := fun b o q n _ _ => k b o (na n) q
    slot := fun b o q n _ _ => ⟨o.slots, k b o (na n) q⟩
    free := fun b o q n _ => by rw [upd_ne (na n), upd_ne (nd q)]; exact n
    there := fun b o q _ => by
      by_cases hb : b = a
      · exact ⟨_, by rw [hb]; exact hx⟩
      · exact ⟨o, k b o hb q⟩
    tups := fun b xs q => by rw [upd_ne (at_ne e q exo_tup), upd_ne (ne_of_none q hnd)]; exact q
    frzs := fun b o v q => by rw [upd_ne (at_ne e q exo_frz), upd_ne (ne_of_none q hnd)]; exact q
    tbls := fun b ps q => ⟨#[], by rw [upd_ne (at_ne e q exo_tbl), upd_ne (ne_of_none q hnd), q]; simp⟩ }
  refine h dx _ hnd dne (I.un (t' := tk') Un1 fun b o q => ?_)
  by_cases hb : b = a
  · subst hb
    rw [upd_same] at q
    cases q
    exact exo_ok hx
  · rw [upd_ne hb] at q
    by_cases hd : b = dx
    · subst hd
      rw [upd_same] at q
      cases q
      exact exd_ok hn (relO_put (fs := []) ry fun g => True.intro)
    · rw [upd_ne hd] at q
      exact (I.hok b o q).stay (fun c v hc z => k c v (by
          rcases hc with hc | hc
          · rw [hc]
            exact hb
          · exact at_ne e hc exo_own) z)
        (fun c hc => by rw [upd_ne (at_ne e hc exo_own), upd_ne (ne_of_none hc hnd)]; exact hc) (fun c xs hc => by rw [upd_ne (at_ne e hc exo_tup), upd_ne (ne_of_none hc hnd)]; exact hc)
/-- B.__init__(self, ..): nothing of it is told -/
theorem oxb_init {us : List Value} {Q : Value → Shared → Prop} (T : OxB X.K C B newId initId bt) (I : Inv X pins σ H s) (e : H a = some (exo a C none)) (hl : us.length ≤ sizeLine) (h : ∀ s', Inv X pins σ H s' → Q .none s') :
    wpAny (model X.prog X.w) A (call (.builtin initId) (.ref a :: us)) Q E s := by
  obtain ⟨nm, N, q, bs, bm, hdct, sn, sub, ab, col, dd, k0, k1, k2, k3, k5, hC, hbm⟩ := PySem.W.excInit_of I.kIn T.q
  obtain ⟨t1, ho⟩ := exo_at I.hok e
  obtain ⟨hp, g, d, t, os⟩ := s
  refine wpAny_call (PySem.HandSPX.init_base T.b.F hbm hC ho hl fun h' t2 k hx => ?_)
  have J := I.write (t' := t) (x := a) (e := a) (o := exo a C none) (by rw [e]; exact True.intro) (.inl rfl) k ⟨_, hx⟩ (exo_ok hx)
  have eu : upd H a (exo a C none) = H := by
    funext b
    by_cases hb : b = a
    · rw [hb, upd_same, e]
    · rw [upd_ne hb]
  rw [eu] at J
  exact h _ J
end
/-! ### readings and rules -/
/-- B.__init__(self, ..) -/
def tBInit (K : PySem.W.Frag) (B newId initId : String) (bt : List Value) (ta : TA) : TE := fun σ H Q => ta σ H fun vs H1 => ∃ (a C : Addr) (ws : List V), vs = .ref a :: ws ∧ ws.length ≤ 1000 ∧ OxB K C B newId initId bt ∧ H1 a = some (exo a C none) ∧ Q .non H1
/-- self.f = e, the first one -/
def tSt1 (K : PySem.W.Frag) (B newId initId : String) (bt : List Value) (f : PySem.Str) (to te : TE) : TS := fun D σ H => te σ H fun y H1 => to σ H1 fun x H2 => ∃ a C : Addr, x = .ref a ∧ OxB K C B newId initId bt ∧ PySem.W.findIn K (.ref C) f = some none ∧
  H2 a = some (exo a C none) ∧ ∀ dx, H2 dx = none → dx ≠ a → D.nx σ (upd (upd H2 dx (exd dx [(f, y)])) a (exo a C (some dx)))
section
variable {X : Cx} {o e : Expr} {es : List Expr} {to te : TE} {ta : TA} {f : PySem.Str} {p p' p1 p2 pos : Pos} {B newId initId : String} {bt : List Value}
theorem pe_binit {pl : Sem Bool} (b : PmExi.ExB B newId initId bt) (hg : Gl X B) (hm : X.mg B = none) (hbt : bootBuiltins B = some (.type B)) (vV : PySem.W.findCls X.K (.type B) (.type "type") "__init__" = some (.val (.builtin initId))) (hh : PySem.W.handedIn (.builtin initId) = true) (ha : PA X (e :: es) ta)
    (hn1 : ((B : String) : PySem.Str) ≠ ("__name__" : PySem.Str)) (hn2 : (((B : String) : PySem.Str) == ("__debug__" : PySem.Str)) = false)
    (hc : eval (.Call (.Attribute (.Name B p1) "__init__" p2) (e :: es) [] pos) X.env = (do
      let ov ← eval (.Name B p1) X.env
      standAt p2.atName
      let (f, first) ← holding [ov] (getMethod ov "__init__" pl)
      callWith pos f first (backTo pos (starEach (e :: es) X.env)) (backToKw pos (keywordEach [] X.env))) := by rfl)
    (he : starEach (e :: es) X.env = (false, eval e X.env) :: starEach es X.env := by rfl) (hpl : (backTo pos (starEach es X.env)).any (·.1) = false := by rfl) :
    PE X (.Call (.Attribute (.Name B p1) "__init__" p2) (e :: es) [] pos) (tBInit X.K B newId initId bt ta) := by
  refine ⟨fun pins s σ H Q I h => ?_⟩
  refine PySem.W.methodCall_KW (ld_blt I hg hm hbt ?_ hn1 hn2) hc
  obtain ⟨m, fr⟩ := I.fr
  refine PySem.W.method_type fr I.ok.mod.kin b.typ b.stub vV hh ?_
  show wpAny _ _ (callWith pos (Value.builtin initId) [] (backTo pos (starEach (e :: es) X.env)) []) _ _ _
  refine PyProof.Rows.callWith_method1 (thn (ha.run pos pins _ σ H _ (I.tok _) h) fun us s1 ⟨vs, H1, I1, r1, a, C, ws, ev, hl, T, ea, q⟩ => ?_) he hpl
  subst ev
  cases r1 with
  | @cons _ u0 _ ur ra rw' =>
    obtain rfl : u0 = Value.ref a := ra
    have hlen : ur.length ≤ sizeLine := by
      rw [← Paired.length rw', sizeLine_eq]
      omega
    exact oxb_init T I1 ea hlen fun s' J => ⟨.non, H1, J, rfl, q⟩
theorem ps_st1 (ho : PE X o to) (he : PE X e te) (hs : swapsWith e (some (.Attribute o f p')) pos.line X.env = pure false := by rfl) : PS X (.Assign [.Attribute o f p'] e pos) (tSt1 X.K B newId initId bt f to te) := by
  refine ⟨fun pins s σ H D I h => ?_⟩
  refine plainObj_wpAny_Assign_Attribute (thn (he.run pins s σ H _ I h) fun v s1 ⟨y, H1, I1, r1, q1⟩ => thn (ho.run pins s1 σ H1 _ I1 q1) fun u s2 ⟨x, H2, I2, r2, a, C, ex, T, hno, ea, q⟩ => ?_) hs
  subst ex
  obtain rfl : u = Value.ref a := r2
  exact oxb_store T I2 ea hno r1 fun dx s' n ne J => ⟨σ, _, J, q dx n ne⟩
theorem pmk_oxb {CX : CXT} {x : PySem.Str} {C fI : Addr} {k : Nat} {fd : FuncData} {ps : List PySem.Str} {sp : Sp} {ds : List Value} {dvs : List V} (T : OxB X.K C B newId initId bt) (iC : PySem.W.findIn X.K (.ref C) "__init__" = some (some (.ref fI))) (tI : PySem.W.typeIn X.K (.ref fI) = some (.type "function"))
    (F1 : FnG X.prog X.w X.K X.mg X.base CX k fI fd ps sp) (hG : X.A.guards = some []) (hr : Room (k + 1) X.A) (hb : Binds X.K fd ps ds) (hd : Vals dvs ds) (hx : Passes CX X (fun _ _ _ => False)) (hm : X.mg x = some (.ref C)) (ha : PA X (e :: es) ta) (hg : Gl X x := by rfl)
    (hdb : (x == ("__debug__" : PySem.Str)) = false := by decide) (he : starEach (e :: es) X.env = (false, eval e X.env) :: starEach es X.env := by rfl) (hpl : (backTo pos (starEach es X.env)).any (·.1) = false := by rfl) :
    PMk X (.Call (.Name x p) (e :: es) [] pos) (tMkO C sp dvs ta) := by
  intro pins s σ H Q I h
  refine wpAny_Call_Name_kw (ld_glob I hg hm ?_ hdb)
  refine PySem.W.callWith_K (h₀ := X.base) I.ok.mod.kin T.kC (thn (ha.run pos pins s σ H _ I h) fun us s1 ⟨vs, H1, I1, r1, hz, q1⟩ => ⟨I1.kIn, ?_⟩) he hpl
  obtain ⟨nm, N, q, bs, bm, hdct, sn, sub, ab, col, dd, k0, k1, k2, k3, k5, hC, hbm⟩ := PySem.W.excInit_of I1.kIn T.q
  show wpAny _ _ (call (.ref C) us) _ _ _
  obtain ⟨hp, g, dr, tk, os⟩ := s1
  have hsz : hp.objs.size ≤ hp.objs.size + 1 := Nat.le_succ _
  have hn : H1 (hp.objs.size + 1) = none := I1.hok.fresh hsz
  have hq := q1 (hp.objs.size + 1) hn
  have kk : ∀ b o, hp.get? b = some o → ((hp.push (PySem.W.kdv_tup us)).push (PySem.HandSPX.excO C hp.objs.size)).get? b = some o := fun b o e => Heap.get?_push_of_some _ (Heap.get?_push_of_some _ e)
  have hget : ((hp.push (PySem.W.kdv_tup us)).push (PySem.HandSPX.excO C hp.objs.size)).get? (hp.objs.size + 1) = some (PySem.HandSPX.excO C hp.objs.size) := by heap_get
  have I2 : Inv X pins σ (upd H1 (hp.objs.size + 1) (exo (hp.objs.size + 1) C none)) ⟨(hp.push (PySem.W.kdv_tup us)).push (PySem.HandSPX.excO C hp.objs.size), g, dr, tk, os⟩ :=
    I1.laid (t' := tk) (a := hp.objs.size + 1) (o := exo (hp.objs.size + 1) C none) (h' := (hp.push (PySem.W.kdv_tup us)).push (PySem.HandSPX.excO C hp.objs.size)) kk hsz (exo_ok hget)
  have r2 : Vals (V.ref (hp.objs.size + 1) :: (vs ++ dvs)) (Value.ref (hp.objs.size + 1) :: (us ++ ds)) := .cons rfl (r1.append hd)
  have hl : (Value.ref (hp.objs.size + 1) :: us ++ ds).length = ps.length := by
    have e := r2.length
    rw [F1.len _ _ _ _ hq] at e
    exact e.symm
  have hus : us.length ≤ sizeLine := by
    rw [← Paired.length r1, sizeLine_eq]
    omega
  refine wpAny_call (PySem.HandSPX.call_own T.b.F hbm hC (PySem.W.looks_findIn I1.kIn iC) (fun self => PySem.W.bind_fn I1.kIn self tI) hus
    (codeAny_mono (F1.run (X.A.under (.builtin "type.__call__" ⟨.ref C :: us, []⟩)) (by first | exact hG | (simpa [Around.under] using hG)) X.stack _ _ ⟨Value.ref (hp.objs.size + 1) :: us, []⟩ (Value.ref (hp.objs.size + 1) :: (us ++ ds)) _ _ (fun _ _ _ => False) (hr.make C us []) (I2.env0.make C us []) (hb _ (Value.ref (hp.objs.size + 1) :: us) I2.kIn hl) r2 hq) fun r s' hq' => ?_))
  cases r with
  | error er => exact hx pins σ _ _ er s' I2 hq'
  | ok fl =>
    cases fl with
    | ret u =>
      obtain ⟨v, H2, os2, bare2, un2, hok2, rv, ev, d, fs, ea, ed, hd1, q2⟩ := hq'
      subst ev
      obtain ⟨h2, g2, d2, t2, os'⟩ := s'
      exact ⟨rv, mk_end (raises_own T.exC T.tyC) I1 hsz kk un2 hok2 os2 bare2 ea ed hd1 q2⟩
    | next => exact False.elim hq'
    | brk => exact False.elim hq'
    | cont => exact False.elim hq'
end
end Pm

/-! ### an exception with fields, caught and kept -/
namespace PmExi
open PySem PySem.Spec PySem.Calls PyProof.Rows PySem.W
section
variable {prog : Program} {w : World} {A : Around} {E : Value → Shared → Prop} {s : Shared} {K : Frag} {x D : Addr} {ox : Obj} {od : Option Obj}
theorem findObj_dataA {C : Addr} {name : Str} {a g : Value} (hc : (clsIn K C).isSome = true) (ha : findIn K (.ref C) name = some (some a)) (hg : specialIn K a "__get__" = some (some g)) (ht : takesIn K a = some true) : findObj K C od name = some (.bind g a) := by
  obtain ⟨cd, hc⟩ := Option.isSome_iff_exists.mp hc
  unfold findObj
  rw [hc, Option.bind_some, ha, Option.bind_some]
  simp [hg, ht]
theorem kin_classA {Q : Option Value → Shared → Prop} (hga : findIn K (.ref D) "__getattribute__" = some (some (.builtin "BaseException.__getattribute__"))) (hgt : findIn K (.ref D) "__getattr__" = some none) (hsub : subIn K (.ref D) (.type "BaseException") = some true)
    (hdct : hasDictIn K D = true) (ha : findIn K (.ref D) "__class__" = some (some (.builtin "object.__class__")))
    (hn : specialIn K (.builtin "object.__class__") "__get__" = some (some (.builtin "getset_descriptor.__get__"))) (htk : takesIn K (.builtin "object.__class__") = some true) (hm : mroIn K D (.type "object") = some true)
    (X : K.In s.heap) (I : InstAt s.heap x ox D od) (h : Q (some (.ref D)) { s with toks := s.toks + 1 }) : wpAny (model prog w) A (getAttr? (.ref x) "__class__") Q E s := by
  have hf : findObj K D od "__class__" = some (.bind (.builtin "getset_descriptor.__get__") (.builtin "object.__class__")) := findObj_dataA (by obtain ⟨cd, hc, _⟩ := any_some hdct; rw [hc]; rfl) ha hn htk
  obtain ⟨hp, g, d, t, os⟩ := s
  have L0 := I.type (M := model prog w)
  have L1 := looks_findIn (M := model prog w) X hga
  have L2 := looks_findIn (M := model prog w) X hgt
  have L3 := looks_find (M := model prog w) X I hf
  have sub : Looks (model prog w) hp (isInstance (.ref x) (.type "BaseException")) true := L0.andThen (looks_subIn X hsub)
  have hx0 : (false && onTheHeap (Value.builtin "BaseException.__getattribute__")) = false := rfl
  have hx2 : (Value.builtin "BaseException.__getattribute__" == Value.builtin "object.__getattribute__") = false := by decide +kernel
  have hx1 : (onTheHeap (Value.ref D) && Value.builtin "BaseException.__getattribute__" == Value.builtin "object.__getattribute__") = false := by rw [hx2]; rfl
  unfold getAttr? getAttrBy? getAttrBy
  refine wpAny_bind (wpAny_mkText (wpAny_bind (wpAny_attempt (wpAny_holding (wpAny_bind (L0.at (wpAny_bind (L1.at ?_))))))))
  show wpAny _ _ (if (onTheHeap (Value.ref D) && Value.builtin "BaseException.__getattribute__" == Value.builtin "object.__getattribute__") = true then _ else _) _ _ _
  rw [hx1, if_neg Bool.false_ne_true]
  unfold getAttrByItsOwn hookBefore
  refine wpAny_bind ?_
  rw [if_pos (show onTheHeap (Value.ref D) = true from rfl)]
  refine L2.at ?_
  refine wpAny_bind (wpAny_attempt (wpAny_holding ?_))
  unfold callGetattribute
  rw [hx0, if_neg Bool.false_ne_true]
  unfold boundAndCalled
  rw [PySem.F.excAttr_ValueError.ga.bind (.ref x)]
  refine wpAny_bind (wpAny_pure ?_)
  show wpAny _ _ (call (.builtin "BaseException.__getattribute__") [.ref x, .str "__class__" t]) _ _ _
  refine wpAny_call (codeAny_call_builtin PySem.F.excAttr_ValueError.ga.plain PySem.F.entry_bexc_ga ?_)
  refine @check_slot (model prog w) _ _ ⟨hp, g, d, t + 1, os⟩ "BaseException.__getattribute__" "BaseException" "__getattribute__" (.ref x) [.str "__class__" t] [] _ (by decide +kernel) (by decide +kernel) sub (PySem.F.args_bexc_ga (.ref x) (.str "__class__" t)) ?_
  unfold Builtin.«object.__getattribute__»
  refine wpAny_bind (wpAny_of_eq (a := ((Value.ref x : Value), [Value.str "__class__" t])) (by first | rfl | (simp only [slotArgs]; rfl)) ?_)
  refine wpAny_bind (wpAny_pure (wpAny_bind (L0.at (wpAny_bind (L3.at ?_)))))
  show wpAny _ _ (holding [Value.builtin "object.__class__"] (call (.builtin "getset_descriptor.__get__") [.builtin "object.__class__", .ref x, .ref D]) >>= ret) _ _ _
  refine wpAny_bind (wpAny_holding (wpAny_call (class_get (s := ⟨hp, g, d, t + 1, os⟩) (ox := ox) (od := od) X I hm ?_)))
  refine wpAny_pure ?_
  show wpAny _ _ (handedOut (.ref D)) _ _ _
  rw [handedOut_of (v := .ref D) rfl]
  first
    | exact wpAny_pure (wpAny_pure h)
    | exact wpAny_pure h
    | exact wpAny_pure (wpAny_bind (wpAny_pure (wpAny_pure h)))
theorem kitx_excA (hga : findIn K (.ref D) "__getattribute__" = some (some (.builtin "BaseException.__getattribute__"))) (hgt : findIn K (.ref D) "__getattr__" = some none) (hsub : subIn K (.ref D) (.type "BaseException") = some true) (hdct : hasDictIn K D = true) (ha : findIn K (.ref D) "__class__" = some (some (.builtin "object.__class__")))
    (hn : specialIn K (.builtin "object.__class__") "__get__" = some (some (.builtin "getset_descriptor.__get__"))) (htk : takesIn K (.builtin "object.__class__") = some true) (hm : mroIn K D (.type "object") = some true) :
    KitX K (.ref x) (.ref D) (fun h => InstAt h x ox D od) where
  ty := fun _ _ _ I => I.type
  it := fun _ _ X _ => by
    obtain ⟨cdD, hcD, _⟩ := any_some hdct
    unfold clsIn at hcD
    split at hcD
    · rename_i c' d' cd' sl' ho
      intro A' Q' E' s' k q
      unfold isType loadHead
      exact wpAny_bind (wpAny_loadPart (k _ _ (X _ _ ho)) (wpAny_pure q))
    · cases hcD
  ne := fun h tp dd its n sl X htp => by
    obtain ⟨cdD, hcD, _⟩ := any_some hdct
    refine Bool.eq_false_iff.mpr fun q => ?_
    have e : D = tp := Value.ref.inj (beq_iff_eq.mp q)
    subst e
    unfold clsIn at hcD
    split at hcD
    · rename_i c' d' cd' sl' ho
      have z := (X _ _ ho).symm.trans htp
      cases z
    · cases hcD
  ca := fun X I k => kin_classA hga hgt hsub hdct ha hn htk hm X I k
end
end PmExi
namespace Pm
open PySem PySem.Spec PyProof.Rows L2
/-- an exception of the class D with one field stands, caught and kept -/
structure ExFld (H : Hp) (D a : Addr) (f : PySem.Str) (v : V) : Prop where
  ex : ∃ d fs, H a = some (exHO (.ref D) (some d) a) ∧ H d = some (.xd fs) ∧ fs.lookup f = some v
def rIsXd (K : PySem.W.Frag) (D : Addr) (f : PySem.Str) : List V → Hp → VK → Prop := fun xs H Q => ∃ (a : Addr) (c : V) (cv : Value) (v : V) (b : Bool), xs = [.ref a, c] ∧ ExFld H D a f v ∧ ClsV c cv ∧ PySem.W.kitOne K (.ref D) cv = some b ∧ Q (.bl b) H
/-- its field, read -/
def tXfV (K : PySem.W.Frag) (D : Addr) (f : PySem.Str) (te : TE) : TE := fun σ H Q => te σ H fun x H1 => ∃ a v, x = .ref a ∧ ExFld H1 D a f v ∧ Q v H1
section
variable {X : Cx} {D : Addr} {f : PySem.Str}
theorem inst_fld {pins : List (Addr × Obj)} {σ : L2.St} {H : Hp} {s : Shared} {a : Addr} {v : V} (I : Inv X pins σ H s) (h : ExFld H D a f v) : ∃ oe od u, PySem.W.InstAt s.heap a oe D (some od) ∧ PySem.W.lookIn f od = some (some u) ∧ L2.RelV v u := by
  obtain ⟨d, fs, h1, h2, h3⟩ := h.ex
  obtain ⟨⟨oe, vs, at_, z, dt⟩, _⟩ := (show ObjOk X.prog X.w H s.heap a (exHO (.ref D) (some d) a) from I.hok a _ h1)
  have hx : ObjOk X.prog X.w H s.heap d (.xd fs) := I.hok d _ h2
  obtain ⟨mA, hns, hr⟩ := hx
  obtain ⟨od, ho, hl⟩ := lookIn_ns hns
  obtain ⟨u, hu, ru⟩ := RelO.some_of (v := v) (o := mA f) (by rw [← h3]; exact hr f)
  exact ⟨oe, od, u, ⟨at_, z.1, by unfold PySem.W.notCls; rw [dt] <;> rfl, by rw [z.2]; exact ho⟩, by rw [hl, hu], ru⟩
theorem call_isXd (C : ExcC X.K D) : CallR X (.builtin "isinstance") (rIsXd X.K D f) := by
  intro pins s σ H xs us Q I r h
  obtain ⟨a, c, cv, v, b, rfl, ha, hc, e, q⟩ := h
  obtain ⟨u1, u2, rfl, r1, r2⟩ := vals2 r
  cases (show u1 = Value.ref a from r1)
  obtain ⟨oe, od, u, J, _⟩ := inst_fld I ha
  have e2 := hc.eq r2
  subst e2
  exact PySem.W.kia_one (PmExi.kitx_excA C.hg C.hk C.hs C.hd C.ha C.hn C.ht C.hm) I.kIn J e (fun z => nomatch z) fun tk => ⟨.bl b, H, I.kept (t' := tk) fun _ _ z => z, rfl, q⟩
theorem k_isXd {K : PySem.W.Frag} (C : ExcC K D) (hK : X.K = K := by rfl) : CallR X (.builtin "isinstance") (rIsXd K D f) := by subst hK; exact call_isXd C
theorem pe_xfV {e : Expr} {te : TE} {pos : Pos} {K : PySem.W.Frag} (C : ExcC K D) (hno : PySem.W.findIn K (.ref D) f = some none) (he : PE X e te) (hb : attributeBase e f X.env (eval e X.env) = eval e X.env := by rfl) (hK : X.K = K := by rfl) :
    PE X (.Attribute e f pos) (tXfV K D f te) := by
  subst hK
  refine ⟨fun pins s σ H Q I h => ?_⟩
  refine attr_of hb (thn (he.run pins s σ H _ I h) fun u s1 hh => ?_)
  obtain ⟨x, H1, I1, rx, a, v, ex, ha, q⟩ := hh
  subst ex
  obtain rfl : u = Value.ref a := rx
  obtain ⟨oe, od, u, J, hl, ru⟩ := inst_fld I1 ha
  exact HandSPX.exc_get I1.kIn J C.hg C.hk C.hs (PySem.W.findObj_own C.hd hno rfl hl) (handed_of ru) ⟨v, H1, I1.tok _, ru, q⟩
/-- except (A, B) as e -/
theorem test_two {x1 x2 : PySem.Str} {p1 p2 tpos : Pos} {kk : Nat} {c1 c2 : Value} {T : Value → Prop} (n1 : Names X x1 c1) (n2 : Names X x2 c2) (hT : ∀ cls, T cls → PySem.W.exmAny X.K cls [c1, c2] = some true) : TestOk X (.Tuple [.Name x1 p1, .Name x2 p2] kk tpos) T := by
  intro a oe pn σ H s S hcl Q E hq
  obtain ⟨ha, _⟩ := S.pin (a, oe) (List.mem_append_left _ (List.mem_cons_self ..))
  have look : PySem.W.Looks (model X.prog X.w) s.heap (typeOf (.ref a)) oe.cls := fun A Q E s' k q => wpAny_typeOf_ref (k _ _ ha) q
  have nm : ∀ {x : PySem.Str} {c : Value} {np : Pos} {Q' : Value → Shared → Prop}, Names X x c → Q' c s → wpAny (model X.prog X.w) (X.A.mark (some (.ref a))) (eval (.Name x np) X.env) Q' E s := by
    intro x c np Q' hc fin
    obtain ⟨g, db, m | ⟨m, v, nn⟩⟩ := hc
    · exact ld_glob S g m fin db
    · exact ld_blt S g m v fin nn db
  refine wpAny_Tuple ?_
  refine wpAny_items_cons (nm n1 ?_)
  refine wpAny_items_cons (nm n2 ?_)
  refine wpAny_items_nil ⟨by size_fits, ?_⟩
  have kp : ∀ q o, s.heap.get? q = some o → (s.heap.push { cls := .type "tuple", data := .seq [c1, c2].toArray }).get? q = some o := fun _ _ z => Heap.get?_push_of_some _ z
  exact (PySem.W.exm_tup2 (S.kIn.keeps kp) (look.keeps kp) (Heap.get?_push_size s.heap rfl) (hT _ hcl)).here (hq _ _ kp)
end
section
variable {K : PySem.W.Frag} {H H' : Hp} {Q : VK} {D a : Addr} {f : PySem.Str} {v c : V} {cv : Value} {b : Bool} {σ : L2.St} {te : TE}
theorem i_isXd (h1 : ExFld H D a f v) (hc : ClsV c cv) (e : PySem.W.kitOne K (.ref D) cv = some b) (h : Q (.bl b) H) : rIsXd K D f [.ref a, c] H Q := ⟨a, c, cv, v, b, rfl, h1, hc, e, h⟩
theorem i_xfV (h : te σ H fun x H1 => ∃ a v, x = .ref a ∧ ExFld H1 D a f v ∧ Q v H1) : tXfV K D f te σ H Q := h
theorem ExFld.same (h : ExFld H D a f v) (e : Same H H') : ExFld H' D a f v := let ⟨d, fs, h1, h2, h3⟩ := h.ex; ⟨d, fs, e _ _ h1, e _ _ h2, h3⟩
end
end Pm

/-! ### != of instances whose class has an own == and no own != -/
namespace PmNeo
open PySem PySem.W PySem.Calls PyProof.Rows
theorem slot_ne : Slot "object" "__ne__" "object.__ne__" :=
  Slot.of (T := "object") (name := "__ne__") (owner := "object") (n := "__ne__") (by rw [typeLookup_type, builtinLookup_eq_fast]; kernel_rfl) (by decide +kernel) (by decide +kernel) (by decide +kernel)
    (.inl (by decide +kernel)) (by rw [isSubtype_type]; kernel_rfl)
section
variable {prog : Program} {w : World} {A : Around} {E : Value → Shared → Prop} {s : Shared} {x C f : Addr} {b : Value} {K : Frag} {ox : Obj} {od : Option Obj} {h₀ : Heap} {L : Value} {m : Nat}
theorem ifBound_B {M : Model} {args : List Value} {Q : Option Value → Shared → Prop} (X : K.In s.heap) (I : InstAt s.heap x ox C od) (hs : findIn K (.ref C) "__ne__" = some (some (.builtin "object.__ne__")))
    (h : wpAny M A (call (.builtin "object.__ne__") (.ref x :: args)) (fun v => Q (some v)) E s) : wpAny M A (callSpecialIfBound? (.ref x) "__ne__" args) Q E s := by
  simp only [callSpecialIfBound?, bindSpecialIfBound?]
  refine wpAny_holding (wpAny_bind (wpAny_bind (wpAny_bind (I.type.here ((looks_findIn X hs).here ?_)))))
  refine wpAny_bind (wpAny_askSetting (wpAny_ite ?_))
  have fin : wpAny M A (call (.builtin "object.__ne__") ([.ref x] ++ args) >>= fun v => pure (some v)) Q E s := wpAny_bind (wpAny_mono h (fun v s' h' => wpAny_pure h') fun _ _ h' => h')
  rw [slot_ne.bind]
  split
  · exact wpAny_bind (wpAny_pure (wpAny_pure (by exact fin)))
  · exact wpAny_tryCatch (wpAny_bind (wpAny_pure (wpAny_pure (by exact fin))))
theorem ne_entry {Q : Fin → Shared → Prop} (X : K.In s.heap) (I : InstAt s.heap x ox C od) (hu : A.units < cLine) (he : findIn K (.ref C) "__eq__" = some (some (.ref f))) (hf : isFn K (.ref f) = true)
    (hcall : wpAny (model prog w) A (call (.ref f) [.ref x, b]) (fun v s' => ∃ c, v = .bool c ∧ Q (.done (.ret (.bool (!c)))) s') E s) :
    wpAny (model prog w) A (Builtin.«object.__ne__» ⟨[.ref x, b], []⟩) Q E s := by
  unfold Builtin.«object.__ne__»
  repeat (first
    | with_reducible refine wpAny_cRoomFor hu ?_
    | (refine wpAny_bind (m := callSpecialIfBound? (.ref x) (Str.ofString "__eq__") [b])
        (ifBound_K X I he hf (wpAny_mono hcall (fun r s' hr => by
          obtain ⟨c, rfl, hq⟩ := hr
          repeat (first | exact hq | exact wpAny_pure hq | exact wpAny_truthy_bool hq | (refine wpAny_bind (m := truthy (.bool _)) (wpAny_truthy_bool ?_)) | wp_step)) fun _ _ e => e)))
    | wp_step)
theorem ne_K {tb : Value} {Q : Value → Shared → Prop} (hu : A.units + 1 < cLine) (X : K.In s.heap) (I : InstAt s.heap x ox C od) (hb : Looks (model prog w) s.heap (typeOf b) tb) (hn : notFirst K C tb = true)
    (hs : findIn K (.ref C) "__ne__" = some (some (.builtin "object.__ne__"))) (hob : mroIn K C (.type "object") = some true) (he : findIn K (.ref C) "__eq__" = some (some (.ref f))) (hf : isFn K (.ref f) = true)
    (h : wpAny (model prog w) A.in1 (call (.ref f) [.ref x, b]) (fun v s' => ∃ c, v = .bool c ∧ Q (.bool (!c)) s') E s) : wpAny (model prog w) A (richCompare .NotEq (.ref x) b) Q E s := by
  have one : wpAny (model prog w) A (tryCompare (.ref x) "__ne__" b) (fun r s' => ∃ v, r = some v ∧ Q v s') E s := by
    unfold tryCompare
    have sub : Looks (model prog w) s.heap (isInstance (.ref x) (.type "object")) true := I.type.andThen (looks_mroIn X hob)
    refine wpAny_bind (ifBound_B X I hs (wpAny_call (codeAny_call_builtin slot_ne.plain PySem.F.cmpEntry_ne (@check_slot (model prog w) _ _ s "object.__ne__" "object" "__ne__" (.ref x) [b] [] _ PySem.F.cmpKind_ne PySem.F.cmpSplit_ne sub (PySem.F.cmpArgs_ne _ _)
      (ne_entry (A := A.in1) X I hu he hf (wpAny_mono h (fun v s' hv => ?_) fun _ _ e => e))))))
    obtain ⟨c, rfl, hq⟩ := hv
    first | exact ⟨c, rfl, wpAny_pure ⟨_, rfl, hq⟩⟩ | exact ⟨c, rfl, wpAny_pure (wpAny_pure ⟨_, rfl, hq⟩)⟩ | exact ⟨c, rfl, ⟨_, rfl, hq⟩⟩
  unfold richCompare
  simp only [oneThing_ref]
  refine wpAny_holding (wpAny_bind (wpAny_cRoomFor (Nat.lt_of_succ_lt hu) ?_))
  refine wpAny_bind (I.type.here (wpAny_bind (hb.here ?_)))
  split
  · rename_i q
    have e : subIn K tb (.ref C) = some false := by
      rcases Bool.or_eq_true_iff.mp hn with e | e
      · rw [beq_iff_eq.mp e] at q; simp at q
      · exact beq_iff_eq.mp e
    refine wpAny_bind ((looks_subIn X e).here ?_)
    simp only [Bool.false_eq_true, if_false]
    refine wpAny_bind (wpAny_mono one (fun r s' z => ?_) fun _ _ e => e)
    obtain ⟨v, rfl, hq⟩ := z
    exact wpAny_pure hq
  · refine wpAny_bind (wpAny_pure ?_)
    simp only [Bool.false_eq_true, if_false]
    refine wpAny_bind (wpAny_mono one (fun r s' z => ?_) fun _ _ e => e)
    obtain ⟨v, rfl, hq⟩ := z
    exact wpAny_pure hq
end
end PmNeo
namespace Pm
open PySem PySem.Spec PyProof.Rows L2
section
variable {X : Cx} {pins : List (Addr × Obj)} {σ : L2.St} {H : Hp} {s : Shared} {C : Addr} {kq n k : Nat} {A : Around}
theorem rn_flat (I : Inv X pins σ H s) {u v : Value} {b c : Bool} (h : SeqAt.RcNeAt A s u v b) (e : b = c) : wpAny (model X.prog X.w) A (richCompare .NotEq u v) (EqPost X pins σ H c) X.xe s := by
  subst e
  exact h X.prog X.w X.xe _ ⟨rfl, H, I, Same.refl _⟩
theorem rcV (E : EqC X.prog X.w X.K X.mg X.base kq C) (hne : PySem.W.findIn X.K (.ref C) "__ne__" = some (some (.builtin "object.__ne__"))) (hob : PySem.W.mroIn X.K C (.type "object") = some true) {x y : V} {u v : Value} {a b : WD} (sb : SubG X (kq + (n + 1)) A) (I : Inv X pins σ H s) (rx : L2.RelV x u) (ry : L2.RelV y v) (hx : WAt X.K C H (n + 1) x a) (hy : WAt X.K C H k y b) (hw : weq a b = true) :
    wpAny (model X.prog X.w) A (richCompare .NotEq u v) (EqPost X pins σ H false) X.xe s := by
  rcases wat_kind rx hx with ⟨rfl, rfl⟩ | ⟨i, rfl, rfl⟩ | ⟨i, t, rfl, rfl⟩ | ⟨i, t, rfl, rfl⟩ | ⟨p, rs, ts, rfl, rfl, ha⟩ | ⟨p, vs, l, m, rfl, rfl, hp, e1, g1⟩ <;>
  rcases wat_kind ry hy with ⟨rfl, rfl⟩ | ⟨j, rfl, rfl⟩ | ⟨j, t', rfl, rfl⟩ | ⟨j, t', rfl, rfl⟩ | ⟨q, rs', ts', rfl, rfl, hb⟩ | ⟨q, ws, l', m', rfl, rfl, hq, e2, g2⟩
  · exact rn_flat I SeqAt.RcNeAt.none_none rfl
  · exact absurd hw (by rw [show weq _ _ = false from rfl]; decide)
  · exact absurd hw (by rw [show weq _ _ = false from rfl]; decide)
  · exact absurd hw (by rw [show weq _ _ = false from rfl]; decide)
  · exact absurd hw (by rw [show weq _ _ = false from rfl]; decide)
  · exact absurd hw (by rw [show weq _ _ = false from rfl]; decide)
  · exact absurd hw (by rw [show weq _ _ = false from rfl]; decide)
  · exact rn_flat I (SeqAt.RcNeAt.bool_bool _ _) (by simpa [weq] using hw)
  · exact rn_flat I (SeqAt.RcNeAt.bool_int _ _ _) (by simpa [weq] using hw)
  · exact absurd hw (by rw [show weq _ _ = false from rfl]; decide)
  · exact absurd hw (by rw [show weq _ _ = false from rfl]; decide)
  · exact absurd hw (by rw [show weq _ _ = false from rfl]; decide)
  · exact absurd hw (by rw [show weq _ _ = false from rfl]; decide)
  · exact rn_flat I (SeqAt.RcNeAt.int_bool _ _ _) (by simpa [weq] using hw)
  · exact rn_flat I (SeqAt.RcNeAt.int_int _ _ _ _) (by simpa [weq] using hw)
  · exact absurd hw (by rw [show weq _ _ = false from rfl]; decide)
  · exact absurd hw (by rw [show weq _ _ = false from rfl]; decide)
  · exact absurd hw (by rw [show weq _ _ = false from rfl]; decide)
  · exact absurd hw (by rw [show weq _ _ = false from rfl]; decide)
  · exact absurd hw (by rw [show weq _ _ = false from rfl]; decide)
  · exact absurd hw (by rw [show weq _ _ = false from rfl]; decide)
  · exact rn_flat I (SeqAt.RcNeAt.str_str _ _ _ _) (by simpa [weq] using hw)
  · exact absurd hw (by rw [show weq _ _ = false from rfl]; decide)
  · exact absurd hw (by rw [show weq _ _ = false from rfl]; decide)
  · exact absurd hw (by rw [show weq _ _ = false from rfl]; decide)
  · exact absurd hw (by rw [show weq _ _ = false from rfl]; decide)
  · exact absurd hw (by rw [show weq _ _ = false from rfl]; decide)
  · exact absurd hw (by rw [show weq _ _ = false from rfl]; decide)
  · obtain ⟨fe, fd, he, hf, F, hbb⟩ := E.ex
    obtain ⟨dx, _, _, _, e, _⟩ := ha.ex
    obtain ⟨mA, J, _⟩ := ins_get I.hok e
    obtain ⟨od, J, _⟩ := J.look
    have hT : PySem.W.Looks (model X.prog X.w) s.heap (typeOf (.ref q)) (.ref C) := by
      obtain ⟨dx', _, _, _, e', _⟩ := hb.ex
      obtain ⟨mA', J', _⟩ := ins_get I.hok e'
      obtain ⟨od', J', _⟩ := J'.look
      exact J'.type
    have sb1 : SubG X (kq + n) A.in1 := sb.in1 (n := kq + n)
    refine PmNeo.ne_K ?_ I.kIn J hT (by simp [PySem.W.notFirst]) hne hob he hf (wpAny_mono (call_own E (sb1.mono (by omega)) I ha hy ry he) (fun r s' z => ?_) fun _ _ z => z)
    · exact sb1.room.units0
    · obtain ⟨rfl, z⟩ := z
      exact ⟨_, rfl, by rw [hw]; rfl, z⟩
  · exact absurd hw (by rw [show weq _ _ = false from rfl]; decide)
  · exact absurd hw (by rw [show weq _ _ = false from rfl]; decide)
  · exact absurd hw (by rw [show weq _ _ = false from rfl]; decide)
  · exact absurd hw (by rw [show weq _ _ = false from rfl]; decide)
  · exact absurd hw (by rw [show weq _ _ = false from rfl]; decide)
  · exact absurd hw (by rw [show weq _ _ = false from rfl]; decide)
  · have := rcWN E sb I rx ry hx hy
    rw [hw] at this
    exact this
/-- != of two that are alike -/
def rNeV (K : PySem.W.Frag) (C : Addr) (n : Nat) : R2 := fun x y H Q => ∃ a b k, WAt K C H (n + 1) x a ∧ WAt K C H k y b ∧ weq a b = true ∧ ∀ H', Same H H' → Q (.bl false) H'
theorem op_neV (E : EqC X.prog X.w X.K X.mg X.base kq C) (hne : PySem.W.findIn X.K (.ref C) "__ne__" = some (some (.builtin "object.__ne__"))) (hob : PySem.W.mroIn X.K C (.type "object") = some true) (hG : X.A.guards = some []) (hr : Room (kq + (n + 1)) X.A) : OpR X (compareOp .NotEq) (rNeV X.K C n) := by
  intro pins s σ H x y u v Q I rx ry h
  obtain ⟨a, b, k, hx, hy, hw, q⟩ := h
  show wpAny (model X.prog X.w) X.A (richCompare .NotEq u v) (EP X pins σ Q) X.xe s
  refine wpAny_mono (rcV E hne hob ⟨hr, rfl, hG⟩ I rx ry hx hy hw) (fun r s' z => ?_) fun _ _ z => z
  obtain ⟨rfl, H', I', sm⟩ := z
  exact ⟨.bl false, H', I', rfl, q H' sm⟩
theorem k_neV {X : Cx} {kq n : Nat} {C : Addr} (K : PySem.W.Frag) (E : EqC X.prog X.w X.K X.mg X.base kq C) (hne : PySem.W.findIn K (.ref C) "__ne__" = some (some (.builtin "object.__ne__"))) (hob : PySem.W.mroIn K C (.type "object") = some true) (hG : X.A.guards = some []) (hr : Room (kq + (n + 1)) X.A) (hK : X.K = K := by rfl) : OpR X (compareOp .NotEq) (rNeV K C n) := by subst hK; exact op_neV E hne hob hG hr
theorem i_neV {K : PySem.W.Frag} {C : Addr} {n k : Nat} {x y : V} {a b : WD} {H : Hp} {Q : VK} (h1 : WAt K C H (n + 1) x a) (h2 : WAt K C H k y b) (e : weq a b = true) (q : ∀ H', Same H H' → Q (.bl false) H') : rNeV K C n x y H Q := ⟨a, b, k, h1, h2, e, q⟩
end
end Pm

namespace Pm
open PySem PySem.Spec PyProof.Rows L2
/-! ### own classes made with keywords, by promises where no repr is under way -/
structure OwnCK (P : Program) (w : World) (K : PySem.W.Frag) (mg : Str → Option Value) (base : Heap) (CX : CXT) (k : Nat) (x : Str) (C : Addr) (ps : List Str) (n : Nat) (ks : List Str) (gV : List V → List V → List V) (sp : Sp) : Prop where
  ex : ∃ f fd g, FnG P w K mg base CX k f fd ps sp ∧ Mk K C f ∧ mg x = some (.ref C) ∧ KBn K fd ps (n + 1) ks g gV
/-- a new instance and its dict, then __init__ -/
def MakeGK (C : Addr) (n m : Nat) (sp : Sp) (gV : List V → List V → List V) (E : XK) (vs zs : List V) (H2 : Hp) (Q : VK) : Prop := vs.length = n ∧ zs.length = m ∧ ∀ x dx, H2 x = none → H2 dx = none → dx ≠ x →
  sp (gV (.ref x :: vs) zs) (upd (upd H2 dx (.own x)) x (.ins C dx [])) (fun v H3 => v = .non ∧ Q (.ref x) H3) E
def tMakeGK (C : Addr) (n m : Nat) (sp : Sp) (gV : List V → List V → List V) (E : XK) (t tk : TA) : TE := fun σ H Q => t σ H fun vs H1 => tk σ H1 fun zs H2 => MakeGK C n m sp gV E vs zs H2 Q
theorem i_makeK {C : Addr} {n m : Nat} {sp : Sp} {gV : List V → List V → List V} {E : XK} {t tk : TA} {σ : L2.St} {H : Hp} {Q : VK} (h : t σ H fun vs H1 => tk σ H1 fun zs H2 => MakeGK C n m sp gV E vs zs H2 Q) : tMakeGK C n m sp gV E t tk σ H Q := h
section
variable {X : Cx} {CX : CXT} {k n : Nat} {f C : Addr} {fd : FuncData} {ps ks : List Str} {sp : Sp} {E : XK} {x : Str} {p pos : Pos} {e : Expr} {es : List Expr} {kws : List Keyword} {t tk : TA} {g : List Value → List Value → List Value} {gV : List V → List V → List V}
theorem run_makeG {pins : List (Addr × Obj)} {σ : L2.St} {H : Hp} {s : Shared} {Q : VK} {us ws : List Value} {vs zs : List V} (M : Mk X.K C f) (F : FnG X.prog X.w X.K X.mg X.base CX k f fd ps sp) (hG : X.A.guards = some []) (hr : Room (k + 1) X.A) (hb : KBn X.K fd ps (n + 1) ks g gV) (hx : Passes CX X E)
    (I : Inv X pins σ H s) (r : Vals vs us) (rz : Vals zs ws) (h : MakeGK C n ks.length sp gV E vs zs H Q) :
    wpAny (model X.prog X.w) X.A (call (.ref C) us (ks.zip ws)) (EP X pins σ Q) X.xe s := by
  obtain ⟨l1, l2, h⟩ := h
  have hq := h (s.heap.objs.size + 1) s.heap.objs.size (I.hok.fresh (Nat.le_succ _)) (I.hok.fresh (Nat.le_refl _)) (Nat.ne_of_lt (Nat.lt_succ_self _))
  have I2 := Inv.made (C := C) I
  have r1 : Vals (V.ref (s.heap.objs.size + 1) :: vs) (Value.ref (s.heap.objs.size + 1) :: us) := .cons rfl r
  have r2 := hb.rel r1 rz
  have n1 : (Value.ref (s.heap.objs.size + 1) :: us).length = n + 1 := by
    rw [List.length_cons, ← r.length, l1]
  refine wpAny_call (make_map (f := f) I.kIn M.makes M.init (beq_iff_eq.mp M.fn) (codeAny_mono (F.run (X.A.under (.builtin "type.__call__" ⟨.ref C :: us, ks.zip ws⟩)) (by first | exact hG | (simpa [Around.under] using hG)) X.stack _ _ ⟨Value.ref (s.heap.objs.size + 1) :: us, ks.zip ws⟩ (g (Value.ref (s.heap.objs.size + 1) :: us) ws) _ _ E (hr.make C us (ks.zip ws))
    (I2.env0.make C us (ks.zip ws)) (hb.to _ (Value.ref (s.heap.objs.size + 1) :: us) ws I2.kIn n1 (rz.length.symm.trans l2)) r2 hq) fun r s' hq' => ?_))
  cases r with
  | error e => exact hx pins σ _ _ e s' I2 hq'
  | ok fl =>
    cases fl with
    | ret u =>
      obtain ⟨v, H', I3, rv, ev, q3⟩ := I2.after hq'
      subst ev
      exact ⟨rv, ⟨V.ref (s.heap.objs.size + 1), H', I3, rfl, q3⟩⟩
    | next => exact False.elim hq'
    | brk => exact False.elim hq'
    | cont => exact False.elim hq'
/-- C(e, .., k = v, ..) -/
theorem pe_ownCK (O : OwnCK X.prog X.w X.K X.mg X.base CX k x C ps n ks gV sp) (hG : X.A.guards = some []) (hr : Room (k + 1) X.A) (hx : Passes CX X E) (ha : PA X (e :: es) t) (hkw : PK X kws tk) (hg : Gl X x := by rfl)
    (hall : (backToKw pos (keywordEach kws X.env)).all (·.1.isSome) = true := by rfl) (hks : (backToKw pos (keywordEach kws X.env)).filterMap (·.1) = ks := by rfl) (hdb : (x == ("__debug__" : Str)) = false := by decide)
    (he : starEach (e :: es) X.env = (false, eval e X.env) :: starEach es X.env := by rfl) (hpl : ((backTo pos (starEach (e :: es) X.env)).any (·.1) || (backToKw pos (keywordEach kws X.env)).any (·.1.isNone)) = false := by rfl) :
    PE X (.Call (.Name x p) (e :: es) kws pos) (tMakeGK C n ks.length sp gV E t tk) := by
  obtain ⟨f, fd, g, F, M, hm, hb⟩ := O.ex
  refine ⟨fun pins s σ H Q I h => ?_⟩
  refine wpAny_Call_Name_kw (ld_glob I hg hm ?_ hdb)
  refine PySem.W.callWith_KW (h₀ := X.base) I.ok.mod.kin M.kp hall (thn (ha.run pos pins s σ H _ I h) fun us s1 ⟨vs, H1, I1, r, q⟩ => ?_) hpl he
  refine thn (hkw.run pos pins s1 σ H1 _ I1 q) fun ws s2 ⟨zs, H2, I2, rz, q2⟩ => ⟨I2.kIn, ?_⟩
  rw [hks]
  exact run_makeG M F hG hr hb hx I2 r rz q2
/-- C(k = v, ..) -/
theorem pe_ownCK0 (O : OwnCK X.prog X.w X.K X.mg X.base CX k x C ps 0 ks gV sp) (hG : X.A.guards = some []) (hr : Room (k + 1) X.A) (hx : Passes CX X E) (hkw : PK X kws tk) (hg : Gl X x := by rfl)
    (hall : (backToKw pos (keywordEach kws X.env)).all (·.1.isSome) = true := by rfl) (hks : (backToKw pos (keywordEach kws X.env)).filterMap (·.1) = ks := by rfl) (hdb : (x == ("__debug__" : Str)) = false := by decide)
    (hpl : ((backTo pos (starEach [] X.env)).any (·.1) || (backToKw pos (keywordEach kws X.env)).any (·.1.isNone)) = false := by rfl) :
    PE X (.Call (.Name x p) [] kws pos) (tMakeGK C 0 ks.length sp gV E tNil tk) := by
  obtain ⟨f, fd, g, F, M, hm, hb⟩ := O.ex
  refine ⟨fun pins s σ H Q I h => ?_⟩
  refine wpAny_Call_Name_kw (ld_glob I hg hm ?_ hdb)
  refine PySem.W.callWith_KW0 (h₀ := X.base) I.ok.mod.kin M.kp hall ?_ hpl
  refine thn (hkw.run pos pins s σ H _ I h) fun ws s2 ⟨zs, H2, I2, rz, q2⟩ => ⟨I2.kIn, ?_⟩
  rw [hks]
  exact run_makeG (us := []) (vs := []) M F hG hr hb hx I2 .nil rz q2
end
section
variable {P : Program} {w : World} {K : PySem.W.Frag} {mg : Str → Option Value} {base : Heap} {CX : CXT} {k : Nat} {x m qual : Str} {params : Arguments} {body : List Stmt} {scope : Scope} {kws : List (Str × V)} {f C : Addr} {fd : FuncData} {ps : List Str} {sp : Sp}
/-- a class whose __init__ has keyword-only parameters, made with all of them by keyword -/
theorem ownCK_k (F : FunD K m qual params body scope [] kws f fd) (M : Mk K C f) (g : mg x = some (.ref C)) (a : FnG P w K mg base CX k f fd ps sp) (n : Nat) (ks : List Str) (hk : kws ≠ [])
    (G : {α : Type} → List α → List α → List α) (hrel : ∀ {vs zs : List V} {us ws : List Value}, Vals vs us → Vals zs ws → Vals (G vs zs) (G us ws))
    (h : ∀ (D : Addr) (doc pm : Value) (an : Option Addr) (cdv ct : Value) (us ws : List Value), us.length = n + 1 → ws.length = ks.length →
      bindArgs (PySem.W.fnOf m qual params body scope .none (.ref D) doc pm an cdv ct) ⟨us, ks.zip ws⟩ = pure (ps.zip (G us ws))) : OwnCK P w K mg base CX k x C ps n ks (fun vs zs => G vs zs) sp := by
  obtain ⟨mv, hm⟩ := F.kbinds0 (n + 1) ks [] (fun us _ ws => G us ws) hk (by simp) (fun r1 _ r3 => hrel r1 r3) fun D doc pm an cdv ct us mv ws l1 l2 l3 => h D doc pm an cdv ct us ws l1 l3
  exact ⟨f, fd, _, a, M, g, hm⟩
end
/-! ### list * n, divmod, far ranges -/
section
variable {K : PySem.W.Frag} {H : Hp} {Q : VK}
theorem i_repN {l : Addr} {xs : List V} {k : Int} (h1 : H l = some (.lst xs)) (h2 : 0 ≤ k) (h3 : k ≤ 100) (h4 : xs.length ≤ 10000) (h : ∀ p H', New H p → Same H H' → H' p = some (.lst (List.replicate k.toNat xs).flatten) → Q (.ref p) H') : rMulU (.ref l) (.int k) H Q := by
  refine .inr ⟨l, k, xs, rfl, rfl, h1, by omega, by omega, ?_, i_new h⟩
  have : xs.length * k.toNat ≤ 10000 * 100 := Nat.mul_le_mul h4 (by omega)
  exact Nat.le_trans this (by decide : 10000 * 100 ≤ sizeLine)
theorem i_rng2W {R : Int → Int → Prop} {m n : Int} (h0 : -4000000000000000000 ≤ m) (h0' : m ≤ 4000000000000000000) (h1 : -4000000000000000000 ≤ n) (h2 : n ≤ 4000000000000000000) (h : R m n) : ∃ i j : Int, [V.int m, V.int n] = [.int i, .int j] ∧ (-(2 ^ 62) ≤ i ∧ i < 2 ^ 62 ∧ -(2 ^ 62) ≤ j ∧ j < 2 ^ 62) ∧ R i j := ⟨m, n, rfl, by omega, h⟩
theorem bt_divmod : bootBuiltins "divmod" = some (.builtin "divmod") := by decide +kernel
def rDivmod : List V → Hp → VK → Prop := fun xs H Q => ∃ i j, xs = [.int i, .int j] ∧ CDivP i j ∧ ∀ p, H p = none → Q (.ref p) (upd H p (.tup [.int (i / j), .int (i % j)]))
theorem k_divmod {X : Cx} : CallR X (.builtin "divmod") rDivmod := call_divmodW
theorem i_divmod {i j : Int} (h : CDivP i j) (k : ∀ p H', New H p → Same H H' → TpH H' p [.int (i / j), .int (i % j)] → Q (.ref p) H') : rDivmod [.int i, .int j] H Q := ⟨i, j, rfl, h, fun p np => k p _ np (same_new np) ⟨upd_same⟩⟩
end
theorem k_fld {X : Cx} {e : Expr} {f : Str} {pos : Pos} {ta : TE} (K : PySem.W.Frag) (he : PE X e ta) (hb : attributeBase e f X.env (eval e X.env) = eval e X.env) (hK : X.K = K := by rfl) : PE X (.Attribute e f pos) (tFld K ta f) := by subst hK; exact pe_fld he hb
/-! ### enumerate of a list in a comprehension -/
section
variable {K : PySem.W.Frag} {σ : L2.St} {H : Hp} {Q : VK} {g : TG} {tt : TT} {te : TE} {vs : List Nat} {a : Addr} {xs : List V}
theorem i_lcE (I : Addr → Nat → Hp → Prop) (h0 : ∀ A, New H A → I A 0 (upd H A (.lst []))) (hq : ∀ A i H', New H A → I A i H' → SqL K H' a xs)
    (hs : ∀ A i x H0 T H', New H A → xs[i]? = some x → i < xs.length → I A i H0 → New H0 T → Same H0 H' → TpH H' T [.int (i : Nat), x] → g (.ref T) (wipe σ vs) H' fun σ2 H2 => wipe σ2 vs = wipe σ vs ∧ tt σ2 H2 fun b H3 =>
      if b = true then te σ2 H3 fun y H4 => ∃ acc, H4 A = some (.lst acc) ∧ acc.length < sizeLine ∧ I A (i + 1) (upd H4 A (.lst (acc ++ [y]))) else I A (i + 1) H3)
    (h : ∀ A H', New H A → I A xs.length H' → Q (.ref A) H') : LcI (Ite K a) g tt te vs Q σ H := by
  intro A hA
  refine ⟨fun i m H => m = xs.length - i ∧ i ≤ xs.length ∧ I A i H, ⟨_, rfl, Nat.zero_le _, h0 A hA⟩, ?_⟩
  rintro i m H' ⟨rfl, hi, hI⟩
  have hL := hq A i H' hA hI
  by_cases c : i < xs.length
  · refine .inr ⟨⟨xs, xs[i], hL, List.getElem?_eq_getElem c⟩, fun H2 => I A (i + 1) H2, fun H2 h2 => ⟨xs.length - (i + 1), by omega, rfl, by omega, h2⟩, ?_⟩
    rintro x H2 ⟨T, x', rfl, nT, rfl, hx⟩
    exact hs A i x' H' T _ hA (hx xs hL) c hI nT (same_new nT) ⟨upd_same⟩
  · have e : i = xs.length := by omega
    subst e
    exact .inl ⟨⟨xs, hL, Nat.le_refl _⟩, h A H' hA hI⟩
end
/-! ### dicts: != of an empty one; min of a list; len -/
def rNeDE : R2 := fun x y H Q => ∃ a b ks, x = .ref a ∧ y = .ref b ∧ H a = some (.dK ks) ∧ H b = some (.dK []) ∧ Q (.bl (!ks.isEmpty)) H
theorem op_neDE {X : Cx} (hu : X.A.units < cLine) : OpR X (compareOp .NotEq) rNeDE := by
  intro pins s σ H x y v u Q I rx ry h
  obtain ⟨a, b, ks, rfl, rfl, ea, eb, q⟩ := h
  obtain rfl : v = Value.ref a := rx
  obtain rfl : u = Value.ref b := ry
  obtain ⟨_, ya, va, ra, da⟩ := (show ObjOk X.prog X.w H s.heap a (.dK ks) from I.hok a _ ea)
  obtain ⟨_, yb, vb, rb, db⟩ := (show ObjOk X.prog X.w H s.heap b (.dK []) from I.hok b _ eb)
  have lb : vb.length = 0 := rb.length.symm
  have la : va.length = ks.length := ra.length.symm
  refine PySem.W.keq_ne (knd := mixKind X.prog X.w) (r := true) ya yb da db hu (fun hl => L2.hits_all rb ra (fun p hp => ?_)) (fin_bl I q ?_)
  · have : ks = [] := List.eq_nil_of_length_eq_zero (by omega)
    rw [this] at hp
    cases hp
  · rw [la, lb]
    cases ks <;> simp
theorem k_neDE {X : Cx} {k : Nat} (hr : Room k X.A) : OpR X (compareOp .NotEq) rNeDE := op_neDE (by have := hr.un; omega)
theorem k_minL {X : Cx} (K : PySem.W.Frag) (hc : X.calm = true) (hK : X.K = K := by rfl) : CallR X (.builtin "min") (rMin K) := by subst hK; exact cr_min hc
def rLenDK : List V → Hp → VK → Prop := fun xs H Q => ∃ a kvs, xs = [V.ref a] ∧ H a = some (.dK kvs) ∧ Q (.int kvs.length) H
theorem k_lenDK {X : Cx} : CallR X (.builtin "len") rLenDK := call_lenD
theorem dT_len (l : List Int) : (dT l).length = l.length := by unfold dT; rw [List.length_map]
end Pm

namespace Pm
open PySem PySem.Spec PyProof.Rows L2
/-! ### xs[::k], k being 1 or -1 -/
theorem pick_one (items : Array Value) : slicePick items none none (some 1) = items := by
  have e : slicePick items none none (some 1) = slicePick items none none none := rfl
  rw [e, slicePick_cut]
  simp [HT.sIx]
  rw [← Array.length_toList, List.take_length]
section
variable {X : Cx} {K : PySem.W.Frag} {H : Hp} {Q : VK} {a : Addr} {xs : List V} {e st : Expr} {te : TE} {tp : TO} {p2 pos : Pos}
def rStep (K : PySem.W.Frag) (x : V) (o : Option Int) (H2 : Hp) (Q : VK) : Prop := ∃ a xs, x = .ref a ∧ SqL K H2 a xs ∧ ((o = some 1 ∧ ∀ p, H2 p = none → Q (.ref p) (upd H2 p (.lst xs))) ∨ (o = some (-1) ∧ ∀ p, H2 p = none → Q (.ref p) (upd H2 p (.lst xs.reverse))))
def tStepL (K : PySem.W.Frag) (te : TE) (tp : TO) : TE := fun σ H Q => te σ H fun x H1 => tp σ H1 fun o H2 => rStep K x o H2 Q
theorem pe_stepL (K : PySem.W.Frag) (he : PE X e te) (hp : PO X (some st) tp) (hK : X.K = K := by rfl) : PE X (.Subscript e (.Slice none none (some st) p2) pos) (tStepL K te tp) := by
  subst hK
  refine ⟨fun pins s σ H Q I h => ?_⟩
  refine Subscript_ (thn (he.run pins s σ H _ I h) fun v s1 ⟨x, H1, I1, r1, q1⟩ => ?_)
  refine wpAny_Slice (thn (po_none.run pins s1 σ H1 (fun o H2 => o = none ∧ H2 = H1) I1 ⟨rfl, rfl⟩) fun vl s2 ⟨l, H2, I2, pl, el, e2⟩ => ?_)
  subst el e2
  refine thn (po_none.run pins s2 σ H2 (fun o H3 => o = none ∧ H3 = H2) I2 ⟨rfl, rfl⟩) fun vu s3 ⟨u, H3, I3, pu, eu, e3⟩ => ?_
  subst eu e3
  refine thn (hp.run pins s3 σ H3 _ I3 q1) fun vs s4 ⟨o, H4, I4, ps, q4⟩ => ?_
  obtain ⟨a, xs, ex, hx, q⟩ := q4
  subst ex
  cases r1
  have I5 : Inv X pins σ H4 { s4 with heap := s4.heap.push { cls := .type "slice", data := .fields #[vl, vu, vs] } } := I4.kept (t' := s4.toks) fun b ob q => Heap.get?_push_of_some _ q
  obtain ⟨its, r, ht, hz⟩ := I5.list hx
  have hlen := r.length
  show wpAny (model X.prog X.w) X.A (subscriptTail e (.Slice none none (some st) p2) (.ref a) (.ref s4.heap.objs.size)) (EP X pins σ Q) X.xe { s4 with heap := s4.heap.push { cls := .type "slice", data := .fields #[vl, vu, vs] } }
  refine tail_any (ops := [.ref a, .ref s4.heap.objs.size]) ht.isList.typeIs (PySem.slot_list_getitem.lookup) ?_ (by with_unfolding_all rfl)
  rcases q with ⟨rfl, q⟩ | ⟨rfl, q⟩
  · refine wpAny_getItem_list_slice ht.isList (Heap.IsSliceOf.new _ vl vu vs) pl pu ps (by decide) ?_ (by rw [List.size_toArray]; omega)
    rw [pick_one]
    refine ⟨.ref _, _, I5.laid (t' := s4.toks) (o := .lst xs) (fun b ob q => Heap.get?_push_of_some _ q) (Nat.le_refl _) ?_, rfl, q _ (I5.hok.fresh (Nat.le_refl _))⟩
    exact ⟨hz, _, 0, r, Heap.get?_push_size _ rfl⟩
  · refine wpAny_getItem_list_slice ht.isList (Heap.IsSliceOf.new _ vl vu vs) pl pu ps (by decide) ?_ (by rw [List.size_toArray]; omega)
    rw [PySem.W.krv_pick]
    refine ⟨.ref _, _, I5.laid (t' := s4.toks) (o := .lst xs.reverse) (fun b ob q => Heap.get?_push_of_some _ q) (Nat.le_refl _) ?_, rfl, q _ (I5.hok.fresh (Nat.le_refl _))⟩
    exact ⟨by rw [List.length_reverse]; exact hz, _, 0, r.reverse, Heap.get?_push_size _ rfl⟩
theorem i_stepL {σ : L2.St} (h : te σ H fun x H1 => tp σ H1 fun o H2 => rStep K x o H2 Q) : tStepL K te tp σ H Q := h
end
/-! ### methods called with keywords alone: o.m(k = v, ..) -/
structure OwnMK (P : Program) (w : World) (K : PySem.W.Frag) (mg : Str → Option Value) (base : Heap) (CX : CXT) (k : Nat) (C : Addr) (m : Str) (ps : List Str) (n : Nat) (ks : List Str) (gV : List V → List V → List V) (sp : Sp) : Prop where
  ex : ∃ f fd g, FnG P w K mg base CX k f fd ps sp ∧ Meth K C m f ∧ KBn K fd ps (n + 1) ks g gV
/-- the instance, the values named, then the method -/
def tMethK (C : Addr) (m : Str) (n : Nat) (sp : Sp) (gV : List V → List V → List V) (E : XK) (ta : TE) (tk : TA) : TE := fun σ H Q => ta σ H fun x H1 => ∃ a dx fs, x = .ref a ∧ H1 a = some (.ins C dx fs) ∧ fs.lookup m = none ∧ tk σ H1 fun zs H2 => zs.length = n ∧ sp (gV [x] zs) H2 Q E
theorem i_methK {C : Addr} {m : Str} {n : Nat} {sp : Sp} {gV : List V → List V → List V} {E : XK} {ta : TE} {tk : TA} {σ : L2.St} {H : Hp} {Q : VK} (h : ta σ H fun x H1 => ∃ a dx fs, x = .ref a ∧ H1 a = some (.ins C dx fs) ∧ fs.lookup m = none ∧ tk σ H1 fun zs H2 => zs.length = n ∧ sp (gV [x] zs) H2 Q E) : tMethK C m n sp gV E ta tk σ H Q := h
section
variable {X : Cx} {CX : CXT} {k : Nat} {f C : Addr} {fd : FuncData} {ps ks : List Str} {sp : Sp} {E : XK} {x m : Str} {p pos apos : Pos} {o : Expr} {kws : List Keyword} {ta : TE} {tk : TA} {gV : List V → List V → List V}
theorem pe_ownMK0 {pl : Sem Bool} (he : PE X o ta) (c : Cls X.K C) (O : OwnMK X.prog X.w X.K X.mg X.base CX k C m ps 0 ks gV sp) (hG : X.A.guards = some []) (hr : Room k X.A) (hx : Passes CX X E) (hkw : PK X kws tk)
    (hall : (backToKw pos (keywordEach kws X.env)).all (·.1.isSome) = true := by rfl) (hks : (backToKw pos (keywordEach kws X.env)).filterMap (·.1) = ks := by rfl)
    (hpl : ((backTo pos (starEach [] X.env)).any (·.1) || (backToKw pos (keywordEach kws X.env)).any (·.1.isNone)) = false := by rfl)
    (ht : eval (.Call (.Attribute o m apos) [] kws pos) X.env = (do
      let ov ← eval o X.env
      standAt apos.atName
      let (f, first) ← holding [ov] (getMethod ov m pl)
      callWith pos f first (backTo pos (starEach [] X.env)) (backToKw pos (keywordEach kws X.env))) := by rfl) :
    PE X (.Call (.Attribute o m apos) [] kws pos) (tMethK C m ks.length sp gV E ta tk) := by
  obtain ⟨f, fd, g, F, hm, hb⟩ := O.ex
  refine ⟨fun pins s σ H Q I h => PySem.W.methodCall_KW (pl := pl) (thn (he.run pins s σ H _ I h) fun u s1 ⟨x, H1, I1, rx, a, dx, fs, ex, ea, l, q⟩ => ?_) ht⟩
  subst ex
  cases rx
  refine getmeth_ok I1 ea c hm l (PySem.W.callWith_KW0 (first := [.ref a]) (h₀ := X.base) I.ok.mod.kin hm.kp hall (thn (hkw.run pos pins s1 σ H1 _ I1 q) fun ws s2 ⟨zs, H2, I2, rz, lz, q2⟩ => ⟨I2.kIn, ?_⟩) hpl)
  rw [hks]
  have r1 : Vals [V.ref a] [Value.ref a] := .cons rfl .nil
  have r2 := hb.rel r1 rz
  exact runG F hG hr (hb.to s2 [.ref a] ws I2.kIn rfl (rz.length.symm.trans lz)) hx I2 r2 q2
end
section
variable {P : Program} {w : World} {K : PySem.W.Frag} {mg : Str → Option Value} {base : Heap} {CX : CXT} {k : Nat} {x m qual : Str} {params : Arguments} {body : List Stmt} {scope : Scope} {f C : Addr} {fd : FuncData} {ps : List Str} {sp : Sp}
theorem ownMK_n (F : FunD K m qual params body scope [] [] f fd) (M : Meth K C m f) (a : FnG P w K mg base CX k f fd ps sp) (n : Nat) (ks : List Str)
    (G : List Value → List Value → List Value) (GV : List V → List V → List V)
    (hrel : ∀ {vs zs : List V} {us ws : List Value}, Vals vs us → Vals zs ws → Vals (GV vs zs) (G us ws))
    (h : ∀ (kV doc pm : Value) (an : Option Addr) (cdv ct : Value) (us ws : List Value), us.length = n + 1 → ws.length = ks.length →
      bindArgs (PySem.W.fnOf m qual params body scope .none kV doc pm an cdv ct) ⟨us, ks.zip ws⟩ = pure (ps.zip (G us ws))) : OwnMK P w K mg base CX k C m ps n ks GV sp := by
  obtain ⟨oc, od, dV, kV, doc, pm, an, cdv, ct, osl, rfl, lk, hcd, hD, hK⟩ := F.ex
  rcases hD with ⟨_, rfl⟩ | ⟨e, _⟩
  · exact ⟨f, _, G, a, M, ⟨fun s us ws X l1 l2 => .of_eq (h kV doc pm an cdv ct us ws l1 l2), fun r1 r2 => hrel r1 r2⟩⟩
  · exact absurd rfl e
end
/-! ### own classes made with keywords in a try's body -/
def tMakeGKX (C : Addr) (n m : Nat) (sp : Sp) (gV : List V → List V → List V) (E : L2.St → XK) (t tk : TA) : TE := fun σ H Q => t σ H fun vs H1 => tk σ H1 fun zs H2 => MakeGK C n m sp gV (E σ) vs zs H2 Q
theorem i_makeKX {C : Addr} {n m : Nat} {sp : Sp} {gV : List V → List V → List V} {E : L2.St → XK} {t tk : TA} {σ : L2.St} {H : Hp} {Q : VK} (h : t σ H fun vs H1 => tk σ H1 fun zs H2 => MakeGK C n m sp gV (E σ) vs zs H2 Q) : tMakeGKX C n m sp gV E t tk σ H Q := h
section
variable {X : Cx} {CX : CXT} {k n : Nat} {f C : Addr} {fd : FuncData} {ps ks : List Str} {sp : Sp} {E : L2.St → XK} {x : Str} {p pos : Pos} {e : Expr} {es : List Expr} {kws : List Keyword} {t tk : TA} {g : List Value → List Value → List Value} {gV : List V → List V → List V}
theorem run_makeGX {pins : List (Addr × Obj)} {σ : L2.St} {H : Hp} {s : Shared} {Q : VK} {us ws : List Value} {vs zs : List V} (M : Mk X.K C f) (F : FnG X.prog X.w X.K X.mg X.base CX k f fd ps sp) (hG : X.A.guards = some []) (hr : Room (k + 1) X.A) (hb : KBn X.K fd ps (n + 1) ks g gV) (hx : PassesAt CX X σ (E σ))
    (I : Inv X pins σ H s) (r : Vals vs us) (rz : Vals zs ws) (h : MakeGK C n ks.length sp gV (E σ) vs zs H Q) :
    wpAny (model X.prog X.w) X.A (call (.ref C) us (ks.zip ws)) (EP X pins σ Q) X.xe s := by
  obtain ⟨l1, l2, h⟩ := h
  have hq := h (s.heap.objs.size + 1) s.heap.objs.size (I.hok.fresh (Nat.le_succ _)) (I.hok.fresh (Nat.le_refl _)) (Nat.ne_of_lt (Nat.lt_succ_self _))
  have I2 := Inv.made (C := C) I
  have r1 : Vals (V.ref (s.heap.objs.size + 1) :: vs) (Value.ref (s.heap.objs.size + 1) :: us) := .cons rfl r
  have r2 := hb.rel r1 rz
  have n1 : (Value.ref (s.heap.objs.size + 1) :: us).length = n + 1 := by
    rw [List.length_cons, ← r.length, l1]
  refine wpAny_call (make_map (f := f) I.kIn M.makes M.init (beq_iff_eq.mp M.fn) (codeAny_mono (F.run (X.A.under (.builtin "type.__call__" ⟨.ref C :: us, ks.zip ws⟩)) (by first | exact hG | (simpa [Around.under] using hG)) X.stack _ _ ⟨Value.ref (s.heap.objs.size + 1) :: us, ks.zip ws⟩ (g (Value.ref (s.heap.objs.size + 1) :: us) ws) _ _ (E σ) (hr.make C us (ks.zip ws))
    (I2.env0.make C us (ks.zip ws)) (hb.to _ (Value.ref (s.heap.objs.size + 1) :: us) ws I2.kIn n1 (rz.length.symm.trans l2)) r2 hq) fun r s' hq' => ?_))
  cases r with
  | error e => exact hx pins _ _ e s' I2 hq'
  | ok fl =>
    cases fl with
    | ret u =>
      obtain ⟨v, H', I3, rv, ev, q3⟩ := I2.after hq'
      subst ev
      exact ⟨rv, ⟨V.ref (s.heap.objs.size + 1), H', I3, rfl, q3⟩⟩
    | next => exact False.elim hq'
    | brk => exact False.elim hq'
    | cont => exact False.elim hq'
theorem pe_ownCKX (O : OwnCK X.prog X.w X.K X.mg X.base CX k x C ps n ks gV sp) (hG : X.A.guards = some []) (hr : Room (k + 1) X.A) (hx : ∀ σ, PassesAt CX X σ (E σ)) (ha : PA X (e :: es) t) (hkw : PK X kws tk) (hg : Gl X x := by rfl)
    (hall : (backToKw pos (keywordEach kws X.env)).all (·.1.isSome) = true := by rfl) (hks : (backToKw pos (keywordEach kws X.env)).filterMap (·.1) = ks := by rfl) (hdb : (x == ("__debug__" : Str)) = false := by decide)
    (he : starEach (e :: es) X.env = (false, eval e X.env) :: starEach es X.env := by rfl) (hpl : ((backTo pos (starEach (e :: es) X.env)).any (·.1) || (backToKw pos (keywordEach kws X.env)).any (·.1.isNone)) = false := by rfl) :
    PE X (.Call (.Name x p) (e :: es) kws pos) (tMakeGKX C n ks.length sp gV E t tk) := by
  obtain ⟨f, fd, g, F, M, hm, hb⟩ := O.ex
  refine ⟨fun pins s σ H Q I h => ?_⟩
  refine wpAny_Call_Name_kw (ld_glob I hg hm ?_ hdb)
  refine PySem.W.callWith_KW (h₀ := X.base) I.ok.mod.kin M.kp hall (thn (ha.run pos pins s σ H _ I h) fun us s1 ⟨vs, H1, I1, r, q⟩ => ?_) hpl he
  refine thn (hkw.run pos pins s1 σ H1 _ I1 q) fun ws s2 ⟨zs, H2, I2, rz, q2⟩ => ⟨I2.kIn, ?_⟩
  rw [hks]
  exact run_makeGX M F hG hr hb (hx σ) I2 r rz q2
end
/-! ### list(range(..)) -/
section
variable {σ : L2.St} {H : Hp} {Q : VK}
theorem rgV_int (a b : Int) : rgV a b = ((List.range (b - a).toNat).map fun i : Nat => a + (i : Int)).map V.int := by
  unfold rgV
  rw [List.map_map]
  rfl
theorem i_lRg {te : L2.St → Hp → (Int → Int → Hp → Prop) → Prop} (h : te σ H fun a b H1 => (-1000000 ≤ a ∧ a ≤ 1000000 ∧ -1000000 ≤ b ∧ b ≤ 1000000) ∧ ∀ p H', New H1 p → Same H1 H' → H' p = some (.lst (((List.range (b - a).toNat).map fun i : Nat => a + (i : Int)).map V.int)) → Q (.ref p) H')
    (hm : ∀ {R R' : Int → Int → Hp → Prop}, (∀ a b H1, R a b H1 → R' a b H1) → te σ H R → te σ H R') : tLstRg te σ H Q :=
  hm (fun a b H1 ⟨⟨h0, h1, h2, h3⟩, k⟩ => ⟨⟨by omega, by omega, by omega, by omega, by omega⟩, fun q hq => k q _ hq (same_new hq) (by rw [upd_same, rgV_int])⟩) h
theorem i_lRg1 {n : Int} (h1 : -1000000 ≤ n) (h2 : n ≤ 1000000) (k : ∀ p H', New H p → Same H H' → H' p = some (.lst (((List.range n.toNat).map fun i : Nat => 0 + (i : Int)).map V.int)) → Q (.ref p) H') : tLstRg (tRg1 (tC (.int n))) σ H Q :=
  ⟨n, rfl, ⟨by omega, by omega, by omega, by omega, by omega⟩, fun q hq => k q _ hq (same_new hq) (by rw [upd_same, rgV_int, show n - 0 = n by omega])⟩
end
end Pm

namespace Pm
open PySem PySem.Spec PyProof.Rows L2
def topS (i : Nat) : Stmt := PySem.Challenge.pw_paymill_k13_days_made_and_refused.main.body.getD i (.Pass ⟨0, 0, 0, 0⟩)
/-! ### the reel that numbers are taken from: a great number, a number, a step -/
def StoreAt (H : Hp) (st gl : Addr) (n : Nat) : Prop := gl = st ∧ ∃ a b c : Int, H st = some (.lst [.int a, .int b, .int c]) ∧ 0 ≤ a ∧ 0 ≤ b ∧ b < 9223372036854775808 ∧ 0 ≤ c ∧ c ≤ n
section
variable {H H' : Hp} {st gl : Addr} {n : Nat}
theorem StoreAt.same (e : Same H H') (h : StoreAt H st gl n) : StoreAt H' st gl n := let ⟨z, a, b, c, h, r⟩ := h; ⟨z, a, b, c, e _ _ h, r⟩
theorem StoreAt.from (h : StoreAt H st gl n) (e : Same H H') : StoreAt H' st gl n := h.same e
theorem StoreAt.mono {m : Nat} (h : StoreAt H st gl n) (e : n ≤ m) : StoreAt H st gl m := let ⟨z, a, b, c, h, h1, h2, h3, h4, h5⟩ := h; ⟨z, a, b, c, h, h1, h2, h3, h4, by omega⟩
theorem StoreAt.get1 (h : StoreAt H st gl n) : ∃ o, H st = some o := let ⟨_, _, _, _, h, _⟩ := h; ⟨_, h⟩
theorem StoreAt.get2 (h : StoreAt H st gl n) : ∃ o, H gl = some o := by obtain ⟨rfl, _, _, _, h, _⟩ := h; exact ⟨_, h⟩
theorem st_ne1 {p : Addr} (h : New H p) (S : StoreAt H st gl n) : p ≠ st := let ⟨_, z⟩ := S.get1; new_ne h z
theorem st_ne2 {p : Addr} (h : New H p) (S : StoreAt H st gl n) : p ≠ gl := let ⟨_, z⟩ := S.get2; new_ne h z
theorem StoreAt.fxn {pf : Addr} (S : StoreAt H st gl n) (n1 : pf ≠ st) (f : Fx pf pf H H') : StoreAt H' st gl n := by
  obtain ⟨z, a, b, c, h, r⟩ := S
  exact ⟨z, a, b, c, f.oth _ _ h (Ne.symm n1) (Ne.symm n1), r⟩
/-- tuples and sets of days stay when a number is taken -/
theorem tw_st (f : Fx st gl H H') (S : StoreAt H st gl n) : Tw H H' := by
  obtain ⟨rfl, _, _, _, h, _⟩ := S
  exact Tw.fxl f h h
end
/-- a number taken: from 0 on, below many -/
def spDraw : Sp := fun vs H Q _ => ∃ (st gl : Addr) (n : Nat) (m : Int), vs = [.ref st, .int m] ∧ StoreAt H st gl n ∧ 1 ≤ m ∧ m.natAbs < 2 ^ 200 ∧ n ≤ 100000000 ∧ ∀ (d : Int) H', 0 ≤ d → d < m → StoreAt H' st gl (n + 1) → Fx st gl H H' → Q (.int d) H'
theorem c_draw {st gl : Addr} {n : Nat} {m : Int} {H : Hp} {Q : VK} {E : XK} (S : StoreAt H st gl n) (hm : 1 ≤ m) (hm2 : m.natAbs < 2 ^ 200) (hn : n ≤ 100000000) (h : ∀ (d : Int) H', 0 ≤ d → d < m → StoreAt H' st gl (n + 1) → Fx st gl H H' → Q (.int d) H') : spDraw ([.ref st, .int m] ++ []) H Q E := ⟨st, gl, n, m, rfl, S, hm, hm2, hn, h⟩
def spReel (K : PySem.W.Frag) : Sp := fun vs H Q _ => ∃ (a : Addr) (ns : List Int) (k : Int), vs = [.ref a, .int k] ∧ SqL K H a (ns.map V.int) ∧ ns.length ≤ 63 ∧ 0 ≤ k ∧ k ≤ 1000 ∧ ∀ p H', New H p → Same H H' → StoreAt H' p p 0 → Q (.ref p) H'
theorem c_reel {K : PySem.W.Frag} {a : Addr} {ns : List Int} {k : Int} {H : Hp} {Q : VK} {E : XK} (h : SqL K H a (ns.map V.int)) (hl : ns.length ≤ 63) (h0 : 0 ≤ k) (h1 : k ≤ 1000) (q : ∀ p H', New H p → Same H H' → StoreAt H' p p 0 → Q (.ref p) H') : spReel K ([.ref a, .int k] ++ []) H Q E := ⟨a, ns, k, rfl, h, hl, h0, h1, q⟩
theorem cut_more {a b : Int} (h : 0 < b) (ha : 0 ≤ a) : 0 ≤ a.fdiv b := by
  rw [Int.fdiv_eq_ediv_of_nonneg a (by omega)]
  exact Int.ediv_nonneg ha (by omega)
theorem lg_of {m : Int} {n : Nat} (h : m.natAbs < 2 ^ n) (h0 : 0 < n) (h9 : n ≤ 9000) : m.natAbs.log2 < 9000 := Nat.lt_of_lt_of_le (PySem.Flt.log2_lt_of h0 h) h9
theorem same_fx {H H1 H2 : Hp} {p : Addr} (n : New H p) (s : Same H H1) (f : Fx p p H1 H2) : Same H H2 := fun b o h => f.oth b o (s b o h) (fun e => by subst e; rw [show H b = none from n] at h; cases h) (fun e => by subst e; rw [show H b = none from n] at h; cases h)
/-! ### things: what is_whole, is_part, is_amount are asked of -/
/-- no tuple, of a known kind -/
inductive NT (K : PySem.W.Frag) (H : Hp) : V → Prop
  | int (i : Int) : NT K H (.int i)
  | bl (b : Bool) : NT K H (.bl b)
  | non : NT K H .non
  | str (z : Str) : NT K H (.str z)
  | lst {p : Addr} {xs : List V} (h : SqL K H p xs) : NT K H (.ref p)
  | dct {p : Addr} {kvs : List (Key × V)} (h : H p = some (.dK kvs)) : NT K H (.ref p)
/-- of a known kind -/
inductive Known (K : PySem.W.Frag) (H : Hp) : V → Prop
  | nt {v : V} (h : NT K H v) : Known K H v
  | tup {p : Addr} {xs : List V} (h : Tp K H p xs) : Known K H (.ref p)
def isW : V → Bool
  | .int _ => true
  | _ => false
section
variable {K : PySem.W.Frag} {H H' : Hp} {v : V} {p : Addr} {xs : List V}
theorem ty_list (h : SqL K H p xs) : TyX K H (.ref p) (.type "list") := by
  rcases h with (h | ⟨o, h⟩) | ⟨o, its, n, h, c, _⟩
  · exact .base (.lst h)
  · exact .base (.frz h)
  · exact .kList h c
theorem ty_tup (h : Tp K H p xs) : TyX K H (.ref p) (.type "tuple") := by
  rcases h with h | ⟨o, its, n, h, c, _⟩
  · exact .base (.tup h)
  · exact .kTuple h c
theorem NT.ty (h : NT K H v) : ∃ t b c, TyX K H v (.type t) ∧ kitB t "int" = some b ∧ kitB t "bool" = some c ∧ (b && !c) = isW v ∧ kitB t "tuple" = some false := by
  cases h with
  | int i => exact ⟨"int", true, false, .base (.int i), kb_int_int, kb_int_bool, rfl, kb_int_tuple⟩
  | bl b => exact ⟨"bool", true, true, .base (.bl b), kb_bool_int, kb_bool_bool, rfl, kb_bool_tuple⟩
  | non => exact ⟨"NoneType", false, false, .base .non, kb_NoneType_int, kb_NoneType_bool, rfl, kb_NoneType_tuple⟩
  | str z => exact ⟨"str", false, false, .base (.str z), kb_str_int, kb_str_bool, rfl, kb_str_tuple⟩
  | lst h => exact ⟨"list", false, false, ty_list h, kb_list_int, kb_list_bool, rfl, kb_list_tuple⟩
  | dct h => exact ⟨"dict", false, false, .base (.dK h), kb_dict_int, kb_dict_bool, rfl, kb_dict_tuple⟩
theorem Known.ty (h : Known K H v) : ∃ t b c, TyX K H v (.type t) ∧ kitB t "int" = some b ∧ kitB t "bool" = some c ∧ (b && !c) = isW v := by
  cases h with
  | nt h =>
    obtain ⟨t, b, c, h1, h2, h3, h4, _⟩ := h.ty
    exact ⟨t, b, c, h1, h2, h3, h4⟩
  | tup h => exact ⟨"tuple", false, false, ty_tup h, kb_tuple_int, kb_tuple_bool, rfl⟩
theorem NT.same (e : Same H H') (h : NT K H v) : NT K H' v := by
  cases h with
  | int i => exact .int i
  | bl b => exact .bl b
  | non => exact .non
  | str z => exact .str z
  | lst h => exact .lst (b_L e h)
  | dct h => exact .dct (e _ _ h)
theorem Known.same (e : Same H H') (h : Known K H v) : Known K H' v := by
  cases h with
  | nt h => exact .nt (h.same e)
  | tup h => exact .tup (Tp.mono e h)
theorem isW_int (h : isW v = true) : ∃ i, v = .int i := by
  cases v with
  | int i => exact ⟨i, rfl⟩
  | _ => cases h
end
def spWhole (K : PySem.W.Frag) : Sp := fun vs H Q _ => ∃ v, vs = [v] ∧ Known K H v ∧ Q (.bl (isW v)) H
theorem c_whole {K : PySem.W.Frag} {v : V} {H : Hp} {Q : VK} {E : XK} (h1 : Known K H v) (h : Q (.bl (isW v)) H) : spWhole K ([v] ++ []) H Q E := ⟨v, rfl, h1, h⟩
theorem c_wholeI {K : PySem.W.Frag} {a : Int} {H : Hp} {Q : VK} {E : XK} (h : Q (.bl true) H) : spWhole K ([.int a] ++ []) H Q E := ⟨_, rfl, .nt (.int a), h⟩
/-! ### rests, sets of days: plain -/
theorem eqvAll_bl : ∀ l m : List Bool, PyData.eqvAll (l.map PyData.bool) (m.map PyData.bool) = decide (l = m)
  | [], [] => by simp [PyData.eqvAll]
  | [], _ :: _ => by simp [PyData.eqvAll]
  | _ :: _, [] => by simp [PyData.eqvAll]
  | a :: l, b :: m => by
    have e : PyData.eqv (.bool a) (.bool b) = decide (a = b) := by cases a <;> cases b <;> rfl
    simp only [List.map_cons, PyData.eqvAll, e, eqvAll_bl l m]
    by_cases h1 : a = b <;> by_cases h2 : l = m <;> simp [h1, h2]
theorem eqvAll_in : ∀ l m : List Int, PyData.eqvAll (l.map PyData.int) (m.map PyData.int) = decide (l = m)
  | [], [] => by simp [PyData.eqvAll]
  | [], _ :: _ => by simp [PyData.eqvAll]
  | _ :: _, [] => by simp [PyData.eqvAll]
  | a :: l, b :: m => by
    have e : PyData.eqv (.int a) (.int b) = decide (a = b) := by simp only [PyData.eqv]; by_cases h : a = b <;> simp [h]
    simp only [List.map_cons, PyData.eqvAll, e, eqvAll_in l m]
    by_cases h1 : a = b <;> by_cases h2 : l = m <;> simp [h1, h2]
theorem shBools {n : Nat} : ∀ bs : List Bool, ShAll n (bs.map PyData.bool)
  | [] => .nil
  | b :: l => .cons (.bool b) (shBools l)
theorem dpBools {K : PySem.W.Frag} {H : Hp} : ∀ bs : List Bool, DpAll K H (bs.map V.bl) (bs.map PyData.bool)
  | [] => .nil
  | b :: l => .cons (.bl b) (dpBools l)
theorem dpInts {K : PySem.W.Frag} {H : Hp} : ∀ ns : List Int, DpAll K H (ns.map V.int) (ns.map PyData.int)
  | [] => .nil
  | b :: l => .cons (.int b) (dpInts l)
/-- the rests of the least period: as the program finds them -/
def leastGo : Nat → List Bool → Nat → List Bool
  | 0, rs, _ => rs
  | f + 1, rs, by_ => if by_ ≤ rs.length then
      (if rs.length % by_ = 0 ∧ rs.drop (rs.length / by_) = rs.take (rs.length - rs.length / by_) then leastGo f (rs.take (rs.length / by_)) by_ else leastGo f rs (by_ + 1)) else rs
def leastR (rs : List Bool) : List Bool := leastGo (2 * rs.length + 2) rs 2
/-- which of the first so many are among the marks -/
def restsOf (p : Nat) (ms : List Int) : List Bool := (List.range p).map fun i : Nat => decide (((i : Nat) : Int) ∈ ms)
def spUnl (K : PySem.W.Frag) : Sp := fun vs H Q _ => ∃ (a : Addr) (t : Bool) (ns : List Int), vs = [.ref a] ∧ SqV K H a t (ns.map V.int) ∧ ns.length ≤ 4000 ∧ ∀ H', Same H H' → Q (.bl (decide ns.Nodup)) H'
theorem c_unl {K : PySem.W.Frag} {a : Addr} {t : Bool} {ns : List Int} {H : Hp} {Q : VK} {E : XK} (h : SqV K H a t (ns.map V.int)) (hl : ns.length ≤ 4000) (k : ∀ H', Same H H' → Q (.bl (decide ns.Nodup)) H') : spUnl K ([.ref a] ++ []) H Q E := ⟨a, t, ns, rfl, h, hl, k⟩
/-- what makes days -/
structure DaysIn (p : Int) (ms ts : List Int) : Prop where
  p0 : 1 ≤ p
  p1 : p ≤ 5040
  ml : ms.length ≤ 4000
  mn : ms.Nodup
  mr : ∀ m ∈ ms, 0 ≤ m ∧ m < p
  tn : ts.Nodup
  tl : ts.length ≤ 60
def spAreDays (K : PySem.W.Frag) : Sp := fun vs H Q _ => ∃ (p : Int) (a b : Addr) (t u : Bool) (ms ts : List Int), vs = [.int p, .ref a, .ref b] ∧ SqV K H a t (ms.map V.int) ∧ SqV K H b u (ts.map V.int) ∧ DaysIn p ms ts ∧ ∀ H', Same H H' → Q (.bl true) H'
theorem c_areDays {K : PySem.W.Frag} {p : Int} {a b : Addr} {t u : Bool} {ms ts : List Int} {H : Hp} {Q : VK} {E : XK} (h1 : SqV K H a t (ms.map V.int)) (h2 : SqV K H b u (ts.map V.int)) (h : DaysIn p ms ts) (k : ∀ H', Same H H' → Q (.bl true) H') : spAreDays K ([.int p, .ref a, .ref b] ++ []) H Q E := ⟨p, a, b, t, u, ms, ts, rfl, h1, h2, h, k⟩
def spRound (K : PySem.W.Frag) : Sp := fun vs H Q _ => ∃ (a : Addr) (rs : List Bool) (n : Nat), vs = [.ref a, .int n] ∧ H a = some (.lst (rs.map V.bl)) ∧ n ≤ rs.length ∧ rs.length ≤ 5040 ∧ ∀ H', Same H H' → Q (.bl (decide (rs.drop n = rs.take (rs.length - n)))) H'
theorem c_round {K : PySem.W.Frag} {a : Addr} {rs : List Bool} {n : Nat} {H : Hp} {Q : VK} {E : XK} (h1 : H a = some (.lst (rs.map V.bl))) (h2 : n ≤ rs.length) (h3 : rs.length ≤ 5040) (k : ∀ H', Same H H' → Q (.bl (decide (rs.drop n = rs.take (rs.length - n)))) H') : spRound K ([.ref a, .int n] ++ []) H Q E := ⟨a, rs, n, rfl, h1, h2, h3, k⟩
def spLeast (K : PySem.W.Frag) : Sp := fun vs H Q _ => ∃ (a : Addr) (rs : List Bool), vs = [.ref a] ∧ H a = some (.lst (rs.map V.bl)) ∧ rs.length ≤ 5040 ∧ ∀ p H', Same H H' → H' p = some (.lst ((leastR rs).map V.bl)) → Q (.ref p) H'
theorem c_least {K : PySem.W.Frag} {a : Addr} {rs : List Bool} {H : Hp} {Q : VK} {E : XK} (h1 : H a = some (.lst (rs.map V.bl))) (h3 : rs.length ≤ 5040) (k : ∀ p H', Same H H' → H' p = some (.lst ((leastR rs).map V.bl)) → Q (.ref p) H') : spLeast K ([.ref a] ++ []) H Q E := ⟨a, rs, rfl, h1, h3, k⟩
theorem leastGo_len : ∀ (f : Nat) (rs : List Bool) (b : Nat), (leastGo f rs b).length ≤ rs.length
  | 0, rs, _ => Nat.le_refl _
  | f + 1, rs, b => by
    unfold leastGo
    split
    · split
      · have := leastGo_len f (rs.take (rs.length / b)) b
        rw [List.length_take] at this
        omega
      · exact leastGo_len f rs (b + 1)
    · exact Nat.le_refl _
abbrev veMro : List Value := [.type "ValueError", .type "Exception", .type "BaseException", .type "object"]
abbrev zdeMro : List Value := [.type "ZeroDivisionError", .type "ArithmeticError", .type "Exception", .type "BaseException", .type "object"]
/-- what the top has written of a class of exceptions without a method of its own -/
structure ExF (K : PySem.W.Frag) (mg : Str → Option Value) (x : Str) (C : Addr) (bm : List Value) (new : String) : Prop where
  g : mg x = some (.ref C)
  x : PySem.W.excIn K C bm new = true
  k : PySem.W.keepIn K (.ref C) = true
  b : PySem.W.subIn K (.ref C) (.type "BaseException") = some true
  t : PySem.W.typeIn K (.ref C) = some (.type "type")
  c : ExcC K C
section
/-! ### the steps as one word: wtm_at "v1" a step, wtm_at "v" as many as go -/
local macro_rules | `(tactic| wtm_at "tm") => `(tactic| first
  | exact Tm.refl _
  | exact Tm.same (by with_reducible assumption)
  | exact Tm.fx (by with_reducible assumption)
  | (refine Tm.trans ?_ (Tm.same (by with_reducible assumption)); wtm_at "tm")
  | (refine Tm.trans ?_ (Tm.fx (by with_reducible assumption)); wtm_at "tm") | fail)
local macro_rules | `(tactic| wtm_at "lkT1") => `(tactic| first
  | with_reducible assumption
  | exact TpK.tp (by with_reducible assumption)
  | exact TpH.tm (by with_reducible assumption) (by wtm_at "tm")
  | exact Tp.tm (by with_reducible assumption) (by wtm_at "tm")
  | exact Tp.of (by with_reducible assumption) | fail)
local macro_rules | `(tactic| wtm_at "lkT") => `(tactic| first
  | wtm_at "lkT1"
  | fail)
local macro_rules | `(tactic| wtm_at "lk") => `(tactic| first
  | assumption
  | exact b_get (by assumption) (by wtm_at "lk")
  | exact b_lst (by assumption) (by wtm_at "ne") (by wtm_at "ne") (by wtm_at "lk") | fail)
local macro_rules | `(tactic| wtm_at "lkL") => `(tactic| first
  | assumption
  | exact SqL.of (by wtm_at "lk")
  | exact b_L (by assumption) (by wtm_at "lkL") | fail)
local macro_rules | `(tactic| wtm_at "intL") => `(tactic| first | exact IntL.nil | exact IntL.cons (by wtm_at "intL") | fail)
local macro_rules | `(tactic| wtm_at "lkS0") => `(tactic| first
  | with_reducible assumption
  | exact StoreAt.same (by with_reducible assumption) (by wtm_at "lkS0") | fail)
local macro_rules | `(tactic| wtm_at "lkS") => `(tactic| first
  | with_reducible assumption
  | exact StoreAt.from (by with_reducible assumption) (by wtm_at "sm") | fail)
local macro_rules | `(tactic| wtm_at "ne") => `(tactic| first
  | assumption
  | exact Ne.symm (by assumption)
  | exact st_ne1 (by with_reducible assumption) (by wtm_at "lkS0")
  | exact st_ne2 (by with_reducible assumption) (by wtm_at "lkS0")
  | exact new_ne (by assumption) (by wtm_at "lk")
  | exact new_ne' (by assumption) (by wtm_at "lk") | fail)
local macro_rules | `(tactic| wtm_at "sm") => `(tactic| first
  | with_reducible assumption
  | exact Same.refl _
  | (refine Same.trans ?_ (by with_reducible assumption); wtm_at "sm") | fail)
local macro_rules | `(tactic| wtm_at "fx") => `(tactic| first
  | with_reducible assumption
  | exact Fx.same (Same.refl _)
  | exact Fx.same (by with_reducible assumption)
  | (refine Fx.trans ?_ (by with_reducible assumption); wtm_at "fx")
  | (refine Fx.trans ?_ (Fx.same (by with_reducible assumption)); wtm_at "fx") | fail)
local macro_rules | `(tactic| wtm_at "v0") => `(tactic| first
  | with_reducible refine i_seq ?_ | with_reducible refine i_asg ?_ | with_reducible refine i_var rfl ?_ | with_reducible refine i_c ?_ | with_reducible refine i_name ?_
  | with_reducible refine i_op ?_ | with_reducible refine i_ifS ?_ | with_reducible refine i_test ?_ | with_reducible refine i_tB ?_
  | with_reducible refine i_cons ?_ | with_reducible refine i_nil ?_ | with_reducible refine i_call ?_ | with_reducible refine i_callN ?_ | with_reducible refine i_callX ?_ | with_reducible refine i_callNX ?_ | with_reducible refine i_cb ?_
  | with_reducible refine i_tup ?_ | with_reducible refine i_lst ?_ | with_reducible refine i_ret ?_ | with_reducible refine i_retN ?_ | with_reducible refine i_drop ?_
  | with_reducible refine i_next ?_ | with_reducible refine i_par ?_ | with_reducible refine i_par2 ?_ | with_reducible refine i_ifE ?_ | with_reducible refine i_un ?_
  | with_reducible refine i_and ?_ | with_reducible refine i_or ?_ | with_reducible refine i_not ?_ | with_reducible refine i_andV ?_ | with_reducible refine i_orV ?_ | with_reducible refine i_notV ?_
  | with_reducible refine i_notV2 ?_ | with_reducible refine i_bif (A := fun _ => _) ?_ | with_reducible refine i_brk ?_ | with_reducible refine i_ctn ?_
  | with_reducible refine i_abs ?_ | with_reducible refine i_min ?_ | with_reducible refine i_max ?_ | with_reducible refine i_for ?_ | with_reducible refine i_iR1 ?_ | with_reducible refine i_iR2 ?_ | with_reducible refine i_iL ?_ | with_reducible refine i_iT ?_ | with_reducible refine i_wb ?_
  | with_reducible refine i_sl ?_ | with_reducible refine i_no ?_ | with_reducible refine i_so ?_ | with_reducible refine i_exI ?_ | with_reducible refine i_exB ?_ | with_reducible refine i_gcons ?_ | with_reducible refine i_gnil ?_ | with_reducible refine i_bm ?_ | with_reducible refine i_gsub ?_ | with_reducible refine i_lc ?_ | with_reducible refine i_yes ?_ | with_reducible refine i_iE ?_
  | with_reducible refine ite_1 ?_ | with_reducible refine i_pow6 ?_ | with_reducible refine i_pow18 ?_ | with_reducible refine i_pow30 ?_
  | with_reducible refine i_addI ?_ | with_reducible refine i_I0 ?_ | with_reducible refine i_U ?_ | with_reducible refine i_eqI ?_ | with_reducible refine i_neI ?_ | fail)
local macro_rules | `(tactic| wtm_at "v1") => `(tactic| first
  | wtm_at "v0"
  | ((with_reducible show rIx _ _ _ _ _); first | refine i_ixT (by wtm_at "lkT") rfl ?_ | refine i_ixL (by wtm_at "lkL") rfl ?_)
  | ((with_reducible show rLenU _ _ _ _); first | refine i_lenT (by wtm_at "lkT") ?_ | refine i_lenL (by wtm_at "lkL") ?_)
  | ((with_reducible show spDraw _ _ _ _); refine c_draw (by wtm_at "lkS") (by first | decide | omega) (by first | decide | omega) (by omega) ?_; intro _ _ _ _ _ _)
  | (with_reducible refine i_newTH (by first | decide | (simp; done)) ?_; intro _ _ _ _ _)
  | (with_reducible refine i_newL (by first | decide | (simp; done)) ?_; intro _ _ _ _ _) | fail)
local macro_rules | `(tactic| wtm_at "v") => `(tactic| repeat wtm_at "v1")
local macro_rules | `(tactic| wtm_at "vi") => `(tactic| repeat ((fail_if_success (with_reducible show tIfS _ _ _ _ _ _)); wtm_at "v1"))
local macro_rules | `(tactic| wtm_at "v1") => `(tactic| first
  | ((with_reducible refine i_mulI ?hm ?_); (case hm => exact wide_mul (a := 128) (b := 128) (by omega) (by omega) (by decide) (by decide) (by decide)))
  | ((with_reducible refine i_mod ?hm ?_); (case hm => first | decide | omega); intro _ _ _ _) | fail)
variable {P : Program} {w : World} {K : PySem.W.Frag} {mg : Str → Option Value} {base : Heap}
abbrev s_law_reel : Stmt := topS 30
theorem sc_law_reel : FnScope ["_law_script", "_law_k", "_law_cell"] ["_law_script", "_law_k"] (defScope s_law_reel) := ⟨rfl, rfl, rfl, by decide +kernel, rfl, by decide +kernel, by decide +kernel⟩
theorem ok_law_reel {f : Addr} {fd : FuncData} (F : FunD K "_law_reel" "_law_reel" (defArgs s_law_reel) (defBody s_law_reel) (defScope s_law_reel) [] [] f fd) (n_max : mg "max" = none) (n_len : mg "len" = none) : FnG P w K mg base CX0 1 f fd ["_law_script", "_law_k"] (spReel K) := by
  refine okG (k := 0) F sc_law_reel (fun vs H Q E h => ?_) (fun cdv A hG outer s H vs Q E hr h => ?_)
  · obtain ⟨a, b, c, rfl, _⟩ := h
    rfl
  · obtain ⟨a, ns, k, rfl, hS, hl, h0, h1, q⟩ := h
    refine ⟨_, (pss_cons (ps_set (i := 2) sc_law_reel.nd rfl (Or.inl rfl) pe_int) (pss_cons (ps_if (pt_cmpR op_lt (pv 1) (pe_callB (k_len K) (by rfl) n_len bt_len (pa_cons (pv 0) pa_nil)) (nomark _)) (pss_one (ps_set (i := 2) sc_law_reel.nd rfl (Or.inl rfl) (pe_ix (k_ix K) (pv 0) (pv 1) (fun _ _ => rfl)))) pss_nil) (pss_one (ps_ret (pe_lst (pa_cons (pe_callB (call_maxU rfl) (by rfl) n_max bt_max (pa_cons pe_int (pa_cons (pe_op op_sub (pv 2) (pe_op op_pow pe_int pe_int)) pa_nil))) (pa_cons (pe_op (k_add K) (pe_op op_modN (pv 2) pe_int) (pe_op op_mulU pe_int (pv 1))) (pa_cons pe_int pa_nil)))))))), ?_⟩
    wtm_at "v"
    rw [List.length_map]
    with_reducible refine ite_d (fun c => ?_) (fun c => ?_)
    · wtm_at "v"
      refine i_ixN hS rfl h0 (by omega) (fun z _ => ?_)
      wtm_at "v"
      rename_i p H1 n1 s1 g1
      exact q _ _ n1 s1 ⟨rfl, _, _, _, g1, by omega, by omega, by omega, by omega, by omega⟩
    · wtm_at "v"
      rename_i p H1 n1 s1 g1
      exact q _ _ n1 s1 ⟨rfl, _, _, _, g1, by omega, by omega, by omega, by omega, by omega⟩
abbrev s_law_draw : Stmt := topS 31
theorem sc_law_draw : FnScope ["_law_reel_here", "_law_many", "_law_digit", "_law_turn", "_law_primes", "_law_one"] ["_law_reel_here", "_law_many"] (defScope s_law_draw) := ⟨rfl, rfl, rfl, by decide +kernel, rfl, by decide +kernel, by decide +kernel⟩
theorem ok_law_draw {f : Addr} {fd : FuncData} (F : FunD K "_law_draw" "_law_draw" (defArgs s_law_draw) (defBody s_law_draw) (defScope s_law_draw) [] [] f fd) : FnG P w K mg base CX0 1 f fd ["_law_reel_here", "_law_many"] spDraw := by
  refine okG (k := 0) F sc_law_draw (fun vs H Q E h => ?_) (fun cdv A hG outer s H vs Q E hr h => ?_)
  · obtain ⟨a, b, c, d, rfl, _⟩ := h
    rfl
  · obtain ⟨st, gl, n, m, rfl, ⟨rfl, a, b, c, hst, a0, b0, b1, c0, c1⟩, hm, hm2, hn, k⟩ := h
    refine ⟨_, (pss_cons (ps_if (pt_cmpR op_gt (pe_ix (k_ix K) (pv 0) pe_int (fun _ _ => rfl)) pe_int (nomark _)) (pss_cons (ps_set (i := 2) sc_law_draw.nd rfl (Or.inl rfl) (pe_op op_modN (pe_ix (k_ix K) (pv 0) pe_int (fun _ _ => rfl)) (pv 1))) (pss_cons (ps_asg (pe_op op_fdivV (pe_ix (k_ix K) (pv 0) pe_int (fun _ _ => rfl)) (pv 1)) (pg_sub (pv 0) pe_int set_list)) (pss_one (ps_ret (pv 2))))) pss_nil) (pss_cons (ps_asg (pe_op (k_add K) (pe_ix (k_ix K) (pv 0) pe_int (fun _ _ => rfl)) pe_int) (pg_sub (pv 0) pe_int set_list)) (pss_cons (ps_set (i := 3) sc_law_draw.nd rfl (Or.inl rfl) (pe_ix (k_ix K) (pv 0) pe_int (fun _ _ => rfl))) (pss_cons (ps_set (i := 4) sc_law_draw.nd rfl (Or.inl rfl) (pe_lst (pa_cons pe_int (pa_cons pe_int (pa_cons pe_int (pa_cons pe_int (pa_cons pe_int (pa_cons pe_int (pa_cons pe_int pa_nil))))))))) (pss_cons (ps_set (i := 5) sc_law_draw.nd rfl (Or.inl rfl) (pe_op op_modN (pe_op op_mulU (pe_op (k_add K) (pe_ix (k_ix K) (pv 0) pe_int (fun _ _ => rfl)) pe_int) (pe_op (k_add K) (pe_op op_mulU (pv 3) (pv 3)) pe_int)) (pe_ix (k_ix K) (pv 4) (pe_op op_modN (pv 3) pe_int) (fun _ _ => rfl)))) (pss_cons (ps_set (i := 5) sc_law_draw.nd rfl (Or.inl rfl) (pe_op op_modN (pe_op (k_add K) (pe_op (k_add K) (pe_op op_mulU (pv 5) (pv 5)) (pe_op op_mulU pe_int (pv 3))) pe_int) (pe_ix (k_ix K) (pv 4) (pe_op op_modN (pe_op (k_add K) (pv 3) pe_int) pe_int) (fun _ _ => rfl)))) (pss_one (ps_ret (pe_op op_modN (pe_op op_fdivV (pe_op op_modN (pe_op op_mulU (pv 5) (pe_op (k_add K) (pv 5) pe_int)) pe_int) pe_int) (pv 1)))))))))), ?_⟩
    wtm_at "v"
    with_reducible refine ite_d (fun e => ?_) (fun e => ?_)
    · wtm_at "v"
      rename_i d d0 d1 d2
      refine i_I ⟨by omega, lg_of (n := 200) (by omega) (by decide) (by decide)⟩ ?_
      wtm_at "v"
      refine i_setL hst (ixN_at (j := 0) (by simp)) ?_
      wtm_at "v"
      exact k _ _ d0 d1 ⟨rfl, _, _, _, upd_same, cut_more (by omega) a0, b0, b1, c0, by omega⟩ (fx_upd hst)
    · wtm_at "v"
      refine i_setL hst (ixN_at (j := 2) (by simp)) ?_
      have h3 : (upd H gl (.lst [.int a, .int b, .int (c + 1)])) gl = some (.lst [.int a, .int b, .int (c + 1)]) := upd_same
      have F3 : Fx gl gl H (upd H gl (.lst [.int a, .int b, .int (c + 1)])) := fx_upd hst
      have hlist : [V.int a, V.int b, V.int c].set 2 (V.int (c + 1)) = [.int a, .int b, .int (c + 1)] := rfl
      rw [hlist]
      generalize upd H gl (.lst [.int a, .int b, .int (c + 1)]) = H3 at *
      clear hst
      wtm_at "v"
      rename_i p6 H6 n6 s6 h6
      have h6 : H6 p6 = some (.lst ([(2147483587 : Int), 2147483579, 2147483563, 2147483549, 2147483543, 2147483497, 2147483489].map V.int)) := h6
      have F6 : Fx gl gl H H6 := F3.trans (by wtm_at "fx")
      have g6 : H6 gl = some (.lst [.int a, .int b, .int (c + 1)]) := by wtm_at "lk"
      have pr : ∀ p ∈ [(2147483587 : Int), 2147483579, 2147483563, 2147483549, 2147483543, 2147483497, 2147483489], 0 < p ∧ p < 2147483648 := by decide
      clear F3 h3
      have q0 : 0 ≤ (c + 1) * (c + 1) := Int.mul_nonneg (by omega) (by omega)
      have q1 : (c + 1) * (c + 1) ≤ 100000001 * 100000001 := Int.mul_le_mul (by omega) (by omega) (by omega) (by omega)
      wtm_at "v"
      rename_i j0 j1 j2 j3
      refine i_ixN (SqL.of h6) rfl j1 (by simpa using j2) (fun p1 hp1 => ?_)
      have p1b := pr p1 hp1
      wtm_at "v"
      refine i_ixN (SqL.of h6) rfl (by assumption) (by simp; omega) (fun p2 hp2 => ?_)
      have p2b := pr p2 hp2
      wtm_at "v"
      refine i_I ⟨by decide, by decide⟩ ?_
      wtm_at "v"
      rename_i d d0 d1 d2
      exact k _ _ d0 d1 ⟨rfl, _, _, _, g6, a0, b0, b1, by omega, by omega⟩ F6
end
section
/-! ### the steps as one word: wtm_at "v1" a step, wtm_at "v" as many as go -/
local macro_rules | `(tactic| wtm_at "tm") => `(tactic| first
  | exact Tm.refl _
  | exact Tm.same (by with_reducible assumption)
  | exact Tm.fx (by with_reducible assumption)
  | (refine Tm.trans ?_ (Tm.same (by with_reducible assumption)); wtm_at "tm")
  | (refine Tm.trans ?_ (Tm.fx (by with_reducible assumption)); wtm_at "tm") | fail)
local macro_rules | `(tactic| wtm_at "lkT1") => `(tactic| first
  | with_reducible assumption
  | exact TpK.tp (by with_reducible assumption)
  | exact TpH.tm (by with_reducible assumption) (by wtm_at "tm")
  | exact Tp.tm (by with_reducible assumption) (by wtm_at "tm")
  | exact Tp.of (by with_reducible assumption) | fail)
local macro_rules | `(tactic| wtm_at "lkT") => `(tactic| first
  | wtm_at "lkT1"
  | fail)
local macro_rules | `(tactic| wtm_at "lk") => `(tactic| first
  | assumption
  | exact b_get (by assumption) (by wtm_at "lk")
  | exact b_lst (by assumption) (by wtm_at "ne") (by wtm_at "ne") (by wtm_at "lk") | fail)
local macro_rules | `(tactic| wtm_at "lkL") => `(tactic| first
  | assumption
  | exact SqL.of (by wtm_at "lk")
  | exact b_L (by assumption) (by wtm_at "lkL") | fail)
local macro_rules | `(tactic| wtm_at "intL") => `(tactic| first | exact IntL.nil | exact IntL.cons (by wtm_at "intL") | fail)
local macro_rules | `(tactic| wtm_at "lkS0") => `(tactic| first
  | with_reducible assumption
  | exact StoreAt.same (by with_reducible assumption) (by wtm_at "lkS0") | fail)
local macro_rules | `(tactic| wtm_at "lkS") => `(tactic| first
  | with_reducible assumption
  | exact StoreAt.from (by with_reducible assumption) (by wtm_at "sm") | fail)
local macro_rules | `(tactic| wtm_at "ne") => `(tactic| first
  | assumption
  | exact Ne.symm (by assumption)
  | exact st_ne1 (by with_reducible assumption) (by wtm_at "lkS0")
  | exact st_ne2 (by with_reducible assumption) (by wtm_at "lkS0")
  | exact new_ne (by assumption) (by wtm_at "lk")
  | exact new_ne' (by assumption) (by wtm_at "lk") | fail)
local macro_rules | `(tactic| wtm_at "sm") => `(tactic| first
  | with_reducible assumption
  | exact Same.refl _
  | (refine Same.trans ?_ (by with_reducible assumption); wtm_at "sm") | fail)
local macro_rules | `(tactic| wtm_at "fx") => `(tactic| first
  | with_reducible assumption
  | exact Fx.same (Same.refl _)
  | exact Fx.same (by with_reducible assumption)
  | (refine Fx.trans ?_ (by with_reducible assumption); wtm_at "fx")
  | (refine Fx.trans ?_ (Fx.same (by with_reducible assumption)); wtm_at "fx") | fail)
local macro_rules | `(tactic| wtm_at "v0") => `(tactic| first
  | with_reducible refine i_seq ?_ | with_reducible refine i_asg ?_ | with_reducible refine i_var rfl ?_ | with_reducible refine i_c ?_ | with_reducible refine i_name ?_
  | with_reducible refine i_op ?_ | with_reducible refine i_ifS ?_ | with_reducible refine i_test ?_ | with_reducible refine i_tB ?_
  | with_reducible refine i_cons ?_ | with_reducible refine i_nil ?_ | with_reducible refine i_call ?_ | with_reducible refine i_callN ?_ | with_reducible refine i_callX ?_ | with_reducible refine i_callNX ?_ | with_reducible refine i_cb ?_
  | with_reducible refine i_tup ?_ | with_reducible refine i_lst ?_ | with_reducible refine i_ret ?_ | with_reducible refine i_retN ?_ | with_reducible refine i_drop ?_
  | with_reducible refine i_next ?_ | with_reducible refine i_par ?_ | with_reducible refine i_par2 ?_ | with_reducible refine i_ifE ?_ | with_reducible refine i_un ?_
  | with_reducible refine i_and ?_ | with_reducible refine i_or ?_ | with_reducible refine i_not ?_ | with_reducible refine i_andV ?_ | with_reducible refine i_orV ?_ | with_reducible refine i_notV ?_
  | with_reducible refine i_notV2 ?_ | with_reducible refine i_bif (A := fun _ => _) ?_ | with_reducible refine i_brk ?_ | with_reducible refine i_ctn ?_
  | with_reducible refine i_abs ?_ | with_reducible refine i_min ?_ | with_reducible refine i_max ?_ | with_reducible refine i_for ?_ | with_reducible refine i_iR1 ?_ | with_reducible refine i_iR2 ?_ | with_reducible refine i_iL ?_ | with_reducible refine i_iT ?_ | with_reducible refine i_wb ?_
  | with_reducible refine i_sl ?_ | with_reducible refine i_no ?_ | with_reducible refine i_so ?_ | with_reducible refine i_exI ?_ | with_reducible refine i_exB ?_ | with_reducible refine i_gcons ?_ | with_reducible refine i_gnil ?_ | with_reducible refine i_bm ?_ | with_reducible refine i_gsub ?_ | with_reducible refine i_lc ?_ | with_reducible refine i_yes ?_ | with_reducible refine i_iE ?_
  | with_reducible refine ite_1 ?_ | with_reducible refine i_pow6 ?_ | with_reducible refine i_pow18 ?_ | with_reducible refine i_pow30 ?_
  | with_reducible refine i_addI ?_ | with_reducible refine i_I0 ?_ | with_reducible refine i_U ?_ | with_reducible refine i_eqI ?_ | with_reducible refine i_neI ?_ | fail)
local macro_rules | `(tactic| wtm_at "v1") => `(tactic| first
  | wtm_at "v0"
  | ((with_reducible show rIx _ _ _ _ _); first | refine i_ixT (by wtm_at "lkT") rfl ?_ | refine i_ixL (by wtm_at "lkL") rfl ?_)
  | ((with_reducible show rLenU _ _ _ _); first | refine i_lenT (by wtm_at "lkT") ?_ | refine i_lenL (by wtm_at "lkL") ?_)
  | ((with_reducible show spDraw _ _ _ _); refine c_draw (by wtm_at "lkS") (by first | decide | omega) (by first | decide | omega) (by omega) ?_; intro _ _ _ _ _ _)
  | (with_reducible refine i_newTH (by first | decide | (simp; done)) ?_; intro _ _ _ _ _)
  | (with_reducible refine i_newL (by first | decide | (simp; done)) ?_; intro _ _ _ _ _) | fail)
local macro_rules | `(tactic| wtm_at "v") => `(tactic| repeat wtm_at "v1")
local macro_rules | `(tactic| wtm_at "vi") => `(tactic| repeat ((fail_if_success (with_reducible show tIfS _ _ _ _ _ _)); wtm_at "v1"))
local macro_rules | `(tactic| wtm_at "v0") => `(tactic| first | with_reducible refine ite_0 ?_ | with_reducible refine ite_n0 ?_ | with_reducible refine ite_n1 ?_ | fail)
variable {P : Program} {w : World} {K : PySem.W.Frag} {mg : Str → Option Value} {base : Heap}
abbrev s_is_whole : Stmt := topS 20
theorem sc_is_whole : FnScope ["thing"] ["thing"] (defScope s_is_whole) := ⟨rfl, rfl, rfl, by decide +kernel, rfl, by decide +kernel, by decide +kernel⟩
theorem ok_is_whole {f : Addr} {fd : FuncData} {dvs : List V} {kws : List (Str × V)} (F : FunD K "is_whole" "is_whole" (defArgs s_is_whole) (defBody s_is_whole) (defScope s_is_whole) dvs kws f fd) (n_isinstance : mg "isinstance" = none) (n_int : mg "int" = none) (n_bool : mg "bool" = none) : FnG P w K mg base CX0 1 f fd ["thing"] (spWhole K) := by
  refine okG (k := 0) F sc_is_whole (fun vs H Q E h => ?_) (fun cdv A hG outer s H vs Q E hr h => ?_)
  · obtain ⟨a, rfl, _⟩ := h
    rfl
  · obtain ⟨v, rfl, hv, k⟩ := h
    obtain ⟨t, b, c, h1, h2, h3, h4⟩ := hv.ty
    refine ⟨_, (pss_one (ps_ret (pe_and (pe_callB (k_isi K) (by rfl) n_isinstance bt_isinstance (pa_cons (pv 0) (pa_cons (pe_bltn (v := .ty "int") (by rfl) n_int (by decide +kernel) rfl) pa_nil))) (pe_one (pe_not (pe_callB (k_isi K) (by rfl) n_isinstance bt_isinstance (pa_cons (pv 0) (pa_cons (pe_bltn (v := .ty "bool") (by rfl) n_bool (by decide +kernel) rfl) pa_nil)))))))), ?_⟩
    wtm_at "v"
    refine i_isi h1 h2 ?_
    wtm_at "v"
    rw [← h4] at k
    refine ite_b (fun e => ?_) (fun e => ?_)
    · wtm_at "v"
      refine i_isi h1 h3 ?_
      wtm_at "v"
      rw [e] at k
      exact k
    · wtm_at "v"
      rw [e] at k
      exact k
abbrev s_are_unlike_wholes : Stmt := topS 24
theorem sc_are_unlike_wholes : FnScope ["thing", "number"] ["thing"] (defScope s_are_unlike_wholes) := ⟨rfl, rfl, rfl, by decide +kernel, rfl, by decide +kernel, by decide +kernel⟩
theorem ok_unl {f : Addr} {fd : FuncData} (F : FunD K "are_unlike_wholes" "are_unlike_wholes" (defArgs s_are_unlike_wholes) (defBody s_are_unlike_wholes) (defScope s_are_unlike_wholes) [] [] f fd) (O_is_whole : Own P w K mg base CX0 1 "is_whole" ["thing"] [] (spWhole K))
    (n_isinstance : mg "isinstance" = none) (n_len : mg "len" = none) (n_all : mg "all" = none) (n_tuple : mg "tuple" = none) (n_list : mg "list" = none) : FnG P w K mg base CX0 2 f fd ["thing"] (spUnl K) := by
  refine okG (k := 1) F sc_are_unlike_wholes (fun vs H Q E h => ?_) (fun cdv A hG outer s H vs Q E hr h => ?_)
  · obtain ⟨a, b, c, rfl, _⟩ := h
    rfl
  · obtain ⟨a, t, ns, rfl, h1, hl, k⟩ := h
    refine ⟨_, (pss_cons (ps_if ((pw_or (pt_not (pt_val (pe_callB (k_isiT K) (by rfl) n_isinstance bt_isinstance (pa_cons (pv 0) (pa_cons (pe_tup (pa_cons (pe_bltn (v := .ty "tuple") (by rfl) n_tuple (by decide +kernel) rfl) (pa_cons (pe_bltn (v := .ty "list") (by rfl) n_list (by decide +kernel) rfl) pa_nil))) pa_nil))))) (pw_or1 (pt_not (pt_val (pe_callB (k_all K rfl) (by rfl) n_all bt_all (pa_cons (pe_lc (own := [("number", 1)]) rfl sc_are_unlike_wholes.nd (k_piS K (pv 0)) (blkOk_by (N := ["thing", "number"]) (sc := defScope s_are_unlike_wholes) (by decide +kernel)) (fun _ _ _ _ _ => (pg_name (i := 1) sc_are_unlike_wholes.nd rfl (Or.inl rfl))) (fun _ _ _ _ _ => pts_nil) (fun _ _ _ _ _ => (pe_own O_is_whole hG (hr.mono (by decide)) pass0 (pa_cons (pv 1) pa_nil)))) pa_nil))))))).pt (pss_one (ps_ret pe_bl)) pss_nil) (pss_one (ps_ret (pe_cmpR (k_eq K hr) (pe_callB (k_lenS w) (by rfl) n_len bt_len (pa_cons (k_si w (own := [("number", 1)]) rfl sc_are_unlike_wholes.nd (k_piS K (pv 0)) (blkOk_by (N := ["thing", "number"]) (sc := defScope s_are_unlike_wholes) (by decide +kernel)) (fun _ _ _ _ _ => (pg_name (i := 1) sc_are_unlike_wholes.nd rfl (Or.inl rfl))) (fun _ _ _ _ _ => pts_nil) (fun _ _ _ _ _ => (pv 1))) pa_nil)) (pe_callB (k_len K) (by rfl) n_len bt_len (pa_cons (pv 0) pa_nil)) (nomark _))))), ?_⟩
    wtm_at "v"
    rename_i p1 H1 n1 s1 t1
    refine i_isiTL (h1.same s1) t1 ?_
    wtm_at "v"
    refine i_iS ?_
    wtm_at "v"
    refine i_lcV (h1.same s1) (fun i => (List.replicate i (V.bl true))) rfl ?_ ?_
    · intro A i x H4 nA hx hi sA hA
      obtain ⟨c, hc, rfl⟩ : ∃ c, ns[i]? = some c ∧ V.int c = x := by simpa using hx
      wtm_at "v"
      refine ⟨rfl, ?_⟩
      wtm_at "v"
      refine c_wholeI ?_
      exact lc_yes nA hA List.replicate_succ' (by simp at hi ⊢; omega) sA
    intro A2 H2 n2 s2 h2
    have h2 : H2 A2 = some (.lst ((List.replicate (ns.map V.int).length true).map V.bl)) := by rw [h2, List.map_replicate]
    wtm_at "v"
    refine i_all (SqL.of h2) ?_
    have e2 : (List.replicate (ns.map V.int).length true).all id = true := by simp
    rw [e2]
    wtm_at "v"
    refine i_si ?_
    refine i_iS ?_
    wtm_at "v"
    refine i_siV ((h1.same s1).same s2) (fun A i H' => Same H2 H' ∧ SetL w H' A (ns.take i)) (fun A nA => ⟨same_new nA, setL_new⟩) (fun A i H' _ p => ((h1.same s1).same s2).same p.1) ?_ ?_
    · rintro A i x H' nA hx ⟨sm, hs⟩
      obtain ⟨c, hc, rfl⟩ : ∃ c, ns[i]? = some c ∧ V.int c = x := by simpa using hx
      wtm_at "v"
      refine ⟨rfl, ?_⟩
      wtm_at "v"
      refine i_elt ?_
      wtm_at "v"
      refine setL_add (Nx := fun H' => Same H2 H' ∧ SetL w H' A (ns.take (i + 1))) hs (by rw [List.length_take]; omega) fun H'' oth hs' => ⟨fun b o e => oth b o (fun z => by subst z; rw [show H2 b = none from nA] at e; cases e) (sm b o e), ?_⟩
      rw [List.take_add_one, hc]
      exact hs'
    · rintro A H3 nA ⟨sm, hs⟩
      rw [List.length_map, List.take_length] at hs
      wtm_at "v"
      refine i_lenSet hs hl fun n _ hn => ?_
      wtm_at "v"
      refine i_lenV (((h1.same s1).same s2).same sm) ?_
      wtm_at "v"
      have e : decide ((n : Int) = ((ns.map V.int).length : Int)) = decide ns.Nodup := by
        rw [List.length_map]
        by_cases h : ns.Nodup
        · rw [decide_eq_true h, hn.mpr h]; simp
        · rw [decide_eq_false h]
          exact decide_eq_false fun z => h (hn.mp (by omega))
      rw [e]
      exact k _ (((s1.trans s2).trans sm))
abbrev s_are_days : Stmt := topS 25
theorem sc_are_days : FnScope ["period", "marks", "turned", "mark"] ["period", "marks", "turned"] (defScope s_are_days) := ⟨rfl, rfl, rfl, by decide +kernel, rfl, by decide +kernel, by decide +kernel⟩
theorem ok_areDays {f : Addr} {fd : FuncData} {t1 t2 : Tok} (F : FunD K "are_days" "are_days" (defArgs s_are_days) (defBody s_are_days) (defScope s_are_days) [] [] f fd) (O_is_whole : Own P w K mg base CX0 1 "is_whole" ["thing"] [] (spWhole K)) (O_are_unlike_wholes : Own P w K mg base CX0 2 "are_unlike_wholes" ["thing"] [] (spUnl K))
    (n_len : mg "len" = none) (n_all : mg "all" = none) (mg_MOST_PERIOD : mg "MOST_PERIOD" = some (.int 5040 t1)) (mg_MOST_TURNED : mg "MOST_TURNED" = some (.int 60 t2)) : FnG P w K mg base CX0 3 f fd ["period", "marks", "turned"] (spAreDays K) := by
  refine okG (k := 2) F sc_are_days (fun vs H Q E h => ?_) (fun cdv A hG outer s H vs Q E hr h => ?_)
  · obtain ⟨a, b, c, d, e, f, g, rfl, _⟩ := h
    rfl
  · obtain ⟨p, a, b, t, u, ms, ts, rfl, h1, h2, hd, k⟩ := h
    have p0 := hd.p0
    have p1 := hd.p1
    refine ⟨_, (pss_cons (ps_if ((pw_or (pt_not (pt_val (pe_own O_is_whole hG (hr.mono (by decide)) pass0 (pa_cons (pv 0) pa_nil)))) (pw_or (pt_not (pt_chain op_le op_le pe_int (pv 0) (pe_glob (v := .int 5040) (by rfl) mg_MOST_PERIOD ⟨_, rfl⟩))) (pw_or1 (pt_not (pt_val (pe_own O_are_unlike_wholes hG (hr.mono (by decide)) pass0 (pa_cons (pv 1) pa_nil)))))))).pt (pss_one (ps_ret pe_bl)) pss_nil) (pss_cons (ps_if (pt_not (pt_val (pe_callB (k_all K rfl) (by rfl) n_all bt_all (pa_cons (pe_lc (own := [("mark", 3)]) rfl sc_are_days.nd (k_piS K (pv 1)) (blkOk_by (N := ["period", "marks", "turned", "mark"]) (sc := defScope s_are_days) (by decide +kernel)) (fun _ _ _ _ _ => (pg_name (i := 3) sc_are_days.nd rfl (Or.inl rfl))) (fun _ _ _ _ _ => pts_nil) (fun _ _ _ _ _ => (pe_chain op_le op_lt pe_int (pv 3) (pv 0)))) pa_nil)))) (pss_one (ps_ret pe_bl)) pss_nil) (pss_one (ps_ret (pe_and (pe_own O_are_unlike_wholes hG (hr.mono (by decide)) pass0 (pa_cons (pv 2) pa_nil)) (pe_one (pe_cmpR op_le (pe_callB (k_len K) (by rfl) n_len bt_len (pa_cons (pv 2) pa_nil)) (pe_glob (v := .int 60) (by rfl) mg_MOST_TURNED ⟨_, rfl⟩) (nomark _)))))))), ?_⟩
    wtm_at "v"
    refine c_wholeI ?_
    wtm_at "v"
    refine i_chain ?_
    wtm_at "v"
    with_reducible refine ite_d (fun _ => ?_) (fun c => absurd p0 c)
    wtm_at "v"
    with_reducible refine ite_n (fun c => absurd p1 c) (fun _ => ?_)
    wtm_at "v"
    refine c_unl h1 hd.ml fun H1 s1 => ?_
    rw [decide_eq_true hd.mn]
    wtm_at "v"
    refine i_iS ?_
    wtm_at "v"
    refine i_lcV (h1.same s1) (fun i => (List.replicate i (V.bl true))) rfl ?_ ?_
    · intro A i x H4 nA hx hi sA hA
      obtain ⟨c, hc, rfl⟩ : ∃ c, ms[i]? = some c ∧ V.int c = x := by simpa using hx
      obtain ⟨c0, c1⟩ := hd.mr c (List.mem_of_getElem? hc)
      wtm_at "v"
      refine ⟨rfl, ?_⟩
      wtm_at "v"
      refine i_chain ?_
      wtm_at "v"
      with_reducible refine ite_d (fun _ => ?_) (fun c => absurd c0 c)
      wtm_at "v"
      rw [decide_eq_true c1]
      exact lc_yes nA hA List.replicate_succ' (by have := hd.ml; simp at hi ⊢; omega) sA
    intro A2 H2 n2 s2 h3
    have h3 : H2 A2 = some (.lst ((List.replicate (ms.map V.int).length true).map V.bl)) := by rw [h3, List.map_replicate]
    wtm_at "v"
    refine i_all (SqL.of h3) ?_
    have e2 : (List.replicate (ms.map V.int).length true).all id = true := by simp
    rw [e2]
    wtm_at "v"
    refine c_unl ((h2.same s1).same s2) (by have := hd.tl; omega) fun H3 s3 => ?_
    rw [decide_eq_true hd.tn]
    wtm_at "v"
    refine i_lenV (((h2.same s1).same s2).same s3) ?_
    wtm_at "v"
    rw [List.length_map, decide_eq_true (by have := hd.tl; omega : (ts.length : Int) ≤ 60)]
    exact k _ ((s1.trans s2).trans s3)
end
section
/-! ### the steps as one word: wtm_at "v1" a step, wtm_at "v" as many as go -/
local macro_rules | `(tactic| wtm_at "tm") => `(tactic| first
  | exact Tm.refl _
  | exact Tm.same (by with_reducible assumption)
  | exact Tm.fx (by with_reducible assumption)
  | (refine Tm.trans ?_ (Tm.same (by with_reducible assumption)); wtm_at "tm")
  | (refine Tm.trans ?_ (Tm.fx (by with_reducible assumption)); wtm_at "tm") | fail)
local macro_rules | `(tactic| wtm_at "lkT1") => `(tactic| first
  | with_reducible assumption
  | exact TpK.tp (by with_reducible assumption)
  | exact TpH.tm (by with_reducible assumption) (by wtm_at "tm")
  | exact Tp.tm (by with_reducible assumption) (by wtm_at "tm")
  | exact Tp.of (by with_reducible assumption) | fail)
local macro_rules | `(tactic| wtm_at "lkT") => `(tactic| first
  | wtm_at "lkT1"
  | fail)
local macro_rules | `(tactic| wtm_at "lk") => `(tactic| first
  | assumption
  | exact b_get (by assumption) (by wtm_at "lk")
  | exact b_lst (by assumption) (by wtm_at "ne") (by wtm_at "ne") (by wtm_at "lk") | fail)
local macro_rules | `(tactic| wtm_at "lkL") => `(tactic| first
  | assumption
  | exact SqL.of (by wtm_at "lk")
  | exact b_L (by assumption) (by wtm_at "lkL") | fail)
local macro_rules | `(tactic| wtm_at "intL") => `(tactic| first | exact IntL.nil | exact IntL.cons (by wtm_at "intL") | fail)
local macro_rules | `(tactic| wtm_at "lkS0") => `(tactic| first
  | with_reducible assumption
  | exact StoreAt.same (by with_reducible assumption) (by wtm_at "lkS0") | fail)
local macro_rules | `(tactic| wtm_at "lkS") => `(tactic| first
  | with_reducible assumption
  | exact StoreAt.from (by with_reducible assumption) (by wtm_at "sm") | fail)
local macro_rules | `(tactic| wtm_at "ne") => `(tactic| first
  | assumption
  | exact Ne.symm (by assumption)
  | exact st_ne1 (by with_reducible assumption) (by wtm_at "lkS0")
  | exact st_ne2 (by with_reducible assumption) (by wtm_at "lkS0")
  | exact new_ne (by assumption) (by wtm_at "lk")
  | exact new_ne' (by assumption) (by wtm_at "lk") | fail)
local macro_rules | `(tactic| wtm_at "sm") => `(tactic| first
  | with_reducible assumption
  | exact Same.refl _
  | (refine Same.trans ?_ (by with_reducible assumption); wtm_at "sm") | fail)
local macro_rules | `(tactic| wtm_at "fx") => `(tactic| first
  | with_reducible assumption
  | exact Fx.same (Same.refl _)
  | exact Fx.same (by with_reducible assumption)
  | (refine Fx.trans ?_ (by with_reducible assumption); wtm_at "fx")
  | (refine Fx.trans ?_ (Fx.same (by with_reducible assumption)); wtm_at "fx") | fail)
local macro_rules | `(tactic| wtm_at "v0") => `(tactic| first
  | with_reducible refine i_seq ?_ | with_reducible refine i_asg ?_ | with_reducible refine i_var rfl ?_ | with_reducible refine i_c ?_ | with_reducible refine i_name ?_
  | with_reducible refine i_op ?_ | with_reducible refine i_ifS ?_ | with_reducible refine i_test ?_ | with_reducible refine i_tB ?_
  | with_reducible refine i_cons ?_ | with_reducible refine i_nil ?_ | with_reducible refine i_call ?_ | with_reducible refine i_callN ?_ | with_reducible refine i_callX ?_ | with_reducible refine i_callNX ?_ | with_reducible refine i_cb ?_
  | with_reducible refine i_tup ?_ | with_reducible refine i_lst ?_ | with_reducible refine i_ret ?_ | with_reducible refine i_retN ?_ | with_reducible refine i_drop ?_
  | with_reducible refine i_next ?_ | with_reducible refine i_par ?_ | with_reducible refine i_par2 ?_ | with_reducible refine i_ifE ?_ | with_reducible refine i_un ?_
  | with_reducible refine i_and ?_ | with_reducible refine i_or ?_ | with_reducible refine i_not ?_ | with_reducible refine i_andV ?_ | with_reducible refine i_orV ?_ | with_reducible refine i_notV ?_
  | with_reducible refine i_notV2 ?_ | with_reducible refine i_bif (A := fun _ => _) ?_ | with_reducible refine i_brk ?_ | with_reducible refine i_ctn ?_
  | with_reducible refine i_abs ?_ | with_reducible refine i_min ?_ | with_reducible refine i_max ?_ | with_reducible refine i_for ?_ | with_reducible refine i_iR1 ?_ | with_reducible refine i_iR2 ?_ | with_reducible refine i_iL ?_ | with_reducible refine i_iT ?_ | with_reducible refine i_wb ?_
  | with_reducible refine i_sl ?_ | with_reducible refine i_no ?_ | with_reducible refine i_so ?_ | with_reducible refine i_exI ?_ | with_reducible refine i_exB ?_ | with_reducible refine i_gcons ?_ | with_reducible refine i_gnil ?_ | with_reducible refine i_bm ?_ | with_reducible refine i_gsub ?_ | with_reducible refine i_lc ?_ | with_reducible refine i_yes ?_ | with_reducible refine i_iE ?_
  | with_reducible refine ite_1 ?_ | with_reducible refine i_pow6 ?_ | with_reducible refine i_pow18 ?_ | with_reducible refine i_pow30 ?_
  | with_reducible refine i_addI ?_ | with_reducible refine i_I0 ?_ | with_reducible refine i_U ?_ | with_reducible refine i_eqI ?_ | with_reducible refine i_neI ?_ | fail)
local macro_rules | `(tactic| wtm_at "v1") => `(tactic| first
  | wtm_at "v0"
  | ((with_reducible show rIx _ _ _ _ _); first | refine i_ixT (by wtm_at "lkT") rfl ?_ | refine i_ixL (by wtm_at "lkL") rfl ?_)
  | ((with_reducible show rLenU _ _ _ _); first | refine i_lenT (by wtm_at "lkT") ?_ | refine i_lenL (by wtm_at "lkL") ?_)
  | ((with_reducible show spDraw _ _ _ _); refine c_draw (by wtm_at "lkS") (by first | decide | omega) (by first | decide | omega) (by omega) ?_; intro _ _ _ _ _ _)
  | (with_reducible refine i_newTH (by first | decide | (simp; done)) ?_; intro _ _ _ _ _)
  | (with_reducible refine i_newL (by first | decide | (simp; done)) ?_; intro _ _ _ _ _) | fail)
local macro_rules | `(tactic| wtm_at "v") => `(tactic| repeat wtm_at "v1")
local macro_rules | `(tactic| wtm_at "vi") => `(tactic| repeat ((fail_if_success (with_reducible show tIfS _ _ _ _ _ _)); wtm_at "v1"))
local macro_rules | `(tactic| wtm_at "v0") => `(tactic| first | with_reducible refine ite_0 ?_ | with_reducible refine ite_n0 ?_ | with_reducible refine ite_n1 ?_ | fail)
variable {P : Program} {w : World} {K : PySem.W.Frag} {mg : Str → Option Value} {base : Heap}
abbrev s_goes_round : Stmt := topS 26
theorem sc_goes_round : FnScope ["rests", "by"] ["rests", "by"] (defScope s_goes_round) := ⟨rfl, rfl, rfl, by decide +kernel, rfl, by decide +kernel, by decide +kernel⟩
theorem ok_round {f : Addr} {fd : FuncData} (F : FunD K "goes_round" "goes_round" (defArgs s_goes_round) (defBody s_goes_round) (defScope s_goes_round) [] [] f fd) (n_len : mg "len" = none) : FnG P w K mg base CX0 1 f fd ["rests", "by"] (spRound K) := by
  refine okG (k := 0) F sc_goes_round (fun vs H Q E h => ?_) (fun cdv A hG outer s H vs Q E hr h => ?_)
  · obtain ⟨a, b, c, rfl, _⟩ := h
    rfl
  · obtain ⟨a, rs, n, rfl, h1, hn, hl, k⟩ := h
    refine ⟨_, (pss_one (ps_ret (pe_cmpR (k_eq K hr) (pe_slice (k_slL K) (pv 0) (po_some (pv 1)) po_none) (pe_slice (k_slL K) (pv 0) po_none (po_some (pe_op op_sub (pe_callB (k_len K) (by rfl) n_len bt_len (pa_cons (pv 0) pa_nil)) (pv 1)))) (nomark _)))), ?_⟩
    wtm_at "v"
    refine i_slL (by wtm_at "lkL") (fun p1 H1 n1 s1 g1 => ?_)
    rw [cut_fromN, ← List.map_drop] at g1
    wtm_at "v"
    rw [show ((rs.map V.bl).length : Int) - (n : Int) = ((rs.length - n : Nat) : Int) by rw [List.length_map]; omega]
    refine i_slL (by wtm_at "lkL") (fun p2 H2 n2 s2 g2 => ?_)
    rw [cut_toN (by rw [List.length_map]; omega), ← List.map_take] at g2
    wtm_at "v"
    refine i_eqD (.lst (SqL.of (s2 _ _ g1)) (dpBools _)) (.lst (SqL.of g2) (dpBools _)) (Sh.shaped (n := 9) (.lst (shBools _)) (by decide)) (Sh.shaped (n := 9) (.lst (shBools _)) (by decide)) ?_
    simp only [PyData.eqv]
    rw [eqvAll_bl]
    wtm_at "v"
    exact k _ (s1.trans s2)
abbrev s_least_rests : Stmt := topS 27
theorem sc_least_rests : FnScope ["rests", "found", "by"] ["rests"] (defScope s_least_rests) := ⟨rfl, rfl, rfl, by decide +kernel, rfl, by decide +kernel, by decide +kernel⟩
theorem ok_least {f : Addr} {fd : FuncData} (F : FunD K "least_rests" "least_rests" (defArgs s_least_rests) (defBody s_least_rests) (defScope s_least_rests) [] [] f fd) (O_goes_round : Own P w K mg base CX0 1 "goes_round" ["rests", "by"] [] (spRound K)) (n_len : mg "len" = none) : FnG P w K mg base CX0 2 f fd ["rests"] (spLeast K) := by
  refine okG (k := 1) F sc_least_rests (fun vs H Q E h => ?_) (fun cdv A hG outer s H vs Q E hr h => ?_)
  · obtain ⟨a, b, rfl, _⟩ := h
    rfl
  · obtain ⟨a, rs, rfl, h1, hl, k⟩ := h
    refine ⟨_, (pss_cons (ps_set (i := 1) sc_least_rests.nd rfl (Or.inl rfl) (pv 0)) (pss_cons (ps_set (i := 2) sc_least_rests.nd rfl (Or.inl rfl) pe_int) (pss_cons (ps_while PassesOwn.never (pt_cmpR op_le (pv 2) (pe_callB (k_len K) (by rfl) n_len bt_len (pa_cons (pv 1) pa_nil)) (nomark _)) (pss_one (ps_if ((pw_and (pt_cmpR (k_eq K hr) (pe_op op_modN (pe_callB (k_len K) (by rfl) n_len bt_len (pa_cons (pv 1) pa_nil)) (pv 2)) pe_int (nomark _)) (pw_and1 (pt_val (pe_own O_goes_round hG (hr.mono (by decide)) pass0 (pa_cons (pv 1) (pa_cons (pe_op op_fdivV (pe_callB (k_len K) (by rfl) n_len bt_len (pa_cons (pv 1) pa_nil)) (pv 2)) pa_nil))))))).pt (pss_one (ps_set (i := 1) sc_least_rests.nd rfl (Or.inl rfl) (pe_slice (k_slL K) (pv 1) po_none (po_some (pe_op op_fdivV (pe_callB (k_len K) (by rfl) n_len bt_len (pa_cons (pv 1) pa_nil)) (pv 2)))))) (pss_one (ps_aug (i := 2) sc_least_rests.nd rfl (Or.inl rfl) pe_int ip_add))))) (pss_one (ps_ret (pv 1)))))), ?_⟩
    wtm_at "v"
    refine i_while (fun m σ' H' => ∃ (p : Addr) (by_ : Nat) (f' : List Bool), σ' = [some (.ref a), some (.ref p), some (.int by_)] ∧ H' p = some (.lst (f'.map V.bl)) ∧ Same H H' ∧ 2 ≤ by_ ∧ 2 * f'.length + 2 - by_ ≤ m ∧ f'.length ≤ 5040 ∧ by_ ≤ 5050 ∧ leastR rs = leastGo m f' by_) (2 * rs.length + 2) ⟨a, 2, rs, rfl, h1, Same.refl _, by omega, by omega, hl, by omega, rfl⟩ ?_
    · rintro m σ' H2 ⟨p, b, f', rfl, hf, sm, b2, hm, fl, bl, e⟩
      wtm_at "v"
      rw [List.length_map]
      with_reducible refine ite_d (fun c => ?_) (fun c => ?_)
      · obtain ⟨m, rfl⟩ : ∃ j, m = j + 1 := ⟨m - 1, by omega⟩
        unfold leastGo at e
        rw [if_pos (by omega)] at e
        wtm_at "v"
        rw [List.length_map]
        refine i_I (by omega) ?_
        wtm_at "v"
        rw [Int.fmod_eq_emod_of_nonneg _ (by omega)]
        with_reducible refine ite_d (fun c1 => ?_) (fun c1 => ?_)
        · wtm_at "v"
          rw [List.length_map]
          refine i_I ⟨by omega, lg_of (n := 200) (natAbs_up (n := 64) (by omega) (by decide)) (by decide) (by decide)⟩ ?_
          have ed : ((f'.length : Int).fdiv b) = ((f'.length / b : Nat) : Int) := by
            rw [Int.fdiv_eq_ediv_of_nonneg _ (by omega)]
            rfl
          have em : f'.length % b = 0 := by exact_mod_cast c1
          have lt : f'.length / b ≤ f'.length := Nat.div_le_self _ _
          have lt2 : f'.length / b < f'.length := Nat.div_lt_self (by omega) (by omega)
          rw [ed]
          wtm_at "v"
          refine c_round hf lt fl fun H3 s3 => ?_
          wtm_at "v"
          with_reducible refine ite_d (fun c2 => ?_) (fun c2 => ?_)
          · wtm_at "v"
            rw [List.length_map]
            refine i_I ⟨by omega, lg_of (n := 200) (natAbs_up (n := 64) (by omega) (by decide)) (by decide) (by decide)⟩ ?_
            rw [ed]
            wtm_at "v"
            refine i_slL (SqL.of (s3 _ _ hf)) (fun p4 H4 n4 s4 g4 => ?_)
            rw [cut_toN (by rw [List.length_map]; exact lt), ← List.map_take] at g4
            wtm_at "v"
            rw [if_pos ⟨em, c2⟩] at e
            exact ⟨m, by omega, p4, b, _, rfl, g4, (sm.trans s3).trans s4, b2, by rw [List.length_take]; omega, by rw [List.length_take]; omega, bl, e⟩
          · wtm_at "v"
            rw [if_neg (fun z => c2 z.2)] at e
            exact ⟨_, rfl, (b : Int), 1, rfl, rfl, m, by omega, p, b + 1, f', rfl, s3 _ _ hf, sm.trans s3, by omega, by omega, fl, by omega, e⟩
        · wtm_at "v"
          rw [if_neg (fun z => c1 (by exact_mod_cast z.1))] at e
          exact ⟨_, rfl, (b : Int), 1, rfl, rfl, m, by omega, p, b + 1, f', rfl, hf, sm, by omega, by omega, fl, by omega, e⟩
      · wtm_at "v"
        have e2 : leastGo m f' b = f' := by
          cases m with
          | zero => rfl
          | succ m => unfold leastGo; rw [if_neg (by omega)]
        rw [e2] at e
        rw [← e] at hf
        exact k _ _ sm hf
end
section
/-! ### the steps as one word: wtm_at "v1" a step, wtm_at "v" as many as go -/
local macro_rules | `(tactic| wtm_at "tm") => `(tactic| first
  | exact Tm.refl _
  | exact Tm.same (by with_reducible assumption)
  | exact Tm.fx (by with_reducible assumption)
  | (refine Tm.trans ?_ (Tm.same (by with_reducible assumption)); wtm_at "tm")
  | (refine Tm.trans ?_ (Tm.fx (by with_reducible assumption)); wtm_at "tm") | fail)
local macro_rules | `(tactic| wtm_at "lkT1") => `(tactic| first
  | with_reducible assumption
  | exact TpK.tp (by with_reducible assumption)
  | exact TpH.tm (by with_reducible assumption) (by wtm_at "tm")
  | exact Tp.tm (by with_reducible assumption) (by wtm_at "tm")
  | exact Tp.of (by with_reducible assumption) | fail)
local macro_rules | `(tactic| wtm_at "lkT") => `(tactic| first
  | wtm_at "lkT1"
  | fail)
local macro_rules | `(tactic| wtm_at "lk") => `(tactic| first
  | assumption
  | exact b_get (by assumption) (by wtm_at "lk")
  | exact b_lst (by assumption) (by wtm_at "ne") (by wtm_at "ne") (by wtm_at "lk") | fail)
local macro_rules | `(tactic| wtm_at "lkL") => `(tactic| first
  | assumption
  | exact SqL.of (by wtm_at "lk")
  | exact b_L (by assumption) (by wtm_at "lkL") | fail)
local macro_rules | `(tactic| wtm_at "intL") => `(tactic| first | exact IntL.nil | exact IntL.cons (by wtm_at "intL") | fail)
local macro_rules | `(tactic| wtm_at "lkS0") => `(tactic| first
  | with_reducible assumption
  | exact StoreAt.same (by with_reducible assumption) (by wtm_at "lkS0") | fail)
local macro_rules | `(tactic| wtm_at "lkS") => `(tactic| first
  | with_reducible assumption
  | exact StoreAt.from (by with_reducible assumption) (by wtm_at "sm") | fail)
local macro_rules | `(tactic| wtm_at "ne") => `(tactic| first
  | assumption
  | exact Ne.symm (by assumption)
  | exact st_ne1 (by with_reducible assumption) (by wtm_at "lkS0")
  | exact st_ne2 (by with_reducible assumption) (by wtm_at "lkS0")
  | exact new_ne (by assumption) (by wtm_at "lk")
  | exact new_ne' (by assumption) (by wtm_at "lk") | fail)
local macro_rules | `(tactic| wtm_at "sm") => `(tactic| first
  | with_reducible assumption
  | exact Same.refl _
  | (refine Same.trans ?_ (by with_reducible assumption); wtm_at "sm") | fail)
local macro_rules | `(tactic| wtm_at "fx") => `(tactic| first
  | with_reducible assumption
  | exact Fx.same (Same.refl _)
  | exact Fx.same (by with_reducible assumption)
  | (refine Fx.trans ?_ (by with_reducible assumption); wtm_at "fx")
  | (refine Fx.trans ?_ (Fx.same (by with_reducible assumption)); wtm_at "fx") | fail)
local macro_rules | `(tactic| wtm_at "v0") => `(tactic| first
  | with_reducible refine i_seq ?_ | with_reducible refine i_asg ?_ | with_reducible refine i_var rfl ?_ | with_reducible refine i_c ?_ | with_reducible refine i_name ?_
  | with_reducible refine i_op ?_ | with_reducible refine i_ifS ?_ | with_reducible refine i_test ?_ | with_reducible refine i_tB ?_
  | with_reducible refine i_cons ?_ | with_reducible refine i_nil ?_ | with_reducible refine i_call ?_ | with_reducible refine i_callN ?_ | with_reducible refine i_callX ?_ | with_reducible refine i_callNX ?_ | with_reducible refine i_cb ?_
  | with_reducible refine i_tup ?_ | with_reducible refine i_lst ?_ | with_reducible refine i_ret ?_ | with_reducible refine i_retN ?_ | with_reducible refine i_drop ?_
  | with_reducible refine i_next ?_ | with_reducible refine i_par ?_ | with_reducible refine i_par2 ?_ | with_reducible refine i_ifE ?_ | with_reducible refine i_un ?_
  | with_reducible refine i_and ?_ | with_reducible refine i_or ?_ | with_reducible refine i_not ?_ | with_reducible refine i_andV ?_ | with_reducible refine i_orV ?_ | with_reducible refine i_notV ?_
  | with_reducible refine i_notV2 ?_ | with_reducible refine i_bif (A := fun _ => _) ?_ | with_reducible refine i_brk ?_ | with_reducible refine i_ctn ?_
  | with_reducible refine i_abs ?_ | with_reducible refine i_min ?_ | with_reducible refine i_max ?_ | with_reducible refine i_for ?_ | with_reducible refine i_iR1 ?_ | with_reducible refine i_iR2 ?_ | with_reducible refine i_iL ?_ | with_reducible refine i_iT ?_ | with_reducible refine i_wb ?_
  | with_reducible refine i_sl ?_ | with_reducible refine i_no ?_ | with_reducible refine i_so ?_ | with_reducible refine i_exI ?_ | with_reducible refine i_exB ?_ | with_reducible refine i_gcons ?_ | with_reducible refine i_gnil ?_ | with_reducible refine i_bm ?_ | with_reducible refine i_gsub ?_ | with_reducible refine i_lc ?_ | with_reducible refine i_yes ?_ | with_reducible refine i_iE ?_
  | with_reducible refine ite_1 ?_ | with_reducible refine i_pow6 ?_ | with_reducible refine i_pow18 ?_ | with_reducible refine i_pow30 ?_
  | with_reducible refine i_addI ?_ | with_reducible refine i_I0 ?_ | with_reducible refine i_U ?_ | with_reducible refine i_eqI ?_ | with_reducible refine i_neI ?_ | fail)
local macro_rules | `(tactic| wtm_at "v1") => `(tactic| first
  | wtm_at "v0"
  | ((with_reducible show rIx _ _ _ _ _); first | refine i_ixT (by wtm_at "lkT") rfl ?_ | refine i_ixL (by wtm_at "lkL") rfl ?_)
  | ((with_reducible show rLenU _ _ _ _); first | refine i_lenT (by wtm_at "lkT") ?_ | refine i_lenL (by wtm_at "lkL") ?_)
  | ((with_reducible show spDraw _ _ _ _); refine c_draw (by wtm_at "lkS") (by first | decide | omega) (by first | decide | omega) (by omega) ?_; intro _ _ _ _ _ _)
  | (with_reducible refine i_newTH (by first | decide | (simp; done)) ?_; intro _ _ _ _ _)
  | (with_reducible refine i_newL (by first | decide | (simp; done)) ?_; intro _ _ _ _ _) | fail)
local macro_rules | `(tactic| wtm_at "v") => `(tactic| repeat wtm_at "v1")
local macro_rules | `(tactic| wtm_at "vi") => `(tactic| repeat ((fail_if_success (with_reducible show tIfS _ _ _ _ _ _)); wtm_at "v1"))
local macro_rules | `(tactic| wtm_at "v0") => `(tactic| first | with_reducible refine ite_0 ?_ | with_reducible refine ite_n0 ?_ | with_reducible refine ite_n1 ?_ | fail)
/-! ### sets of days made -/
theorem fx_ins {H : Hp} {a C dx : Addr} {fs : List (PySem.Str × V)} {o : HO} (h : H a = some (.ins C dx fs)) : Fx a a H (upd H a o) := ⟨fun b u e hm _ => by rw [upd_ne hm]; exact e, fun b ys e => by rw [upd_ne (ne_of e h (fun z => nomatch z))]; exact e⟩
theorem i_fldS {K : PySem.W.Frag} {H : Hp} {a C dx : Addr} {fs : List (PySem.Str × V)} {f : PySem.Str} {y : V} {N : Hp → Prop} (h : H a = some (.ins C dx fs)) (c : Cls K C) (n : NoAttr K C f) (hl : fs.length < 1000) (k : ∀ H', Fx a a H H' → H' a = some (.ins C dx (putF f y fs)) → N H') :
    ∃ a' C' dx' fs', V.ref a = .ref a' ∧ H a' = some (.ins C' dx' fs') ∧ Cls K C' ∧ NoAttr K C' f ∧ fs'.length < 1000 ∧ N (upd H a' (.ins C' dx' (putF f y fs'))) := ⟨a, C, dx, fs, rfl, h, c, n, hl, k _ (fx_ins h) upd_same⟩
def FldG (K : PySem.W.Frag) (x : V) (H : Hp) (f : PySem.Str) (Q : VK) : Prop := ∃ a C dx fs v, x = .ref a ∧ H a = some (.ins C dx fs) ∧ Cls K C ∧ NoAttr K C f ∧ fs.lookup f = some v ∧ Q v H
theorem i_fldA {K : PySem.W.Frag} {ta : TE} {f : PySem.Str} {σ : L2.St} {H : Hp} {Q : VK} (h : ta σ H fun x H1 => FldG K x H1 f Q) : tFld K ta f σ H Q := h
theorem i_fldG {K : PySem.W.Frag} {H : Hp} {Q : VK} {a C dx : Addr} {fs : List (PySem.Str × V)} {f : PySem.Str} {v : V} (h : H a = some (.ins C dx fs)) (c : Cls K C) (n : NoAttr K C f) (hl : fs.lookup f = some v) (k : Q v H) : FldG K (.ref a) H f Q := ⟨a, C, dx, fs, v, rfl, h, c, n, hl, k⟩
theorem i_fldW {K : PySem.W.Frag} {ta tv : TE} {f : PySem.Str} {D : Ends} {σ : L2.St} {H : Hp} (h : tv σ H fun y H1 => ta σ H1 fun x H2 => ∃ a C dx fs, x = .ref a ∧ H2 a = some (.ins C dx fs) ∧ Cls K C ∧ NoAttr K C f ∧ fs.length < 1000 ∧ D.nx σ (upd H2 a (.ins C dx (putF f y fs)))) : sFld K ta tv f D σ H := h
theorem i_meth {C : Addr} {m : PySem.Str} {sp : Sp} {dvs : List V} {E : XK} {ta : TE} {t : TA} {σ : L2.St} {H : Hp} {Q : VK} (h : ta σ H fun x H1 => ∃ a dx fs, x = .ref a ∧ H1 a = some (.ins C dx fs) ∧ fs.lookup m = none ∧ t σ H1 fun vs H2 => sp (x :: (vs ++ dvs)) H2 Q E) : tMeth C m sp dvs E ta t σ H Q := h
def MakeG (C : Addr) (sp : Sp) (dvs : List V) (E : XK) (vs : List V) (H1 : Hp) (Q : VK) : Prop := ∀ x dx, H1 x = none → H1 dx = none → dx ≠ x → sp (.ref x :: (vs ++ dvs)) (upd (upd H1 dx (.own x)) x (.ins C dx [])) (fun v H2 => v = .non ∧ Q (.ref x) H2) E
theorem i_make {C : Addr} {sp : Sp} {dvs : List V} {E : XK} {t : TA} {σ : L2.St} {H : Hp} {Q : VK} (h : t σ H fun vs H1 => MakeG C sp dvs E vs H1 Q) : tMake C sp dvs E t σ H Q := h
theorem nePR : ¬ (("rests" : PySem.Str) = "period") := by decide +kernel
theorem neMR : ¬ (("rests" : PySem.Str) = "marks") := by decide +kernel
theorem neMP : ¬ (("period" : PySem.Str) = "marks") := by decide +kernel
theorem neTR : ¬ (("rests" : PySem.Str) = "turned") := by decide +kernel
theorem neTP : ¬ (("period" : PySem.Str) = "turned") := by decide +kernel
theorem neTM : ¬ (("marks" : PySem.Str) = "turned") := by decide +kernel
abbrev FL := List (PySem.Str × V)
theorem pf1 (x : V) : putF "rests" x [] = ([("rests", x)] : FL) := rfl
theorem pf2 (x y : V) : putF "period" y ([("rests", x)] : FL) = ([("rests", x), ("period", y)] : FL) := by
  show (if ("rests" : PySem.Str) = "period" then (("rests", y) :: [] : FL) else (("rests", x) :: [("period", y)] : FL)) = ([("rests", x), ("period", y)] : FL)
  rw [if_neg nePR]
theorem pf3 (x y z : V) : putF "marks" z ([("rests", x), ("period", y)] : FL) = ([("rests", x), ("period", y), ("marks", z)] : FL) := by
  show (if ("rests" : PySem.Str) = "marks" then (("rests", z) :: [("period", y)] : FL) else (("rests", x) :: (if ("period" : PySem.Str) = "marks" then (("period", z) :: [] : FL) else (("period", y) :: [("marks", z)] : FL)) : FL)) = ([("rests", x), ("period", y), ("marks", z)] : FL)
  rw [if_neg neMR, if_neg neMP]
theorem pf4 (x y z u : V) : putF "turned" u ([("rests", x), ("period", y), ("marks", z)] : FL) = ([("rests", x), ("period", y), ("marks", z), ("turned", u)] : FL) := by
  show (if ("rests" : PySem.Str) = "turned" then (("rests", u) :: [("period", y), ("marks", z)] : FL) else (("rests", x) :: (if ("period" : PySem.Str) = "turned" then (("period", u) :: [("marks", z)] : FL) else (("period", y) :: (if ("marks" : PySem.Str) = "turned" then (("marks", u) :: [] : FL) else (("marks", z) :: [("turned", u)] : FL)) : FL)) : FL)) = ([("rests", x), ("period", y), ("marks", z), ("turned", u)] : FL)
  rw [if_neg neTR, if_neg neTP, if_neg neTM]
theorem lkR (x : V) (l : FL) : (((("rests" : PySem.Str), x) :: l : FL)).lookup ("rests" : PySem.Str) = some x := List.lookup_cons_self
theorem lkT (x y z u : V) : ([("rests", x), ("period", y), ("marks", z), ("turned", u)] : FL).lookup ("turned" : PySem.Str) = some u := by
  rw [List.lookup_cons, List.lookup_cons, List.lookup_cons, List.lookup_cons_self]
  rw [show (("turned" : PySem.Str) == "rests") = false by decide +kernel, show (("turned" : PySem.Str) == "period") = false by decide +kernel, show (("turned" : PySem.Str) == "marks") = false by decide +kernel]
theorem marks_snoc : ∀ (k : Nat) (l : List Bool) (b : Bool), marksFrom k (l ++ [b]) = marksFrom k l ++ (if b = true then [((k + l.length : Nat) : Int)] else [])
  | k, [], b => by cases b <;> rfl
  | k, c :: l, b => by
    have ih := marks_snoc (k + 1) l b
    rw [List.cons_append, marksFrom, marksFrom, ih, List.length_cons, show k + 1 + l.length = k + (l.length + 1) by omega]
    split <;> rfl
theorem marks_len : ∀ (k : Nat) (l : List Bool), (marksFrom k l).length ≤ l.length
  | _, [] => Nat.le_refl _
  | k, c :: l => by
    have := marks_len (k + 1) l
    unfold marksFrom
    split <;> simp <;> omega
/-- what the class Days is asked for -/
structure DaysT (K : PySem.W.Frag) (C : Addr) : Prop where
  cls : Cls K C
  nR : NoAttr K C "rests"
  nP : NoAttr K C "period"
  nM : NoAttr K C "marks"
  nT : NoAttr K C "turned"
structure DaysK (K : PySem.W.Frag) (C : Addr) : Prop where
  kO : PySem.W.kitOne K (.ref C) (.ref C) = some true
  kN : ∀ T ∈ (["NoneType", "bool", "int", "str", "tuple"] : List String), PySem.W.kitOne K (.type T) (.ref C) = some false
  ha : PySem.W.findIn K (.ref C) "__class__" = some (some (.builtin "object.__class__"))
  hn : PySem.W.specialIn K (.builtin "object.__class__") "__get__" = some (some (.builtin "getset_descriptor.__get__"))
  ht : PySem.W.takesIn K (.builtin "object.__class__") = some true
  hm : PySem.W.mroIn K C (.type "object") = some true
theorem wat_ty {K : PySem.W.Frag} {C : Addr} {H : Hp} {n : Nat} {y : V} {d : WD} (h : WAt K C H n y d) : (∃ p rs ts, d = .days rs ts ∧ y = .ref p ∧ DaysAt K C H p rs ts) ∨ ((∀ r t, weq (.days r t) d = false) ∧ ∃ T ∈ (["NoneType", "bool", "int", "str", "tuple"] : List String), TyX K H y (.type T)) := by
  cases n <;> cases d <;> simp only [WAt] at h <;> first
    | exact h.elim
    | (subst h; exact .inr ⟨fun _ _ => rfl, "NoneType", by simp, .base .non⟩)
    | (subst h; exact .inr ⟨fun _ _ => rfl, "bool", by simp, .base (.bl _)⟩)
    | (subst h; exact .inr ⟨fun _ _ => rfl, "int", by simp, .base (.int _)⟩)
    | (subst h; exact .inr ⟨fun _ _ => rfl, "str", by simp, .base (.str _)⟩)
    | (obtain ⟨p, rfl, h⟩ := h; exact .inl ⟨p, _, _, rfl, rfl, h⟩)
    | (obtain ⟨p, vs, rfl, h, _⟩ := h; exact .inr ⟨fun _ _ => rfl, "tuple", by simp, ty_tup h⟩)
def spSet (K : PySem.W.Frag) (C : Addr) : Sp := fun vs H Q _ => ∃ (s dx a b : Addr) (t : Bool) (rs : List Bool) (ts : List Int), vs = [.ref s, .ref a, .ref b] ∧ H s = some (.ins C dx []) ∧ H a = some (.lst (rs.map V.bl)) ∧ rs.length ≤ 5040 ∧ SqV K H b t (ts.map V.int) ∧ ts.Nodup ∧ ts.length ≤ 4000 ∧
  ∀ H', Fx s s H H' → DaysAt K C H' s (leastR rs) (upr ts) → Q .non H'
theorem c_set {K : PySem.W.Frag} {C s dx a b : Addr} {t : Bool} {rs : List Bool} {ts : List Int} {H : Hp} {Q : VK} {E : XK} (h1 : H s = some (.ins C dx [])) (h2 : H a = some (.lst (rs.map V.bl))) (h3 : rs.length ≤ 5040) (h4 : SqV K H b t (ts.map V.int)) (h5 : ts.Nodup) (h6 : ts.length ≤ 4000)
    (k : ∀ H', Fx s s H H' → DaysAt K C H' s (leastR rs) (upr ts) → Q .non H') : spSet K C ([.ref s, .ref a, .ref b] ++ []) H Q E := ⟨s, dx, a, b, t, rs, ts, rfl, h1, h2, h3, h4, h5, h6, k⟩
def spDays (K : PySem.W.Frag) (C : Addr) : Sp := fun vs H Q _ => ∃ (s dx a b : Addr) (t u : Bool) (p : Int) (ms ts : List Int), vs = [.ref s, .int p, .ref a, .ref b] ∧ H s = some (.ins C dx []) ∧ SqV K H a t (ms.map V.int) ∧ SqV K H b u (ts.map V.int) ∧ DaysIn p ms ts ∧
  ∀ H', Fx s s H H' → DaysAt K C H' s (leastR (restsOf p.toNat ms)) (upr ts) → Q .non H'
variable {P : Program} {w : World} {K : PySem.W.Frag} {mg : Str → Option Value} {base : Heap}
abbrev s_Days_set_days : Stmt := inClass (topS 28) 1
theorem sc_Days_set_days : FnScope ["self", "rests", "turned", "rest", "there"] ["self", "rests", "turned"] (defScope s_Days_set_days) := ⟨rfl, rfl, rfl, by decide +kernel, rfl, by decide +kernel, by decide +kernel⟩
theorem ok_set_days {C f : Addr} {fd : FuncData} (T : DaysT K C) (F : FunD K "set_days" "Days.set_days" (defArgs s_Days_set_days) (defBody s_Days_set_days) (defScope s_Days_set_days) [] [] f fd) (O_least_rests : Own P w K mg base CX0 2 "least_rests" ["rests"] [] (spLeast K))
    (n_len : mg "len" = none) (n_tuple : mg "tuple" = none) (n_enumerate : mg "enumerate" = none) (n_sorted : mg "sorted" = none) : FnG P w K mg base CX0 3 f fd ["self", "rests", "turned"] (spSet K C) := by
  refine okG (k := 2) F sc_Days_set_days (fun vs H Q E h => ?_) (fun cdv A hG outer s H vs Q E hr h => ?_)
  · obtain ⟨a, b, c, d, e, f, g, rfl, _⟩ := h
    rfl
  · obtain ⟨s, dx, a, b, t, rs, ts, rfl, h1, h2, h3, h4, h5, h6, k⟩ := h
    refine ⟨_, (pss_cons (ps_fld (pv 0) (pe_callTy (k_tupL K) (by rfl) n_tuple bt_tuple (pa_cons (pe_own O_least_rests hG (hr.mono (by decide)) pass0 (pa_cons (pv 1) pa_nil)) pa_nil)) rfl) (pss_cons (ps_fld (pv 0) (pe_callB (k_len K) (by rfl) n_len bt_len (pa_cons (k_fld K (pv 0) rfl) pa_nil)) rfl) (pss_cons (ps_fld (pv 0) (pe_callTy (k_tupL K) (by rfl) n_tuple bt_tuple (pa_cons (pe_lc (own := [("rest", 3), ("there", 4)]) rfl sc_Days_set_days.nd (k_piET K (by rfl) n_enumerate (pa_cons (k_fld K (pv 0) rfl) pa_nil)) (blkOk_by (N := ["self", "rests", "turned", "rest", "there"]) (sc := defScope s_Days_set_days) (by decide +kernel)) (fun _ _ _ _ _ => (k_gt K 2 rfl (pgs_cons (pg_name (i := 3) sc_Days_set_days.nd rfl (Or.inl rfl)) (pgs_cons (pg_name (i := 4) sc_Days_set_days.nd rfl (Or.inl rfl)) pgs_nil)))) (fun _ _ _ _ _ => (pts_one (pt_val (pv 4)))) (fun _ _ _ _ _ => (pv 3))) pa_nil)) rfl) (pss_one (ps_fld (pv 0) (pe_callTy (k_tupL K) (by rfl) n_tuple bt_tuple (pa_cons (pe_callB (k_sortAny K w rfl) (by rfl) n_sorted bt_sorted (pa_cons (pv 2) pa_nil)) pa_nil)) rfl))))), ?_⟩
    wtm_at "v"
    refine i_fldW ?_
    wtm_at "v"
    refine c_least h2 h3 fun p1 H1 s1 g1 => ?_
    wtm_at "v"
    refine i_tupL (SqL.of g1) fun q1 H2 n2 s2 g2 => ?_
    have h1' := s2 _ _ (s1 _ _ h1)
    wtm_at "v"
    refine i_fldS h1' T.cls T.nR (by decide) fun H3 f3 g3 => ?_
    rw [pf1] at g3
    have F3 : Fx s s H H3 := (Fx.same (s1.trans s2)).trans f3
    have t3 : H3 q1 = some (.tup ((leastR rs).map V.bl)) := b_tup f3 g2
    wtm_at "v"
    refine i_fldW ?_
    wtm_at "v"
    refine i_fldA (K := K) ?_
    wtm_at "v"
    refine i_fldG g3 T.cls T.nR (lkR _ _) ?_
    wtm_at "v"
    refine i_fldS g3 T.cls T.nP (by simp) fun H4 f4 g4 => ?_
    rw [pf2] at g4
    have F4 := F3.trans f4
    have t4 : H4 q1 = some (.tup ((leastR rs).map V.bl)) := b_tup f4 t3
    clear f3 g3 t3 F3
    wtm_at "v"
    refine i_fldW ?_
    wtm_at "v"
    refine i_iET ?_
    wtm_at "v"
    refine i_fldA (K := K) ?_
    wtm_at "v"
    refine i_fldG g4 T.cls T.nR (lkR _ _) ?_
    wtm_at "v"
    have lR : (leastR rs).length ≤ rs.length := leastGo_len _ _ _
    refine i_itET (Tp.of t4) ?_
    refine i_lcET (fun A i H' => Same H4 H' ∧ H' A = some (.lst ((marksFrom 0 ((leastR rs).take i)).map V.int))) (fun A nA => ⟨same_new nA, by rw [List.take_zero]; exact upd_same⟩) (fun A i H' _ p => Tp.mono p.1 (Tp.of t4)) ?_ ?_
    · rintro A i x H0 U H' nA hx hi ⟨sm, hA⟩ nT sT hT
      obtain ⟨c, hc, rfl⟩ : ∃ c, (leastR rs)[i]? = some c ∧ V.bl c = x := by simpa using hx
      refine i_gtup (Tp.of hT.eq) rfl ?_
      wtm_at "v"
      refine ⟨rfl, ?_⟩
      wtm_at "v"
      have hi' : i < (leastR rs).length := by simpa using hi
      have el : ((leastR rs).take i).length = i := by rw [List.length_take]; omega
      have es := marks_snoc 0 ((leastR rs).take i) c
      have et : (leastR rs).take (i + 1) = (leastR rs).take i ++ [c] := by rw [List.take_add_one, hc]; rfl
      have ml := marks_len 0 ((leastR rs).take i)
      refine ite_b (fun e => ?_) (fun e => ?_)
      · wtm_at "v"
        refine ⟨_, sT _ _ hA, by rw [List.length_map]; exact Nat.lt_of_le_of_lt (by omega : _ ≤ 100000) (by decide), fun b o e => ?_, ?_⟩
        · rw [upd_ne (fun z => by subst z; rw [show H4 b = none from nA] at e; cases e)]
          exact sT _ _ (sm b o e)
        · rw [upd_same, et, es, e, el]
          simp
      · refine ⟨sm.trans sT, ?_⟩
        rw [et, es, e]
        simpa using sT _ _ hA
    rintro A H5 n5 ⟨s5, h5'⟩
    rw [List.length_map, List.take_length] at h5'
    wtm_at "v"
    refine i_tupL (SqL.of h5') fun q2 H6 n6 s6 g6 => ?_
    have k6 := s6 _ _ (s5 _ _ g4)
    have t6 := s6 _ _ (s5 _ _ t4)
    wtm_at "v"
    refine i_fldS k6 T.cls T.nM (by simp) fun H7 f7 g7 => ?_
    rw [pf3] at g7
    have F7 := (F4.trans (Fx.same (s5.trans s6))).trans f7
    have t7 : H7 q1 = some (.tup ((leastR rs).map V.bl)) := b_tup f7 t6
    have u7 := b_tup f7 g6
    clear f4 g4 t4 F4 f7 k6 t6
    wtm_at "v"
    dsimp only
    refine i_fldW ?_
    wtm_at "v"
    have h47 : SqV K H7 b t (ts.map V.int) := by
      have e : ∀ o, H b = some o → b ≠ s → H7 b = some o := fun o h hb => F7.oth b o h hb hb
      cases t
      · rcases (h4 : SqL K H b _) with (h | ⟨o, h⟩) | h
        · exact .inl (.inl (e _ h (ne_of h h1 (fun z => nomatch z))))
        · exact .inl (.inr ⟨o, e _ h (ne_of h h1 (fun z => nomatch z))⟩)
        · exact .inr h
      · exact Tp.fx F7 h4
    refine i_sortQ h47.or fun ns p8 H8 pm up n8 s8 g8 => ?_
    have ens : ns = upr ts := eq_upr (upr_of_le up (pm.nodup_iff.mpr h5)) fun k => pm.mem_iff
    rw [ens] at g8
    have k8 := s8 _ _ g7
    have t8 := s8 _ _ t7
    have u8 := s8 _ _ u7
    wtm_at "v"
    refine i_tupL (SqL.of g8) fun q3 H9 n9 s9 g9 => ?_
    have k9 := s9 _ _ k8
    have t9 := s9 _ _ t8
    have u9 := s9 _ _ u8
    wtm_at "v"
    refine i_fldS k9 T.cls T.nT (by simp) fun H10 f10 g10 => ?_
    rw [pf4, List.length_map] at g10
    wtm_at "v"
    exact k _ ((F7.trans (Fx.same (s8.trans s9))).trans f10) ⟨dx, q1, q2, q3, g10, .inl (b_tup f10 t9), .inl (b_tup f10 u9), .inl (b_tup f10 g9)⟩
abbrev s_Days___init__ : Stmt := inClass (topS 28) 0
theorem sc_Days___init__ : FnScope ["self", "period", "marks", "turned", "known", "mark", "rest"] ["self", "period", "marks", "turned"] (defScope s_Days___init__) := ⟨rfl, rfl, rfl, by decide +kernel, rfl, by decide +kernel, by decide +kernel⟩
theorem ok_init {C f D : Addr} {fd : FuncData} (T : DaysT K C) (F : FunD K "__init__" "Days.__init__" (defArgs s_Days___init__) (defBody s_Days___init__) (defScope s_Days___init__) [] [("turned", .ref D)] f fd) (cl_Days : Cls K C) (O_are_days : Own P w K mg base CX0 3 "are_days" ["period", "marks", "turned"] [] (spAreDays K)) (O_Days_set_days : OwnM P w K mg base CX0 3 C "set_days" ["self", "rests", "turned"] [] (spSet K C))
    (n_range : mg "range" = none) : FnG P w K mg base CX0 4 f fd ["self", "period", "marks", "turned"] (spDays K C) := by
  refine okG (k := 3) F sc_Days___init__ (fun vs H Q E h => ?_) (fun cdv A hG outer s H vs Q E hr h => ?_)
  · obtain ⟨a, b, c, d, e, f, g, h, i, rfl, _⟩ := h
    rfl
  · obtain ⟨s, dx, a, b, t, u, p, ms, ts, rfl, h1, h2, h3, hd, k⟩ := h
    refine ⟨_, (pss_cons (ps_if (pt_not (pt_val (pe_own O_are_days hG (hr.mono (by decide)) pass0 (pa_cons (pv 1) (pa_cons (pv 2) (pa_cons (pv 3) pa_nil)))))) (pss_one ps_never) pss_nil) (pss_cons (ps_set (i := 4) sc_Days___init__.nd rfl (Or.inr rfl) (pe_dc (own := [("mark", 5)]) rfl sc_Days___init__.nd (k_piS K (pv 2)) (blkOk_by (N := ["self", "period", "marks", "turned", "known", "mark", "rest"]) (sc := defScope s_Days___init__) (by decide +kernel)) (fun _ _ _ _ _ => (pg_name (i := 5) sc_Days___init__.nd rfl (Or.inl rfl))) (fun _ _ _ _ _ => pts_nil) (fun _ _ _ _ _ => (pv 5)) (fun _ _ _ _ _ => pe_bl))) (pss_one (ps_expr (pe_ownM (pv 0) cl_Days O_Days_set_days hG (hr.mono (by decide)) pass0 (pa_cons (pe_lc (own := [("rest", 6)]) rfl sc_Days___init__.nd (pi_range1 (by rfl) n_range (pa_cons (pv 1) pa_nil)) (blkOk_by (N := ["self", "period", "marks", "turned", "known", "mark", "rest"]) (sc := defScope s_Days___init__) (by decide +kernel)) (fun _ _ _ _ _ => (pg_name (i := 6) sc_Days___init__.nd rfl (Or.inl rfl))) (fun _ _ _ _ _ => pts_nil) (fun _ _ _ _ _ => (pe_cmpR (op_inK hr) (pv 6) (pv 4) (by rfl)))) (pa_cons (pv 3) pa_nil))))))), ?_⟩
    wtm_at "v"
    refine c_areDays h2 h3 hd fun H1 s1 => ?_
    wtm_at "v"
    refine i_dc ?_
    refine i_iS ?_
    wtm_at "v"
    refine i_dcV rfl (by have := hd.ml; omega) (h2.same s1) ?_ ?_
    · intro i c H' hc Q1 hq
      wtm_at "v"
      refine hq _ rfl ?_ ?_ ?_
      · intro Qb q
        wtm_at "v"
        exact q
      · intro Qk q
        wtm_at "v"
        exact q
      · intro Qv q
        wtm_at "v"
        exact q
    intro A2 H2 n2 s2 g2
    wtm_at "v"
    refine i_meth ?_
    wtm_at "v"
    have h12 := s2 _ _ (s1 _ _ h1)
    refine ⟨s, dx, [], rfl, h12, rfl, ?_⟩
    wtm_at "v"
    have p0 := hd.p0
    have p1 := hd.p1
    refine i_rng1 (by omega) (by omega) ?_
    refine i_lcR (fun i => ((restsOf p.toNat ms).take i).map V.bl) rfl ?_ ?_
    · intro A3 i H' nA hi sA hA
      wtm_at "v"
      refine ⟨rfl, ?_⟩
      wtm_at "v"
      refine i_inK (sA _ _ g2) ?_
      have lr : (restsOf p.toNat ms).length = p.toNat := by unfold restsOf; rw [List.length_map, List.length_range]
      have gi : (restsOf p.toNat ms)[i]? = some (decide ((i : Int) ∈ ms)) := by unfold restsOf; rw [List.getElem?_map, List.getElem?_range (by omega)]; rfl
      have e : decide ((0 + (i : Int)) ∈ undup ms) = decide ((i : Int) ∈ ms) := decide_eq_decide.mpr (by rw [undup_mem]; simp)
      rw [e]
      exact lc_yes nA hA (by rw [List.take_add_one, gi, List.map_append]; rfl) (by rw [List.length_map, List.length_take]; omega) sA
    intro A3 H3 n3 s3 g3
    have lr : (restsOf p.toNat ms).length = p.toNat := by unfold restsOf; rw [List.length_map, List.length_range]
    rw [List.take_of_length_le (show (restsOf p.toNat ms).length ≤ p.toNat by omega)] at g3
    wtm_at "v"
    refine c_set (s3 _ _ h12) g3 (by omega) (((h3.same s1).same s2).same s3) hd.tn (by have := hd.tl; omega) fun H4 f4 d4 => ?_
    wtm_at "v"
    exact k _ ((Fx.same ((s1.trans s2).trans s3)).trans f4) d4
abbrev s_Days___eq__ : Stmt := inClass (topS 28) 4
theorem sc_Days___eq__ : FnScope ["self", "other"] ["self", "other"] (defScope s_Days___eq__) := ⟨rfl, rfl, rfl, by decide +kernel, rfl, by decide +kernel, by decide +kernel⟩
theorem ok_eq {c_Days f : Addr} {fd : FuncData} (T : DaysT K c_Days) (Z : DaysK K c_Days) (F : FunD K "__eq__" "Days.__eq__" (defArgs s_Days___eq__) (defBody s_Days___eq__) (defScope s_Days___eq__) [] [] f fd) (g_Days : mg "Days" = some (.ref c_Days)) (n_isinstance : mg "isinstance" = none) : FnG P w K mg base CX0 1 f fd ["self", "other"] (spEqD K c_Days) := by
  refine okG (k := 0) F sc_Days___eq__ (fun vs H Q E h => ?_) (fun cdv A hG outer s H vs Q E hr h => ?_)
  · obtain ⟨a, b, c, d, e, f, rfl, _⟩ := h
    rfl
  · obtain ⟨n, a, y, rs, ts, d, rfl, ha, hy, k⟩ := h
    refine ⟨_, (pss_cons (ps_if (pt_not (pt_val (pe_callB (k_isi K) (by rfl) n_isinstance bt_isinstance (pa_cons (pv 1) (pa_cons (pe_glob (v := .ref c_Days) (by rfl) g_Days rfl) pa_nil))))) (pss_one (ps_ret pe_bl)) pss_nil) (pss_one (ps_ret (pe_and (pe_cmpR (k_eq K hr) (k_fld K (pv 0) rfl) (k_fld K (pv 1) rfl) (nomark _)) (pe_one (pe_cmpR (k_eq K hr) (k_fld K (pv 0) rfl) (k_fld K (pv 1) rfl) (nomark _))))))), ?_⟩
    wtm_at "v"
    rcases wat_ty hy with ⟨p, rs', ts', rfl, rfl, hb⟩ | ⟨hw, t, ht, ty⟩
    · obtain ⟨dx, r, m, t, e1, e2, _, e4⟩ := ha.ex
      obtain ⟨dx', r', m', t', f1, f2, _, f4⟩ := hb.ex
      refine ⟨.ref p, .ref c_Days, .ref c_Days, .ref c_Days, true, rfl, .own _, .base (.ins f1 T.cls Z.ha Z.hn Z.ht Z.hm), Z.kO, ?_⟩
      wtm_at "v"
      refine i_fldA (K := K) ?_
      wtm_at "v"
      refine i_fldG e1 T.cls T.nR (lkR _ _) ?_
      wtm_at "v"
      refine i_fldA (K := K) ?_
      wtm_at "v"
      refine i_fldG f1 T.cls T.nR (lkR _ _) ?_
      refine i_eqD (.tup e2.sq (dpBools _)) (.tup f2.sq (dpBools _)) (Sh.shaped (n := 9) (.tup (shBools _)) (by decide)) (Sh.shaped (n := 9) (.tup (shBools _)) (by decide)) ?_
      simp only [PyData.eqv]
      rw [eqvAll_bl]
      wtm_at "v"
      with_reducible refine ite_d (fun c => ?_) (fun c => ?_)
      · refine i_op ?_
        refine i_fldA (K := K) ?_
        wtm_at "v"
        refine i_fldG e1 T.cls T.nT (lkT _ _ _ _) ?_
        refine i_fldA (K := K) ?_
        wtm_at "v"
        refine i_fldG f1 T.cls T.nT (lkT _ _ _ _) ?_
        refine i_eqD (.tup e4.sq (dpInts _)) (.tup f4.sq (dpInts _)) (Sh.shaped (n := 9) (.tup (ShAll.ints _)) (by decide)) (Sh.shaped (n := 9) (.tup (ShAll.ints _)) (by decide)) ?_
        simp only [PyData.eqv]
        rw [eqvAll_in]
        have e : weq (.days rs ts) (.days rs' ts') = decide (ts = ts') := by
          subst c
          simp only [weq, beq_self_eq_true, Bool.true_and]
          by_cases h : ts = ts'
          · subst h; simp
          · simp [h]
        rw [e] at k
        exact k _ (Same.refl _)
      · have e : weq (.days rs ts) (.days rs' ts') = false := by simp [weq, c]
        rw [e] at k
        exact k _ (Same.refl _)
    · refine ⟨y, .ref c_Days, .type t, .ref c_Days, false, rfl, .own _, ty, Z.kN t ht, ?_⟩
      wtm_at "v"
      rw [hw] at k
      exact k _ (Same.refl _)
end
section
/-! ### rests and turned days, drawn: plain and promises -/
theorem bt_dict : bootBuiltins "dict" = some (.type "dict") := by decide +kernel
def bI (b : Bool) : Int := if b = true then 1 else 0
def bV (b : Bool) : V := .int (bI b)
theorem bI_of {d : Int} (h0 : 0 ≤ d) (h1 : d < 2) : d = bI (decide (d = 1)) := by
  unfold bI
  by_cases c : d = 1
  · simp [c]
  · have : d = 0 := by omega
    simp [this]
theorem fx_new {H H1 H2 : Hp} {m n p : Addr} (nw : New H p) (f : Fx m n H H1) (g : Fx p p H1 H2) : Fx m n H H2 := ⟨fun b o h h1 h2 => by
  have hb : b ≠ p := fun e => by subst e; rw [show H b = none from nw] at h; cases h
  exact g.oth b o (f.oth b o h h1 h2) hb hb, fun b xs h => g.tup b xs (f.tup b xs h)⟩
theorem new_back {H H' : Hp} {st r : Addr} {n : Nat} (S : StoreAt H' st st n) (f : Fx st st H H') (nr : New H' r) : New H r := by
  cases e : H r with
  | none => exact e
  | some o =>
    have ne : r ≠ st := st_ne1 nr S
    have := f.oth _ _ e ne ne
    rw [show H' r = none from nr] at this
    cases this
theorem new_same {H H' : Hp} {r : Addr} (e : Same H H') (nr : New H' r) : New H r := by
  cases h : H r with
  | none => exact h
  | some o =>
    have := e _ _ h
    rw [show H' r = none from nr] at this
    cases this
theorem step_one {r m c : Int} (hm : 2 ≤ m) (h1 : r % m = c) (h2 : (r + 1) % m = c) : False := by
  have e := Int.emod_add_mul_ediv r m
  have e' := Int.emod_add_mul_ediv (r + 1) m
  rw [h1] at e
  rw [h2] at e'
  have k : m * ((r + 1) / m - r / m) = 1 := by rw [Int.mul_sub]; omega
  have := Int.le_of_dvd (a := m) (b := 1) (by decide) ⟨_, k.symm⟩
  omega
theorem map_flat {α β : Type} (f : α → β) (k : Nat) (l : List α) : (List.replicate k (l.map f)).flatten = ((List.replicate k l).flatten).map f := by
  rw [List.map_flatten, List.map_replicate]
theorem marks_count : ∀ (k : Nat) (bs : List Bool), (marksFrom k bs).length = bs.countP id
  | _, [] => rfl
  | k, b :: l => by
    have := marks_count (k + 1) l
    unfold marksFrom
    cases b <;> simp [this]
theorem half_count (f : Nat → Bool) (h : ∀ r, f r = true → f (r + 1) = false) : ∀ N : Nat, ((List.range N).map f).countP id ≤ (N + 1) / 2
  | 0 => by simp
  | 1 => by
    have := List.countP_le_length (p := id) (l := (List.range 1).map f)
    simp at this ⊢
    omega
  | N + 2 => by
    have ih := half_count f h N
    rw [List.range_succ, List.range_succ, List.map_append, List.map_append, List.countP_append, List.countP_append]
    have : List.countP id ([N].map f) + List.countP id ([N + 1].map f) ≤ 1 := by
      have := h N
      simp only [List.map_cons, List.map_nil, List.countP_cons, List.countP_nil, id]
      cases e : f N with
      | false => simp; split <;> omega
      | true => rw [this e]; simp
    omega
structure Rests (bs : List Bool) : Prop where
  l0 : 1 ≤ bs.length
  l1 : bs.length ≤ 5040
  mc : (marksFrom 0 bs).length ≤ 2600
theorem Rests.small {bs : List Bool} (h0 : 1 ≤ bs.length) (h1 : bs.length ≤ 2600) : Rests bs := ⟨h0, by omega, by have := marks_len 0 bs; omega⟩
structure Turn (ts : List Int) : Prop where
  nd : ts.Nodup
  len : ts.length ≤ 60
  rng : ∀ t ∈ ts, -1000000000000002000 ≤ t ∧ t ≤ 1000000000000002000
theorem turn_nodup {b d c : Int} (hd : d = 1 ∨ d = -1) (c0 : 1 ≤ c) (c1 : c ≤ 40) : ((List.range 60).map fun k : Nat => b + d * (((k : Int) * c * 7) % 997)).Nodup := by
  have key : ∀ j, j < 60 → ∀ e, e < 41 → 1 ≤ j → 1 ≤ e → (j * e * 7) % 997 ≠ 0 := by decide +kernel
  rw [List.Nodup, List.pairwise_map]
  refine List.Pairwise.imp_of_mem ?_ (List.pairwise_lt_range (n := 60))
  intro i j hi hj hij e
  have hi : i < 60 := List.mem_range.mp hi
  have hj : j < 60 := List.mem_range.mp hj
  have e2 : ((i : Int) * c * 7) % 997 = ((j : Int) * c * 7) % 997 := by rcases hd with rfl | rfl <;> omega
  obtain ⟨m, rfl⟩ : ∃ m : Nat, c = m := ⟨c.toNat, by omega⟩
  have k := key (j - i) (by omega) m (by omega) (by omega) (by omega)
  have e3 : (((j : Int) - i) * m * 7) % 997 = 0 := by
    have : ((j : Int) - i) * m * 7 = (j : Int) * m * 7 - (i : Int) * m * 7 := by rw [Int.sub_mul, Int.sub_mul]
    rw [this]
    omega
  apply k
  have e4 : (((j - i : Nat) : Int) * m * 7) % 997 = 0 := by
    rw [Int.ofNat_sub (by omega)]
    exact e3
  exact_mod_cast e4
/-- rests and turned days as handed about: a tuple of two lists, apart from the reel -/
structure Given (K : PySem.W.Frag) (H : Hp) (st g : Addr) (bs : List Bool) (ts : List Int) : Prop where
  ex : ∃ a b, Tp K H g [.ref a, .ref b] ∧ H a = some (.lst (bs.map bV)) ∧ H b = some (.lst (ts.map V.int)) ∧ a ≠ st ∧ b ≠ st
  rs : Rests bs
  tn : Turn ts
theorem Given.same {K : PySem.W.Frag} {H H' : Hp} {st g : Addr} {bs : List Bool} {ts : List Int} (h : Given K H st g bs ts) (e : Same H H') : Given K H' st g bs ts := let ⟨a, b, h1, h2, h3, h4, h5⟩ := h.ex; ⟨⟨a, b, Tp.mono e h1, e _ _ h2, e _ _ h3, h4, h5⟩, h.rs, h.tn⟩
theorem Given.fx {K : PySem.W.Frag} {H H' : Hp} {st g : Addr} {bs : List Bool} {ts : List Int} {n : Nat} (h : Given K H st g bs ts) (S : StoreAt H st st n) (f : Fx st st H H') : Given K H' st g bs ts := let ⟨a, b, h1, h2, h3, h4, h5⟩ := h.ex; ⟨⟨a, b, h1.tw (tw_st f S), f.oth _ _ h2 h4 h4, f.oth _ _ h3 h5 h5, h4, h5⟩, h.rs, h.tn⟩
def spBits : Sp := fun vs H Q _ => ∃ st n, ∃ m : Int, vs = [.ref st, .int m] ∧ StoreAt H st st n ∧ n ≤ 70000000 ∧ 0 ≤ m ∧ m ≤ 100 ∧ ∀ p (bs : List Bool) H', New H p → H' p = some (.lst (bs.map bV)) → (bs.length : Int) = m → StoreAt H' st st (n + 100) → Fx st st H H' → Q (.ref p) H'
theorem c_bits {st : Addr} {n : Nat} {m : Int} {H : Hp} {Q : VK} {E : XK} (S : StoreAt H st st n) (hn : n ≤ 70000000) (h0 : 0 ≤ m) (h1 : m ≤ 100) (k : ∀ p (bs : List Bool) H', New H p → H' p = some (.lst (bs.map bV)) → (bs.length : Int) = m → StoreAt H' st st (n + 100) → Fx st st H H' → Q (.ref p) H') : spBits ([.ref st, .int m] ++ []) H Q E := ⟨st, n, m, rfl, S, hn, h0, h1, k⟩
def spRests : Sp := fun vs H Q _ => ∃ st n, vs = [.ref st] ∧ StoreAt H st st n ∧ n ≤ 60000000 ∧ ∀ p (bs : List Bool) H', New H p → H' p = some (.lst (bs.map bV)) → Rests bs → StoreAt H' st st (n + 200) → Fx st st H H' → Q (.ref p) H'
theorem c_rests {st : Addr} {n : Nat} {H : Hp} {Q : VK} {E : XK} (S : StoreAt H st st n) (hn : n ≤ 60000000) (k : ∀ p (bs : List Bool) H', New H p → H' p = some (.lst (bs.map bV)) → Rests bs → StoreAt H' st st (n + 200) → Fx st st H H' → Q (.ref p) H') : spRests ([.ref st] ++ []) H Q E := ⟨st, n, rfl, S, hn, k⟩
def spUnlike : Sp := fun vs H Q _ => ∃ (a : Addr) (ns : List Int), vs = [.ref a] ∧ H a = some (.lst (ns.map V.int)) ∧ ns.length ≤ 4000 ∧ ∀ p H', New H p → Same H H' → H' p = some (.lst ((undup ns).map V.int)) → Q (.ref p) H'
theorem c_unlike {a : Addr} {ns : List Int} {H : Hp} {Q : VK} {E : XK} (h : H a = some (.lst (ns.map V.int))) (hl : ns.length ≤ 4000) (k : ∀ p H', New H p → Same H H' → H' p = some (.lst ((undup ns).map V.int)) → Q (.ref p) H') : spUnlike ([.ref a] ++ []) H Q E := ⟨a, ns, rfl, h, hl, k⟩
def spTurned : Sp := fun vs H Q _ => ∃ st n, vs = [.ref st] ∧ StoreAt H st st n ∧ n ≤ 60000000 ∧ ∀ p (ts : List Int) H', New H p → H' p = some (.lst (ts.map V.int)) → Turn ts → StoreAt H' st st (n + 100) → Fx st st H H' → Q (.ref p) H'
theorem c_turned {st : Addr} {n : Nat} {H : Hp} {Q : VK} {E : XK} (S : StoreAt H st st n) (hn : n ≤ 60000000) (k : ∀ p (ts : List Int) H', New H p → H' p = some (.lst (ts.map V.int)) → Turn ts → StoreAt H' st st (n + 100) → Fx st st H H' → Q (.ref p) H') : spTurned ([.ref st] ++ []) H Q E := ⟨st, n, rfl, S, hn, k⟩
def spGiven (K : PySem.W.Frag) : Sp := fun vs H Q _ => ∃ st n, vs = [.ref st] ∧ StoreAt H st st n ∧ n ≤ 50000000 ∧ ∀ g bs ts H', New H g → Given K H' st g bs ts → StoreAt H' st st (n + 400) → Fx st st H H' → Q (.ref g) H'
theorem c_given {K : PySem.W.Frag} {st : Addr} {n : Nat} {H : Hp} {Q : VK} {E : XK} (S : StoreAt H st st n) (hn : n ≤ 50000000) (k : ∀ g bs ts H', New H g → Given K H' st g bs ts → StoreAt H' st st (n + 400) → Fx st st H H' → Q (.ref g) H') : spGiven K ([.ref st] ++ []) H Q E := ⟨st, n, rfl, S, hn, k⟩
def spMarks : Sp := fun vs H Q _ => ∃ (a : Addr) (bs : List Bool), vs = [.ref a] ∧ H a = some (.lst (bs.map bV)) ∧ bs.length ≤ 50000 ∧ ∀ p H', New H p → Same H H' → H' p = some (.lst ((marksFrom 0 bs).map V.int)) → Q (.ref p) H'
theorem c_marks {a : Addr} {bs : List Bool} {H : Hp} {Q : VK} {E : XK} (h : H a = some (.lst (bs.map bV))) (hl : bs.length ≤ 50000) (k : ∀ p H', New H p → Same H H' → H' p = some (.lst ((marksFrom 0 bs).map V.int)) → Q (.ref p) H') : spMarks ([.ref a] ++ []) H Q E := ⟨a, bs, rfl, h, hl, k⟩
/-- whether a day is in by the rests -/
def rIn (rs : List Bool) (d : Int) : Bool := rs.getD (d % rs.length).toNat false
def dIn (rs : List Bool) (ts : List Int) (d : Int) : Bool := rIn rs d != decide (d ∈ ts)
theorem rIn_get {rs : List Bool} (h : 1 ≤ rs.length) (d : Int) : rs[(d % rs.length).toNat]? = some (rIn rs d) := by
  have h1 := Int.emod_nonneg d (b := (rs.length : Int)) (by omega)
  have h2 := Int.emod_lt_of_pos d (b := (rs.length : Int)) (by omega)
  have : (d % rs.length).toNat < rs.length := by omega
  unfold rIn
  rw [List.getD_eq_getElem?_getD, List.getElem?_eq_getElem this]
  rfl
def spIn (K : PySem.W.Frag) : Sp := fun vs H Q _ => ∃ st g bs ts d, vs = [.ref g, .int d] ∧ Given K H st g bs ts ∧ Q (.bl (dIn bs ts d)) H
theorem c_in {K : PySem.W.Frag} {st g : Addr} {bs : List Bool} {ts : List Int} {d : Int} {H : Hp} {Q : VK} {E : XK} (h : Given K H st g bs ts) (k : Q (.bl (dIn bs ts d)) H) : spIn K ([.ref g, .int d] ++ []) H Q E := ⟨st, g, bs, ts, d, rfl, h, k⟩
def spPut (K : PySem.W.Frag) (C : Addr) : Sp := fun vs H Q _ => ∃ st g bs ts, vs = [.ref g] ∧ Given K H st g bs ts ∧ ∀ s H', New H s → Same H H' → DaysAt K C H' s (leastR bs) (upr ts) → Q (.ref s) H'
theorem c_put {K : PySem.W.Frag} {C st g : Addr} {bs : List Bool} {ts : List Int} {H : Hp} {Q : VK} {E : XK} (h : Given K H st g bs ts) (k : ∀ s H', New H s → Same H H' → DaysAt K C H' s (leastR bs) (upr ts) → Q (.ref s) H') : spPut K C ([.ref g] ++ []) H Q E := ⟨st, g, bs, ts, rfl, h, k⟩
def spAbout (K : PySem.W.Frag) : Sp := fun vs H Q _ => ∃ st n g bs ts, vs = [.ref st, .ref g] ∧ StoreAt H st st n ∧ n ≤ 60000000 ∧ Given K H st g bs ts ∧ ∀ p (ds : List Int) H', New H p → H' p = some (.lst (ds.map V.int)) → 7 ≤ ds.length → ds.length ≤ 10 → (∀ d ∈ ds, -999999999999999961 ≤ d ∧ d ≤ 999999999999999961) → StoreAt H' st st (n + 20) → Fx st st H H' → Q (.ref p) H'
theorem c_about {K : PySem.W.Frag} {st g : Addr} {n : Nat} {bs : List Bool} {ts : List Int} {H : Hp} {Q : VK} {E : XK} (S : StoreAt H st st n) (hn : n ≤ 60000000) (h : Given K H st g bs ts) (k : ∀ p (ds : List Int) H', New H p → H' p = some (.lst (ds.map V.int)) → 7 ≤ ds.length → ds.length ≤ 10 → (∀ d ∈ ds, -999999999999999961 ≤ d ∧ d ≤ 999999999999999961) → StoreAt H' st st (n + 20) → Fx st st H H' → Q (.ref p) H') : spAbout K ([.ref st, .ref g] ++ []) H Q E := ⟨st, n, g, bs, ts, rfl, S, hn, h, k⟩
/-- the rests by the marks are the rests -/
theorem marks_mem : ∀ (k : Nat) (bs : List Bool) (i : Int), i ∈ marksFrom k bs ↔ ∃ j : Nat, bs[j]? = some true ∧ i = ((k + j : Nat) : Int)
  | _, [], i => by simp [marksFrom]
  | k, b :: l, i => by
    have ih := marks_mem (k + 1) l i
    unfold marksFrom
    constructor
    · intro h
      have : (b = true ∧ i = k) ∨ i ∈ marksFrom (k + 1) l := by
        split at h
        · rename_i e
          rcases List.mem_cons.mp h with h | h
          · exact .inl ⟨e, h⟩
          · exact .inr h
        · exact .inr h
      rcases this with ⟨e, h⟩ | h
      · exact ⟨0, by simp [e], by rw [h]; rfl⟩
      · obtain ⟨j, hj, e⟩ := ih.mp h
        exact ⟨j + 1, by simpa using hj, by rw [e]; congr 1; omega⟩
    · rintro ⟨j, hj, e⟩
      cases j with
      | zero =>
        have : b = true := by simpa using hj
        rw [if_pos this, e]
        exact List.mem_cons_self
      | succ j =>
        have h := ih.mpr ⟨j, by simpa using hj, by rw [e]; congr 1; omega⟩
        split
        · exact List.mem_cons_of_mem _ h
        · exact h
theorem rests_marks (bs : List Bool) : restsOf bs.length (marksFrom 0 bs) = bs := by
  apply List.ext_getElem?
  intro i
  unfold restsOf
  rw [List.getElem?_map]
  by_cases h : i < bs.length
  · rw [List.getElem?_range h, List.getElem?_eq_getElem h]
    simp only [Option.map_some, Option.some.injEq]
    have := marks_mem 0 bs (i : Int)
    cases e : bs[i] with
    | true => exact decide_eq_true (this.mpr ⟨i, by rw [List.getElem?_eq_getElem h, e], by simp⟩)
    | false =>
      refine decide_eq_false fun z => ?_
      obtain ⟨j, hj, ej⟩ := this.mp z
      have : j = i := by simp at ej; omega
      subst this
      rw [List.getElem?_eq_getElem h, e] at hj
      cases hj
  · rw [List.getElem?_eq_none (by simpa using h), List.getElem?_eq_none (by omega)]
    rfl
theorem marks_nodup : ∀ (k : Nat) (bs : List Bool), (marksFrom k bs).Nodup
  | _, [] => List.nodup_nil
  | k, b :: l => by
    have ih := marks_nodup (k + 1) l
    unfold marksFrom
    split
    · refine List.nodup_cons.mpr ⟨fun z => ?_, ih⟩
      obtain ⟨j, _, e⟩ := (marks_mem (k + 1) l _).mp z
      omega
    · exact ih
theorem days_in {bs : List Bool} {ts : List Int} (h : Rests bs) (t : Turn ts) : DaysIn bs.length (marksFrom 0 bs) ts := by
  have := h.l0
  have := h.l1
  have := h.mc
  refine ⟨by omega, by omega, by omega, marks_nodup 0 bs, fun m hm => ?_, t.nd, t.len⟩
  obtain ⟨j, hj, e⟩ := (marks_mem 0 bs m).mp hm
  have := (List.getElem?_eq_some_iff.mp hj).1
  omega
end
section
/-! ### the steps as one word: wtm_at "v1" a step, wtm_at "v" as many as go -/
local macro_rules | `(tactic| wtm_at "tm") => `(tactic| first
  | exact Tm.refl _
  | exact Tm.same (by with_reducible assumption)
  | exact Tm.fx (by with_reducible assumption)
  | (refine Tm.trans ?_ (Tm.same (by with_reducible assumption)); wtm_at "tm")
  | (refine Tm.trans ?_ (Tm.fx (by with_reducible assumption)); wtm_at "tm") | fail)
local macro_rules | `(tactic| wtm_at "lkT1") => `(tactic| first
  | with_reducible assumption
  | exact TpK.tp (by with_reducible assumption)
  | exact TpH.tm (by with_reducible assumption) (by wtm_at "tm")
  | exact Tp.tm (by with_reducible assumption) (by wtm_at "tm")
  | exact Tp.of (by with_reducible assumption) | fail)
local macro_rules | `(tactic| wtm_at "lkT") => `(tactic| first
  | wtm_at "lkT1"
  | fail)
local macro_rules | `(tactic| wtm_at "lk") => `(tactic| first
  | assumption
  | exact b_get (by assumption) (by wtm_at "lk")
  | exact b_lst (by assumption) (by wtm_at "ne") (by wtm_at "ne") (by wtm_at "lk") | fail)
local macro_rules | `(tactic| wtm_at "lkL") => `(tactic| first
  | assumption
  | exact SqL.of (by wtm_at "lk")
  | exact b_L (by assumption) (by wtm_at "lkL") | fail)
local macro_rules | `(tactic| wtm_at "intL") => `(tactic| first | exact IntL.nil | exact IntL.cons (by wtm_at "intL") | fail)
local macro_rules | `(tactic| wtm_at "lkS0") => `(tactic| first
  | with_reducible assumption
  | exact StoreAt.same (by with_reducible assumption) (by wtm_at "lkS0") | fail)
local macro_rules | `(tactic| wtm_at "lkS") => `(tactic| first
  | with_reducible assumption
  | exact StoreAt.from (by with_reducible assumption) (by wtm_at "sm") | fail)
local macro_rules | `(tactic| wtm_at "ne") => `(tactic| first
  | assumption
  | exact Ne.symm (by assumption)
  | exact st_ne1 (by with_reducible assumption) (by wtm_at "lkS0")
  | exact st_ne2 (by with_reducible assumption) (by wtm_at "lkS0")
  | exact new_ne (by assumption) (by wtm_at "lk")
  | exact new_ne' (by assumption) (by wtm_at "lk") | fail)
local macro_rules | `(tactic| wtm_at "sm") => `(tactic| first
  | with_reducible assumption
  | exact Same.refl _
  | (refine Same.trans ?_ (by with_reducible assumption); wtm_at "sm") | fail)
local macro_rules | `(tactic| wtm_at "fx") => `(tactic| first
  | with_reducible assumption
  | exact Fx.same (Same.refl _)
  | exact Fx.same (by with_reducible assumption)
  | (refine Fx.trans ?_ (by with_reducible assumption); wtm_at "fx")
  | (refine Fx.trans ?_ (Fx.same (by with_reducible assumption)); wtm_at "fx") | fail)
local macro_rules | `(tactic| wtm_at "v0") => `(tactic| first
  | with_reducible refine i_seq ?_ | with_reducible refine i_asg ?_ | with_reducible refine i_var rfl ?_ | with_reducible refine i_c ?_ | with_reducible refine i_name ?_
  | with_reducible refine i_op ?_ | with_reducible refine i_ifS ?_ | with_reducible refine i_test ?_ | with_reducible refine i_tB ?_
  | with_reducible refine i_cons ?_ | with_reducible refine i_nil ?_ | with_reducible refine i_call ?_ | with_reducible refine i_callN ?_ | with_reducible refine i_callX ?_ | with_reducible refine i_callNX ?_ | with_reducible refine i_cb ?_
  | with_reducible refine i_tup ?_ | with_reducible refine i_lst ?_ | with_reducible refine i_ret ?_ | with_reducible refine i_retN ?_ | with_reducible refine i_drop ?_
  | with_reducible refine i_next ?_ | with_reducible refine i_par ?_ | with_reducible refine i_par2 ?_ | with_reducible refine i_ifE ?_ | with_reducible refine i_un ?_
  | with_reducible refine i_and ?_ | with_reducible refine i_or ?_ | with_reducible refine i_not ?_ | with_reducible refine i_andV ?_ | with_reducible refine i_orV ?_ | with_reducible refine i_notV ?_
  | with_reducible refine i_notV2 ?_ | with_reducible refine i_bif (A := fun _ => _) ?_ | with_reducible refine i_brk ?_ | with_reducible refine i_ctn ?_
  | with_reducible refine i_abs ?_ | with_reducible refine i_min ?_ | with_reducible refine i_max ?_ | with_reducible refine i_for ?_ | with_reducible refine i_iR1 ?_ | with_reducible refine i_iR2 ?_ | with_reducible refine i_iL ?_ | with_reducible refine i_iT ?_ | with_reducible refine i_wb ?_
  | with_reducible refine i_sl ?_ | with_reducible refine i_no ?_ | with_reducible refine i_so ?_ | with_reducible refine i_exI ?_ | with_reducible refine i_exB ?_ | with_reducible refine i_gcons ?_ | with_reducible refine i_gnil ?_ | with_reducible refine i_bm ?_ | with_reducible refine i_gsub ?_ | with_reducible refine i_lc ?_ | with_reducible refine i_yes ?_ | with_reducible refine i_iE ?_
  | with_reducible refine ite_1 ?_ | with_reducible refine i_pow6 ?_ | with_reducible refine i_pow18 ?_ | with_reducible refine i_pow30 ?_
  | with_reducible refine i_addI ?_ | with_reducible refine i_I0 ?_ | with_reducible refine i_U ?_ | with_reducible refine i_eqI ?_ | with_reducible refine i_neI ?_ | fail)
local macro_rules | `(tactic| wtm_at "v1") => `(tactic| first
  | wtm_at "v0"
  | ((with_reducible show rIx _ _ _ _ _); first | refine i_ixT (by wtm_at "lkT") rfl ?_ | refine i_ixL (by wtm_at "lkL") rfl ?_)
  | ((with_reducible show rLenU _ _ _ _); first | refine i_lenT (by wtm_at "lkT") ?_ | refine i_lenL (by wtm_at "lkL") ?_)
  | ((with_reducible show spDraw _ _ _ _); refine c_draw (by wtm_at "lkS") (by first | decide | omega) (by first | decide | omega) (by omega) ?_; intro _ _ _ _ _ _)
  | (with_reducible refine i_newTH (by first | decide | (simp; done)) ?_; intro _ _ _ _ _)
  | (with_reducible refine i_newL (by first | decide | (simp; done)) ?_; intro _ _ _ _ _) | fail)
local macro_rules | `(tactic| wtm_at "v") => `(tactic| repeat wtm_at "v1")
local macro_rules | `(tactic| wtm_at "vi") => `(tactic| repeat ((fail_if_success (with_reducible show tIfS _ _ _ _ _ _)); wtm_at "v1"))
local macro_rules | `(tactic| wtm_at "v0") => `(tactic| first | with_reducible refine ite_0 ?_ | with_reducible refine ite_n0 ?_ | with_reducible refine ite_n1 ?_ | fail)
local macro_rules | `(tactic| wtm_at "v1") => `(tactic| first
  | ((with_reducible refine i_mulI ?hm ?_); (case hm => exact wide_mul (a := 128) (b := 128) (by omega) (by omega) (by decide) (by decide) (by decide)))
  | ((with_reducible refine i_mod ?hm ?_); (case hm => first | decide | omega); intro _ _ _ _) | fail)
variable {P : Program} {w : World} {K : PySem.W.Frag} {mg : Str → Option Value} {base : Heap}
theorem i_inS {K : PySem.W.Frag} {H : Hp} {Q : VK} {q : Addr} {t : Bool} {off : List Int} {k : Int} (h : SqV K H q t (off.map V.int)) (kk : Q (.bl (decide (k ∈ off))) H) : L2.rIn K false (.int k) (.ref q) H Q := by
  refine ⟨q, off.map V.int, rfl, h.or.imp id Tp.sq, rfl, by rw [List.all_map]; exact List.all_eq_true.mpr fun _ _ => rfl, ?_⟩
  have e : ∀ off : List Int, inV (.int k) (off.map V.int) = decide (k ∈ off) := fun off => by
    induction off with
    | nil => rfl
    | cons a l ih =>
      show (eqV (.int a) (.int k) || inV (.int k) (l.map V.int)) = _
      rw [ih]
      simp only [eqV]
      by_cases h : a = k
      · subst h; simp
      · have : (a == k) = false := by simpa using h
        rw [this]
        simp [Ne.symm h]
  show Q (.bl (inV (.int k) (off.map V.int))) H
  rw [e]
  exact kk
theorem i_neBB {K : PySem.W.Frag} {H : Hp} {Q : VK} {a b : Bool} (h : Q (.bl (a != b)) H) : rNeU K (.bl a) (.bl b) H Q := by
  refine .inl ⟨rfl, ?_⟩
  rw [show (!decide (V.bl a = V.bl b)) = (a != b) by cases a <;> cases b <;> simp]
  exact h
abbrev s_law_bits : Stmt := topS 32
theorem sc_law_bits : FnScope ["_law_reel_here", "_law_many", "_law_turn"] ["_law_reel_here", "_law_many"] (defScope s_law_bits) := ⟨rfl, rfl, rfl, by decide +kernel, rfl, by decide +kernel, by decide +kernel⟩
theorem ok_bits {f : Addr} {fd : FuncData} (F : FunD K "_law_bits" "_law_bits" (defArgs s_law_bits) (defBody s_law_bits) (defScope s_law_bits) [] [] f fd) (O_law_draw : Own P w K mg base CX0 1 "_law_draw" ["_law_reel_here", "_law_many"] [] spDraw) (n_range : mg "range" = none) : FnG P w K mg base CX0 2 f fd ["_law_reel_here", "_law_many"] spBits := by
  refine okG (k := 1) F sc_law_bits (fun vs H Q E h => ?_) (fun cdv A hG outer s H vs Q E hr h => ?_)
  · obtain ⟨a, b, c, rfl, _⟩ := h
    rfl
  · obtain ⟨st, n, m, rfl, S, hn, h0, h1, k⟩ := h
    refine ⟨_, (pss_one (ps_ret (pe_lc (own := [("_law_turn", 2)]) rfl sc_law_bits.nd (pi_range1 (by rfl) n_range (pa_cons (pv 1) pa_nil)) (blkOk_by (N := ["_law_reel_here", "_law_many", "_law_turn"]) (sc := defScope s_law_bits) (by decide +kernel)) (fun _ _ _ _ _ => (pg_name (i := 2) sc_law_bits.nd rfl (Or.inl rfl))) (fun _ _ _ _ _ => pts_nil) (fun _ _ _ _ _ => (pe_own O_law_draw hG (hr.mono (by decide)) pass0 (pa_cons (pv 0) (pa_cons pe_int pa_nil))))))), ?_⟩
    wtm_at "v"
    refine i_rng1 (by omega) (by omega) ?_
    refine i_lcGR (fun A j H' => ∃ bs : List Bool, H' A = some (.lst (bs.map bV)) ∧ bs.length = j ∧ StoreAt H' st st (n + j) ∧ Fx st st H H') (fun A nA => ⟨[], upd_same, rfl, (S.same (same_new nA)).mono (by omega), Fx.same (same_new nA)⟩) ?_ ?_
    · rintro A j H1 nA hj ⟨bs, hA, lb, S1, F1⟩
      have ne : A ≠ st := st_ne1 nA S
      wtm_at "v"
      refine ⟨rfl, ?_⟩
      wtm_at "v"
      rename_i d H2 d0 d1 S2 F2
      have hA2 := F2.oth _ _ hA ne ne
      refine ⟨_, hA2, Nat.lt_of_le_of_lt (by rw [List.length_map]; omega : _ ≤ 100000) (by decide), bs ++ [decide (d = 1)], ?_, by simp [lb], (S2.fxn ne (fx_upd hA2)).mono (by omega), fx_new nA (F1.trans F2) (fx_upd hA2)⟩
      rw [upd_same, List.map_append]
      rw [List.map_singleton, show bV (decide (d = 1)) = V.int d by unfold bV; rw [← bI_of d0 d1]]
    · rintro A H1 nA ⟨bs, hA, lb, S1, F1⟩
      exact k A bs H1 nA hA (by omega) (S1.mono (by omega)) F1
abbrev s_law_rests : Stmt := topS 33
theorem sc_law_rests : FnScope ["_law_reel_here", "_law_way", "_law_some", "_law_over", "_law_at", "_law_by", "_law_period", "_law_rest"] ["_law_reel_here"] (defScope s_law_rests) := ⟨rfl, rfl, rfl, by decide +kernel, rfl, by decide +kernel, by decide +kernel⟩
theorem ok_rests {f : Addr} {fd : FuncData} (F : FunD K "_law_rests" "_law_rests" (defArgs s_law_rests) (defBody s_law_rests) (defScope s_law_rests) [] [] f fd) (O_law_draw : Own P w K mg base CX0 1 "_law_draw" ["_law_reel_here", "_law_many"] [] spDraw) (O_law_bits : Own P w K mg base CX0 2 "_law_bits" ["_law_reel_here", "_law_many"] [] spBits) (n_range : mg "range" = none) (n_len : mg "len" = none) (n_int : mg "int" = none) : FnG P w K mg base CX0 3 f fd ["_law_reel_here"] spRests := by
  refine okG (k := 2) F sc_law_rests (fun vs H Q E h => ?_) (fun cdv A hG outer s H vs Q E hr h => ?_)
  · obtain ⟨a, b, rfl, _⟩ := h
    rfl
  · obtain ⟨st, n, rfl, S, hn, k⟩ := h
    refine ⟨_, (pss_cons (ps_set (i := 1) sc_law_rests.nd rfl (Or.inl rfl) (pe_own O_law_draw hG (hr.mono (by decide)) pass0 (pa_cons (pv 0) (pa_cons pe_int pa_nil)))) (pss_cons (ps_set (i := 2) sc_law_rests.nd rfl (Or.inl rfl) (pe_own O_law_bits hG (hr.mono (by decide)) pass0 (pa_cons (pv 0) (pa_cons (pe_op (k_add K) pe_int (pe_own O_law_draw hG (hr.mono (by decide)) pass0 (pa_cons (pv 0) (pa_cons pe_int pa_nil)))) pa_nil)))) (pss_cons (ps_set (i := 3) sc_law_rests.nd rfl (Or.inl rfl) (pe_op (k_add K) pe_int (pe_own O_law_draw hG (hr.mono (by decide)) pass0 (pa_cons (pv 0) (pa_cons pe_int pa_nil))))) (pss_cons (ps_asg (pe_tup (pa_cons (pe_own O_law_draw hG (hr.mono (by decide)) pass0 (pa_cons (pv 0) (pa_cons pe_int pa_nil))) (pa_cons (pe_op (k_add K) pe_int (pe_own O_law_draw hG (hr.mono (by decide)) pass0 (pa_cons (pv 0) (pa_cons pe_int pa_nil)))) pa_nil))) (k_gt K 2 rfl (pgs_cons (pg_name (i := 4) sc_law_rests.nd rfl (Or.inr rfl)) (pgs_cons (pg_name (i := 5) sc_law_rests.nd rfl (Or.inr rfl)) pgs_nil)))) (pss_cons (ps_if (pt_cmpR op_lt (pv 1) pe_int (nomark _)) (pss_one (ps_ret (pv 2))) pss_nil) (pss_cons (ps_if (pt_cmpR (k_eq K hr) (pv 1) pe_int (nomark _)) (pss_one (ps_ret (pe_op op_mulU (pv 2) (pv 3)))) pss_nil) (pss_cons (ps_if (pt_cmpR (k_eq K hr) (pv 1) pe_int (nomark _)) (pss_cons (ps_set (i := 2) sc_law_rests.nd rfl (Or.inl rfl) (pe_op op_mulU (pv 2) (pv 3))) (pss_cons (ps_set (i := 4) sc_law_rests.nd rfl (Or.inr rfl) (pe_op op_modN (pv 4) (pe_callB (k_len K) (by rfl) n_len bt_len (pa_cons (pv 2) pa_nil)))) (pss_one (ps_ret (pe_op (k_add K) (pe_op (k_add K) (pe_slice (k_slL K) (pv 2) po_none (po_some (pv 4))) (pe_lst (pa_cons (pe_op op_sub pe_int (pe_ix (k_ix K) (pv 2) (pv 4) (fun _ _ => rfl))) pa_nil))) (pe_slice (k_slL K) (pv 2) (po_some (pe_op (k_add K) (pv 4) pe_int)) po_none)))))) pss_nil) (pss_cons (ps_if (pt_cmpR (k_eq K hr) (pv 1) pe_int (nomark _)) (pss_one (ps_ret (pe_op op_mulU (pe_lst (pa_cons (pe_op op_modN (pv 4) pe_int) pa_nil)) (pv 3)))) pss_nil) (pss_cons (ps_if (pt_cmpR (k_eq K hr) (pv 1) pe_int (nomark _)) (pss_cons (ps_set (i := 6) sc_law_rests.nd rfl (Or.inl rfl) (pe_ix (k_ix K) (pe_lst (pa_cons pe_int (pa_cons pe_int (pa_cons pe_int (pa_cons pe_int (pa_cons pe_int (pa_cons pe_int pa_nil))))))) (pe_op op_modN (pv 4) pe_int) (fun _ _ => rfl))) (pss_one (ps_ret (pe_lc (own := [("_law_rest", 7)]) rfl sc_law_rests.nd (pi_range1 (by rfl) n_range (pa_cons (pv 6) pa_nil)) (blkOk_by (N := ["_law_reel_here", "_law_way", "_law_some", "_law_over", "_law_at", "_law_by", "_law_period", "_law_rest"]) (sc := defScope s_law_rests) (by decide +kernel)) (fun _ _ _ _ _ => (pg_name (i := 7) sc_law_rests.nd rfl (Or.inl rfl))) (fun _ _ _ _ _ => pts_nil) (fun _ _ _ _ _ => (pe_callTy (call_int1) (by rfl) n_int bt_int (pa_cons (pe_cmpR (k_eq K hr) (pe_op op_modN (pv 7) (pe_op (k_add K) pe_int (pv 5))) (pe_op op_modN (pv 4) pe_int) (nomark _)) pa_nil))))))) pss_nil) (pss_cons (ps_set (i := 6) sc_law_rests.nd rfl (Or.inl rfl) (pe_ix (k_ix K) (pe_lst (pa_cons pe_int (pa_cons pe_int (pa_cons pe_int (pa_cons pe_int (pa_cons pe_int (pa_cons pe_int (pa_cons pe_int (pa_cons pe_int pa_nil))))))))) (pe_op op_modN (pv 4) pe_int) (fun _ _ => rfl))) (pss_one (ps_ret (pe_lc (own := [("_law_rest", 7)]) rfl sc_law_rests.nd (pi_range1 (by rfl) n_range (pa_cons (pv 6) pa_nil)) (blkOk_by (N := ["_law_reel_here", "_law_way", "_law_some", "_law_over", "_law_at", "_law_by", "_law_period", "_law_rest"]) (sc := defScope s_law_rests) (by decide +kernel)) (fun _ _ _ _ _ => (pg_name (i := 7) sc_law_rests.nd rfl (Or.inl rfl))) (fun _ _ _ _ _ => pts_nil) (fun _ _ _ _ _ => (pe_callTy (call_int1) (by rfl) n_int bt_int (pa_cons (pe_cmpR op_lt (pe_op op_modN (pe_op op_mulU (pv 7) (pv 5)) pe_int) (pe_op (k_add K) pe_int (pv 4)) (nomark _)) pa_nil)))))))))))))))), ?_⟩
    wtm_at "v"
    rename_i d1 H1 a1 b1 S1 F1 d2 H2 a2 b2 S2 F2
    refine c_bits S2 (by omega) (by omega) (by omega) fun p bs H3 n3 g3 l3 S3 F3 => ?_
    have F13 : True ∧ Fx st st H H3 := ⟨trivial, (F1.trans F2).trans F3⟩
    have ne : p ≠ st := st_ne1 n3 S2
    have np : New H p := by
      cases e : H p with
      | none => exact e
      | some o =>
        have := (F1.trans F2).oth _ _ e ne ne
        rw [show H2 p = none from n3] at this
        cases this
    clear F1 F2 F3 S1 S2 n3
    wtm_at "v"
    rename_i d4 H4 a4 b4 S4 F4 d5 H5 a5 b5 S5 F5 d6 H6 a6 b6 S6 F6 q7 H7 n7 s7 g7
    have F17 : True ∧ Fx st st H H7 := ⟨trivial, (((F13.2.trans F4).trans F5).trans F6).trans (Fx.same s7)⟩
    have S7 := S6.same s7
    have g37 := s7 _ _ (F6.oth _ _ (F5.oth _ _ (F4.oth _ _ g3 ne ne) ne ne) ne ne)
    clear F13 F4 F5 F6 g3 S3 S4 S5 S6 s7 n7
    have ans : ∀ r (cs : List Bool) H', New H7 r → Same H7 H' → H' r = some (.lst (cs.map bV)) → Rests cs → Q (.ref r) H' := fun r cs H' nr sr gr hc => k r cs H' (new_back S7 F17.2 nr) gr hc ((S7.same sr).mono (by omega)) (F17.2.trans (Fx.same sr))
    refine i_gtup (Tp.of g7.eq) rfl ?_
    wtm_at "v"
    with_reducible refine ite_d (fun c => ?_) (fun c => ?_)
    · wtm_at "v"
      exact k p bs H7 np g37 (Rests.small (by omega) (by omega)) (S7.mono (by omega)) F17.2
    wtm_at "v"
    with_reducible refine ite_d (fun c2 => ?_) (fun c2 => ?_)
    · wtm_at "v"
      refine i_repN g37 (by omega) (by omega) (by rw [List.length_map]; omega) fun r H8 n8 s8 g8 => ?_
      rw [map_flat] at g8
      have l8 : (List.replicate (2 + d4).toNat bs).flatten.length = (2 + d4).toNat * bs.length := by simp [List.length_flatten]
      have l9 : (2 + d4).toNat * bs.length ≤ 6 * 7 := Nat.mul_le_mul (by omega) (by omega)
      have l0 : 1 * 1 ≤ (2 + d4).toNat * bs.length := Nat.mul_le_mul (by omega) (by omega)
      exact ans r _ H8 n8 s8 g8 (Rests.small (by omega) (by omega))
    wtm_at "v"
    with_reducible refine ite_d (fun c3 => ?_) (fun c3 => ?_)
    · wtm_at "v"
      refine i_repN g37 (by omega) (by omega) (by rw [List.length_map]; omega) fun r H8 n8 s8 g8 => ?_
      rw [map_flat] at g8
      have l8 : (List.replicate (2 + d4).toNat bs).flatten.length = (2 + d4).toNat * bs.length := by simp [List.length_flatten]
      have l9 : (2 + d4).toNat * bs.length ≤ 6 * 7 := Nat.mul_le_mul (by omega) (by omega)
      have l0 : 1 * 1 ≤ (2 + d4).toNat * bs.length := Nat.mul_le_mul (by omega) (by omega)
      generalize (List.replicate (2 + d4).toNat bs).flatten = cs at *
      wtm_at "v"
      rw [List.length_map]
      refine i_mod (by omega) fun e e0 e1 _ => ?_
      obtain ⟨j, rfl⟩ : ∃ j : Nat, e = j := ⟨e.toNat, by omega⟩
      have hj : j < cs.length := by omega
      wtm_at "v"
      refine i_slL (SqL.of g8) fun q9 H9 n9 s9 g9 => ?_
      rw [cut_toN (by rw [List.length_map]; omega), ← List.map_take] at g9
      wtm_at "v"
      refine i_ixL (SqL.of (s9 _ _ g8)) (atI_nat (v := bV cs[j]) (by rw [List.getElem?_map, List.getElem?_eq_getElem hj]; rfl)) ?_
      unfold bV
      wtm_at "v"
      rename_i q10 H10 n10 s10 g10
      have g10 : H10 q10 = some (.lst ([!cs[j]].map bV)) := by
        rw [g10]
        cases cs[j] <;> rfl
      refine i_addL (s10 _ _ g9) g10 (by simp; omega) fun q11 H11 n11 s11 g11 => ?_
      wtm_at "v"
      refine i_slL (SqL.of ((s9.trans (s10.trans s11)) _ _ g8)) fun q12 H12 n12 s12 g12 => ?_
      rw [show (j : Int) + 1 = ((j + 1 : Nat) : Int) by omega, cut_fromN, ← List.map_drop] at g12
      wtm_at "v"
      refine i_addL (s12 _ _ g11) g12 (by simp; omega) fun q13 H13 n13 s13 g13 => ?_
      rw [← List.map_append, ← List.map_append] at g13
      have s813 : True ∧ Same H8 H13 := ⟨trivial, (s9.trans (s10.trans s11)).trans (s12.trans s13)⟩
      have s812 : True ∧ Same H8 H12 := ⟨trivial, (s9.trans (s10.trans s11)).trans s12⟩
      exact ans q13 _ H13 (new_same (s8.trans s812.2) n13) (s8.trans s813.2) g13 (Rests.small (by simp; omega) (by simp; omega))
    wtm_at "v"
    with_reducible refine ite_d (fun c4 => ?_) (fun c4 => ?_)
    · wtm_at "v"
      rename_i e e0 e1 _ q8 H8 n8 s8 g8
      have g8 : H8 q8 = some (.lst ([decide (e = 1)].map bV)) := by
        rw [g8]
        show _ = some (HO.lst [V.int (bI _)])
        rw [← bI_of e0 e1]
      refine i_repN g8 (by omega) (by omega) (by simp) fun r H9 n9 s9 g9 => ?_
      rw [map_flat] at g9
      have l8 : (List.replicate (2 + d4).toNat [decide (e = 1)]).flatten.length = (2 + d4).toNat := by simp [List.length_flatten]
      exact ans r _ H9 (new_same s8 n9) (s8.trans s9) g9 (Rests.small (by omega) (by omega))
    wtm_at "v"
    with_reducible refine ite_d (fun c5 => ?_) (fun c5 => ?_)
    · wtm_at "v"
      rename_i q8 H8 n8 s8 g8 e e0 e1 _
      refine i_ixN (SqL.of g8) (ns := [5040, 2520, 4999, 1008, 720, 97]) rfl e0 (by simpa using e1) fun N hN => ?_
      have hN2 : 97 ≤ N ∧ N ≤ 5040 := by
        have : ∀ z ∈ [(5040 : Int), 2520, 4999, 1008, 720, 97], 97 ≤ z ∧ z ≤ 5040 := by decide
        exact this N hN
      wtm_at "v"
      refine i_rng1 (by omega) (by omega) ?_
      refine i_lcR (fun i => ((List.range i).map fun r : Nat => bV (decide ((r : Int) % (13 + (1 + d6)) = d5 % 13)))) rfl ?_ ?_
      · intro A i H' nA hi sA hA
        wtm_at "v"
        refine ⟨rfl, ?_⟩
        wtm_at "v"
        rename_i x x0 x1 ex y y0 y1 ey
        refine .inr ⟨_, rfl, ?_⟩
        refine lc_yes nA hA ?_ (by simp; omega) sA
        rw [List.range_succ, List.map_append, List.map_singleton]
        congr 2
        show V.int (bI _) = _
        rw [show (0 : Int) + i = i by omega] at ex
        rw [← ex, ← ey]
        rfl
      · intro A H9 nA s9 g9
        obtain ⟨M, rfl⟩ : ∃ M : Nat, N = M := ⟨N.toNat, by omega⟩
        have g9 : H9 A = some (.lst (((List.range M).map fun r : Nat => decide ((r : Int) % (13 + (1 + d6)) = d5 % 13)).map bV)) := by
          rw [g9, List.map_map]
          simp only [Int.toNat_natCast]
          rfl
        refine ans A _ H9 (new_same s8 nA) (s8.trans s9) g9 ⟨by simp; omega, by simp; omega, ?_⟩
        rw [marks_count]
        have hh := half_count (fun r : Nat => decide ((r : Int) % (13 + (1 + d6)) = d5 % 13)) (fun r hr => by
          refine decide_eq_false fun hr2 => step_one (m := 13 + (1 + d6)) (by omega) (of_decide_eq_true hr) (by rw [← hr2]; push_cast; rfl)) M
        omega
    wtm_at "v"
    rename_i q8 H8 n8 s8 g8 e e0 e1 _
    refine i_ixN (SqL.of g8) (ns := [7, 12, 28, 30, 60, 84, 35, 97]) rfl e0 (by simpa using e1) fun N hN => ?_
    have hN2 : 7 ≤ N ∧ N ≤ 97 := by
      have : ∀ z ∈ [(7 : Int), 12, 28, 30, 60, 84, 35, 97], 7 ≤ z ∧ z ≤ 97 := by decide
      exact this N hN
    wtm_at "v"
    refine i_rng1 (by omega) (by omega) ?_
    refine i_lcR (fun i => ((List.range i).map fun r : Nat => bV (decide ((r : Int) * (1 + d6) % 101 < 1 + d5)))) rfl ?_ ?_
    · intro A i H' nA hi sA hA
      wtm_at "v"
      refine ⟨rfl, ?_⟩
      wtm_at "v"
      rename_i y y0 y1 ey
      refine .inr ⟨_, rfl, ?_⟩
      refine lc_yes nA hA ?_ (by simp; omega) sA
      rw [List.range_succ, List.map_append, List.map_singleton]
      congr 2
      show V.int (bI _) = _
      rw [show (0 : Int) + i = i by omega] at ey
      rw [← ey]
      rfl
    · intro A H9 nA s9 g9
      have g9 : H9 A = some (.lst (((List.range N.toNat).map fun r : Nat => decide ((r : Int) * (1 + d6) % 101 < 1 + d5)).map bV)) := by
        rw [g9, List.map_map]
        rfl
      exact ans A _ H9 (new_same s8 nA) (s8.trans s9) g9 (Rests.small (by simp; omega) (by simp; omega))
end
section
/-! ### the steps as one word: wtm_at "v1" a step, wtm_at "v" as many as go -/
local macro_rules | `(tactic| wtm_at "tm") => `(tactic| first
  | exact Tm.refl _
  | exact Tm.same (by with_reducible assumption)
  | exact Tm.fx (by with_reducible assumption)
  | (refine Tm.trans ?_ (Tm.same (by with_reducible assumption)); wtm_at "tm")
  | (refine Tm.trans ?_ (Tm.fx (by with_reducible assumption)); wtm_at "tm") | fail)
local macro_rules | `(tactic| wtm_at "lkT1") => `(tactic| first
  | with_reducible assumption
  | exact TpK.tp (by with_reducible assumption)
  | exact TpH.tm (by with_reducible assumption) (by wtm_at "tm")
  | exact Tp.tm (by with_reducible assumption) (by wtm_at "tm")
  | exact Tp.of (by with_reducible assumption) | fail)
local macro_rules | `(tactic| wtm_at "lkT") => `(tactic| first
  | wtm_at "lkT1"
  | fail)
local macro_rules | `(tactic| wtm_at "lk") => `(tactic| first
  | assumption
  | exact b_get (by assumption) (by wtm_at "lk")
  | exact b_lst (by assumption) (by wtm_at "ne") (by wtm_at "ne") (by wtm_at "lk") | fail)
local macro_rules | `(tactic| wtm_at "lkL") => `(tactic| first
  | assumption
  | exact SqL.of (by wtm_at "lk")
  | exact b_L (by assumption) (by wtm_at "lkL") | fail)
local macro_rules | `(tactic| wtm_at "intL") => `(tactic| first | exact IntL.nil | exact IntL.cons (by wtm_at "intL") | fail)
local macro_rules | `(tactic| wtm_at "lkS0") => `(tactic| first
  | with_reducible assumption
  | exact StoreAt.same (by with_reducible assumption) (by wtm_at "lkS0") | fail)
local macro_rules | `(tactic| wtm_at "lkS") => `(tactic| first
  | with_reducible assumption
  | exact StoreAt.from (by with_reducible assumption) (by wtm_at "sm") | fail)
local macro_rules | `(tactic| wtm_at "ne") => `(tactic| first
  | assumption
  | exact Ne.symm (by assumption)
  | exact st_ne1 (by with_reducible assumption) (by wtm_at "lkS0")
  | exact st_ne2 (by with_reducible assumption) (by wtm_at "lkS0")
  | exact new_ne (by assumption) (by wtm_at "lk")
  | exact new_ne' (by assumption) (by wtm_at "lk") | fail)
local macro_rules | `(tactic| wtm_at "sm") => `(tactic| first
  | with_reducible assumption
  | exact Same.refl _
  | (refine Same.trans ?_ (by with_reducible assumption); wtm_at "sm") | fail)
local macro_rules | `(tactic| wtm_at "fx") => `(tactic| first
  | with_reducible assumption
  | exact Fx.same (Same.refl _)
  | exact Fx.same (by with_reducible assumption)
  | (refine Fx.trans ?_ (by with_reducible assumption); wtm_at "fx")
  | (refine Fx.trans ?_ (Fx.same (by with_reducible assumption)); wtm_at "fx") | fail)
local macro_rules | `(tactic| wtm_at "v0") => `(tactic| first
  | with_reducible refine i_seq ?_ | with_reducible refine i_asg ?_ | with_reducible refine i_var rfl ?_ | with_reducible refine i_c ?_ | with_reducible refine i_name ?_
  | with_reducible refine i_op ?_ | with_reducible refine i_ifS ?_ | with_reducible refine i_test ?_ | with_reducible refine i_tB ?_
  | with_reducible refine i_cons ?_ | with_reducible refine i_nil ?_ | with_reducible refine i_call ?_ | with_reducible refine i_callN ?_ | with_reducible refine i_callX ?_ | with_reducible refine i_callNX ?_ | with_reducible refine i_cb ?_
  | with_reducible refine i_tup ?_ | with_reducible refine i_lst ?_ | with_reducible refine i_ret ?_ | with_reducible refine i_retN ?_ | with_reducible refine i_drop ?_
  | with_reducible refine i_next ?_ | with_reducible refine i_par ?_ | with_reducible refine i_par2 ?_ | with_reducible refine i_ifE ?_ | with_reducible refine i_un ?_
  | with_reducible refine i_and ?_ | with_reducible refine i_or ?_ | with_reducible refine i_not ?_ | with_reducible refine i_andV ?_ | with_reducible refine i_orV ?_ | with_reducible refine i_notV ?_
  | with_reducible refine i_notV2 ?_ | with_reducible refine i_bif (A := fun _ => _) ?_ | with_reducible refine i_brk ?_ | with_reducible refine i_ctn ?_
  | with_reducible refine i_abs ?_ | with_reducible refine i_min ?_ | with_reducible refine i_max ?_ | with_reducible refine i_for ?_ | with_reducible refine i_iR1 ?_ | with_reducible refine i_iR2 ?_ | with_reducible refine i_iL ?_ | with_reducible refine i_iT ?_ | with_reducible refine i_wb ?_
  | with_reducible refine i_sl ?_ | with_reducible refine i_no ?_ | with_reducible refine i_so ?_ | with_reducible refine i_exI ?_ | with_reducible refine i_exB ?_ | with_reducible refine i_gcons ?_ | with_reducible refine i_gnil ?_ | with_reducible refine i_bm ?_ | with_reducible refine i_gsub ?_ | with_reducible refine i_lc ?_ | with_reducible refine i_yes ?_ | with_reducible refine i_iE ?_
  | with_reducible refine ite_1 ?_ | with_reducible refine i_pow6 ?_ | with_reducible refine i_pow18 ?_ | with_reducible refine i_pow30 ?_
  | with_reducible refine i_addI ?_ | with_reducible refine i_I0 ?_ | with_reducible refine i_U ?_ | with_reducible refine i_eqI ?_ | with_reducible refine i_neI ?_ | fail)
local macro_rules | `(tactic| wtm_at "v1") => `(tactic| first
  | wtm_at "v0"
  | ((with_reducible show rIx _ _ _ _ _); first | refine i_ixT (by wtm_at "lkT") rfl ?_ | refine i_ixL (by wtm_at "lkL") rfl ?_)
  | ((with_reducible show rLenU _ _ _ _); first | refine i_lenT (by wtm_at "lkT") ?_ | refine i_lenL (by wtm_at "lkL") ?_)
  | ((with_reducible show spDraw _ _ _ _); refine c_draw (by wtm_at "lkS") (by first | decide | omega) (by first | decide | omega) (by omega) ?_; intro _ _ _ _ _ _)
  | (with_reducible refine i_newTH (by first | decide | (simp; done)) ?_; intro _ _ _ _ _)
  | (with_reducible refine i_newL (by first | decide | (simp; done)) ?_; intro _ _ _ _ _) | fail)
local macro_rules | `(tactic| wtm_at "v") => `(tactic| repeat wtm_at "v1")
local macro_rules | `(tactic| wtm_at "vi") => `(tactic| repeat ((fail_if_success (with_reducible show tIfS _ _ _ _ _ _)); wtm_at "v1"))
local macro_rules | `(tactic| wtm_at "v0") => `(tactic| first | with_reducible refine ite_0 ?_ | with_reducible refine ite_n0 ?_ | with_reducible refine ite_n1 ?_ | fail)
local macro_rules | `(tactic| wtm_at "v1") => `(tactic| first
  | ((with_reducible refine i_mulI ?hm ?_); (case hm => exact wide_mul (a := 128) (b := 128) (by omega) (by omega) (by decide) (by decide) (by decide)))
  | ((with_reducible refine i_mod ?hm ?_); (case hm => first | decide | omega); intro _ _ _ _) | fail)
variable {P : Program} {w : World} {K : PySem.W.Frag} {mg : Str → Option Value} {base : Heap}
abbrev s_law_unlike : Stmt := topS 34
theorem sc_law_unlike : FnScope ["_law_some", "_law_one"] ["_law_some"] (defScope s_law_unlike) := ⟨rfl, rfl, rfl, by decide +kernel, rfl, by decide +kernel, by decide +kernel⟩
theorem ok_unlike {f : Addr} {fd : FuncData} (F : FunD K "_law_unlike" "_law_unlike" (defArgs s_law_unlike) (defBody s_law_unlike) (defScope s_law_unlike) [] [] f fd) (n_list : mg "list" = none) (n_dict : mg "dict" = none) : FnG P w K mg base CX0 1 f fd ["_law_some"] spUnlike := by
  refine okG (k := 0) F sc_law_unlike (fun vs H Q E h => ?_) (fun cdv A hG outer s H vs Q E hr h => ?_)
  · obtain ⟨a, b, rfl, _⟩ := h
    rfl
  · obtain ⟨a, ns, rfl, h, hl, k⟩ := h
    refine ⟨_, (pss_one (ps_ret (pe_callTy (k_listD rfl) (by rfl) n_list bt_list (pa_cons (pe_callTy (k_dictP K rfl) (by rfl) n_dict bt_dict (pa_cons (pe_lc (own := [("_law_one", 1)]) rfl sc_law_unlike.nd (k_piL K (pv 0)) (blkOk_by (N := ["_law_some", "_law_one"]) (sc := defScope s_law_unlike) (by decide +kernel)) (fun _ _ _ _ _ => (pg_name (i := 1) sc_law_unlike.nd rfl (Or.inl rfl))) (fun _ _ _ _ _ => pts_nil) (fun _ _ _ _ _ => (pe_tup (pa_cons (pv 1) (pa_cons pe_bl pa_nil))))) pa_nil)) pa_nil)))), ?_⟩
    wtm_at "v"
    refine i_itL (SqL.of h) ?_
    refine i_lcG (xs := ns.map V.int) (fun A j H' => Same H H' ∧ ∃ ps : List Addr, H' A = some (.lst (ps.map V.ref)) ∧ ps.length = j ∧ Par (fun p k => Tp K H' p [.int k, .bl true]) ps (ns.take j)) (fun A nA => ⟨same_new nA, [], upd_same, rfl, by rw [List.take_zero]; exact .nil⟩) (fun A j H' _ z => SqL.of (z.1 _ _ h)) ?_ ?_
    · rintro A j x H' nA hx hj ⟨sm, ps, hA, lp, hp⟩
      rw [List.getElem?_map] at hx
      obtain ⟨c, hc, rfl⟩ := Option.map_eq_some_iff.mp hx
      rw [List.length_map] at hj
      wtm_at "v"
      refine ⟨rfl, ?_⟩
      wtm_at "v"
      rename_i q2 H2 n2 s2 g2
      have hA2 := s2 _ _ hA
      have W : Tw H2 (upd H2 A (.lst (ps.map V.ref ++ [.ref q2]))) := ⟨fun b xs e => by rw [upd_ne (ne_of e hA2 (fun z => nomatch z))]; exact e, fun b C dx fs e => by rw [upd_ne (ne_of e hA2 (fun z => nomatch z))]; exact e⟩
      refine ⟨_, hA2, Nat.lt_of_le_of_lt (by rw [List.length_map]; omega : _ ≤ 100000) (by decide), fun b o z => ?_, ps ++ [q2], by rw [upd_same, List.map_append]; rfl, by simp [lp], ?_⟩
      · rw [upd_ne (fun y => by subst y; rw [show H b = none from nA] at z; cases z)]
        exact s2 _ _ (sm _ _ z)
      · rw [show ns.take (j + 1) = ns.take j ++ [c] by rw [List.take_add_one, hc]; rfl]
        exact (hp.imp fun _ _ z => (Tp.mono s2 z).tw W).snoc ((Tp.of g2.eq).tw W)
    rintro A H1 nA ⟨s1, ps, g1, lp, hp⟩
    rw [List.length_map, List.take_length] at hp
    wtm_at "v"
    refine i_dictP (SqL.of g1) hp fun q H2 n2 s2 g2 => ?_
    wtm_at "v"
    refine i_listD g2 fun r H3 n3 s3 g3 => ?_
    exact k r H3 (new_same (s1.trans s2) n3) ((s1.trans s2).trans s3) g3
abbrev s_law_turned : Stmt := topS 35
theorem sc_law_turned : FnScope ["_law_reel_here", "_law_way", "_law_base", "_law_by", "_law_down", "_law_k", "_law_turn"] ["_law_reel_here"] (defScope s_law_turned) := ⟨rfl, rfl, rfl, by decide +kernel, rfl, by decide +kernel, by decide +kernel⟩
theorem ok_turned {f : Addr} {fd : FuncData} (F : FunD K "_law_turned" "_law_turned" (defArgs s_law_turned) (defBody s_law_turned) (defScope s_law_turned) [] [] f fd) (O_law_draw : Own P w K mg base CX0 1 "_law_draw" ["_law_reel_here", "_law_many"] [] spDraw) (O_law_unlike : Own P w K mg base CX0 1 "_law_unlike" ["_law_some"] [] spUnlike) (n_range : mg "range" = none) (n_int : mg "int" = none) : FnG P w K mg base CX0 2 f fd ["_law_reel_here"] spTurned := by
  refine okG (k := 1) F sc_law_turned (fun vs H Q E h => ?_) (fun cdv A hG outer s H vs Q E hr h => ?_)
  · obtain ⟨a, b, rfl, _⟩ := h
    rfl
  · obtain ⟨st, n, rfl, S, hn, k⟩ := h
    refine ⟨_, (pss_cons (ps_set (i := 1) sc_law_turned.nd rfl (Or.inl rfl) (pe_own O_law_draw hG (hr.mono (by decide)) pass0 (pa_cons (pv 0) (pa_cons pe_int pa_nil)))) (pss_cons (ps_set (i := 2) sc_law_turned.nd rfl (Or.inr rfl) (pe_ix (k_ix K) (pe_lst (pa_cons pe_int (pa_cons (pe_un un_neg pe_int) (pa_cons pe_int (pa_cons (pe_op op_sub (pe_op op_pow pe_int pe_int) pe_int) (pa_cons (pe_op op_sub pe_int (pe_op op_pow pe_int pe_int)) (pa_cons pe_int pa_nil))))))) (pe_own O_law_draw hG (hr.mono (by decide)) pass0 (pa_cons (pv 0) (pa_cons pe_int pa_nil))) (fun _ _ => rfl))) (pss_cons (ps_set (i := 3) sc_law_turned.nd rfl (Or.inr rfl) (pe_op (k_add K) pe_int (pe_own O_law_draw hG (hr.mono (by decide)) pass0 (pa_cons (pv 0) (pa_cons pe_int pa_nil))))) (pss_cons (ps_if (pt_cmpR (k_eq K hr) (pv 1) pe_int (nomark _)) (pss_cons (ps_set (i := 4) sc_law_turned.nd rfl (Or.inr rfl) (pe_op op_sub pe_int (pe_op op_mulU pe_int (pe_callTy (call_int1) (by rfl) n_int bt_int (pa_cons (pe_cmpR op_gt (pv 2) pe_int (nomark _)) pa_nil))))) (pss_one (ps_ret (pe_lc (own := [("_law_k", 5)]) rfl sc_law_turned.nd (pi_range1 (by rfl) n_range (pa_cons pe_int pa_nil)) (blkOk_by (N := ["_law_reel_here", "_law_way", "_law_base", "_law_by", "_law_down", "_law_k", "_law_turn"]) (sc := defScope s_law_turned) (by decide +kernel)) (fun _ _ _ _ _ => (pg_name (i := 5) sc_law_turned.nd rfl (Or.inl rfl))) (fun _ _ _ _ _ => pts_nil) (fun _ _ _ _ _ => (pe_op (k_add K) (pv 2) (pe_op op_mulU (pv 4) (pe_op op_modN (pe_op op_mulU (pe_op op_mulU (pv 5) (pv 3)) pe_int) pe_int)))))))) pss_nil) (pss_cons (ps_if (pt_cmpR op_lt (pv 1) pe_int (nomark _)) (pss_one (ps_ret (pe_lst pa_nil))) pss_nil) (pss_one (ps_ret (pe_own O_law_unlike hG (hr.mono (by decide)) pass0 (pa_cons (pe_lc (own := [("_law_turn", 6)]) rfl sc_law_turned.nd (pi_range1 (by rfl) n_range (pa_cons (pe_op (k_add K) pe_int (pe_own O_law_draw hG (hr.mono (by decide)) pass0 (pa_cons (pv 0) (pa_cons pe_int pa_nil)))) pa_nil)) (blkOk_by (N := ["_law_reel_here", "_law_way", "_law_base", "_law_by", "_law_down", "_law_k", "_law_turn"]) (sc := defScope s_law_turned) (by decide +kernel)) (fun _ _ _ _ _ => (pg_name (i := 6) sc_law_turned.nd rfl (Or.inl rfl))) (fun _ _ _ _ _ => pts_nil) (fun _ _ _ _ _ => (pe_op op_sub (pe_op (k_add K) (pv 2) (pe_own O_law_draw hG (hr.mono (by decide)) pass0 (pa_cons (pv 0) (pa_cons pe_int pa_nil)))) pe_int))) pa_nil))))))))), ?_⟩
    wtm_at "v"
    rename_i d1 H1 a1 b1 S1 F1 q2 H2 n2 s2 g2 d3 H3 a3 b3 S3 F3
    have ne : q2 ≠ st := st_ne1 n2 S1
    refine i_ixN (SqL.of (F3.oth _ _ g2 ne ne)) (ns := [0, -5, 100, 1000000000000000000 - 11, 12 - 1000000000000000000, 7]) rfl a3 (by simpa using b3) fun b hb => ?_
    have hb2 : -999999999999999988 ≤ b ∧ b ≤ 999999999999999989 := by
      have : ∀ z ∈ [(0 : Int), -5, 100, 1000000000000000000 - 11, 12 - 1000000000000000000, 7], -999999999999999988 ≤ z ∧ z ≤ 999999999999999989 := by decide
      exact this b hb
    have F13 : True ∧ Fx st st H H3 := ⟨trivial, (F1.trans (Fx.same s2)).trans F3⟩
    clear F1 F3 S1 g2 s2 n2
    wtm_at "v"
    rename_i d4 H4 a4 b4 S4 F4
    have F14 : True ∧ Fx st st H H4 := ⟨trivial, F13.2.trans F4⟩
    clear F13 F4 S3
    with_reducible refine ite_d (fun c => ?_) (fun c => ?_)
    · wtm_at "v"
      refine .inr ⟨_, rfl, ?_⟩
      wtm_at "v"
      obtain ⟨d, hd, ed⟩ : ∃ d : Int, (d = 1 ∨ d = -1) ∧ (1 : Int) - 2 * (if decide (0 < b) = true then 1 else 0) = d := ⟨_, by by_cases z : 0 < b <;> simp [z], rfl⟩
      rw [ed]
      wtm_at "v"
      refine i_rng1 (by omega) (by omega) ?_
      refine i_lcR (fun i => ((List.range i).map fun k : Nat => b + d * (((k : Int) * (1 + d4) * 7) % 997)).map V.int) rfl ?_ ?_
      · intro A i H' nA hi sA hA
        wtm_at "v"
        refine ⟨rfl, ?_⟩
        wtm_at "v"
        have z0 : 0 * 1 ≤ (0 + (i : Int)) * (1 + d4) := Int.mul_le_mul (by omega) (by omega) (by omega) (by omega)
        have z1 : (0 + (i : Int)) * (1 + d4) ≤ 60 * 40 := Int.mul_le_mul (by omega) (by omega) (by omega) (by omega)
        obtain ⟨z, ez⟩ : ∃ z, (0 + (i : Int)) * (1 + d4) = z := ⟨_, rfl⟩
        rw [ez] at z0 z1 ⊢
        wtm_at "v"
        rename_i y y0 y1 ey
        have w1 : d * y = y ∨ d * y = -y := by rcases hd with rfl | rfl <;> omega
        obtain ⟨w, ew⟩ : ∃ w, d * y = w := ⟨_, rfl⟩
        rw [ew] at w1 ⊢
        wtm_at "v"
        rw [← ew]
        rw [← ez] at ey
        refine lc_yes nA hA ?_ (by simp; omega) sA
        rw [List.range_succ, List.map_append, List.map_append, List.map_singleton, List.map_singleton]
        rw [show (0 : Int) + i = i by omega] at ey
        rw [← ey]
      · intro A H9 nA s9 g9
        refine k A _ H9 (new_back S4 F14.2 nA) g9 ⟨turn_nodup hd (by omega) (by omega), by simp, fun t ht => ?_⟩ ((S4.same s9).mono (by omega)) (F14.2.trans (Fx.same s9))
        obtain ⟨j, _, rfl⟩ := List.mem_map.mp ht
        have h1 := Int.emod_nonneg ((j : Int) * (1 + d4) * 7) (b := 997) (by decide)
        have h2 := Int.emod_lt_of_pos ((j : Int) * (1 + d4) * 7) (b := 997) (by decide)
        rcases hd with rfl | rfl <;> omega
    wtm_at "v"
    with_reducible refine ite_d (fun c1 => ?_) (fun c1 => ?_)
    · wtm_at "v"
      rename_i q5 H5 n5 s5 g5
      exact k q5 [] H5 (new_back S4 F14.2 n5) g5 ⟨List.nodup_nil, by simp, fun t ht => by simp at ht⟩ ((S4.same s5).mono (by omega)) (F14.2.trans (Fx.same s5))
    wtm_at "v"
    rename_i d5 H5 a5 b5 S5 F5
    refine i_rng1 (by omega) (by omega) ?_
    refine i_lcGR (fun A j H' => ∃ ts : List Int, H' A = some (.lst (ts.map V.int)) ∧ ts.length = j ∧ (∀ t ∈ ts, -1000000000000002000 ≤ t ∧ t ≤ 1000000000000002000) ∧ StoreAt H' st st (n + 4 + j) ∧ Fx st st H5 H') (fun A nA => ⟨[], upd_same, rfl, by simp, (S5.same (same_new nA)).mono (by omega), Fx.same (same_new nA)⟩) ?_ ?_
    · rintro A j H6 nA hj ⟨ts, hA, lb, hb, S6, F6⟩
      have ne : A ≠ st := st_ne1 nA S5
      wtm_at "v"
      refine ⟨rfl, ?_⟩
      wtm_at "v"
      rename_i e H7 e0 e1 S7 F7
      have hA7 := F7.oth _ _ hA ne ne
      refine ⟨_, hA7, Nat.lt_of_le_of_lt (by rw [List.length_map]; omega : _ ≤ 100000) (by decide), ts ++ [b + e - 12], by rw [upd_same, List.map_append]; rfl, by simp [lb], fun t ht => ?_, (S7.fxn ne (fx_upd hA7)).mono (by omega), fx_new nA (F6.trans F7) (fx_upd hA7)⟩
      rcases List.mem_append.mp ht with ht | ht
      · exact hb t ht
      · simp at ht; omega
    · rintro A H6 nA ⟨ts, hA, lb, hb, S6, F6⟩
      wtm_at "v"
      refine c_unlike hA (by omega) fun r H7 n7 s7 g7 => ?_
      have lu := undup_len ts
      exact k r _ H7 (new_back S6 (F14.2.trans (F5.trans F6)) n7) g7 ⟨undup_nodup _, by omega, fun t ht => hb t ((undup_mem _ _).mp ht)⟩ ((S6.same s7).mono (by omega)) ((F14.2.trans (F5.trans F6)).trans (Fx.same s7))
abbrev s_law_given : Stmt := topS 36
theorem sc_law_given : FnScope ["_law_reel_here", "_law_here"] ["_law_reel_here"] (defScope s_law_given) := ⟨rfl, rfl, rfl, by decide +kernel, rfl, by decide +kernel, by decide +kernel⟩
theorem ok_given {f : Addr} {fd : FuncData} (F : FunD K "_law_given" "_law_given" (defArgs s_law_given) (defBody s_law_given) (defScope s_law_given) [] [] f fd) (O_law_rests : Own P w K mg base CX0 3 "_law_rests" ["_law_reel_here"] [] spRests) (O_law_turned : Own P w K mg base CX0 2 "_law_turned" ["_law_reel_here"] [] spTurned) : FnG P w K mg base CX0 4 f fd ["_law_reel_here"] (spGiven K) := by
  refine okG (k := 3) F sc_law_given (fun vs H Q E h => ?_) (fun cdv A hG outer s H vs Q E hr h => ?_)
  · obtain ⟨a, b, rfl, _⟩ := h
    rfl
  · obtain ⟨st, n, rfl, S, hn, k⟩ := h
    refine ⟨_, (pss_cons (ps_set (i := 1) sc_law_given.nd rfl (Or.inl rfl) (pe_own O_law_rests hG (hr.mono (by decide)) pass0 (pa_cons (pv 0) pa_nil))) (pss_one (ps_ret (pe_tup (pa_cons (pv 1) (pa_cons (pe_own O_law_turned hG (hr.mono (by decide)) pass0 (pa_cons (pv 0) pa_nil)) pa_nil)))))), ?_⟩
    wtm_at "v"
    refine c_rests S (by omega) fun p bs H1 n1 g1 r1 S1 F1 => ?_
    wtm_at "v"
    have np : p ≠ st := st_ne1 n1 S
    refine c_turned S1 (by omega) fun q ts H2 n2 g2 t2 S2 F2 => ?_
    have nq : q ≠ st := st_ne1 n2 S1
    wtm_at "v"
    rename_i g H3 n3 s3 g3
    exact k g bs ts H3 (new_back S2 (F1.trans F2) n3) ⟨⟨p, q, Tp.of g3.eq, s3 _ _ (F2.oth _ _ g1 np np), s3 _ _ g2, np, nq⟩, r1, t2⟩ ((S2.same s3).mono (by omega)) ((F1.trans F2).trans (Fx.same s3))
abbrev s_law_marks : Stmt := topS 37
theorem sc_law_marks : FnScope ["_law_here", "_law_rest", "_law_there"] ["_law_here"] (defScope s_law_marks) := ⟨rfl, rfl, rfl, by decide +kernel, rfl, by decide +kernel, by decide +kernel⟩
theorem ok_marks {f : Addr} {fd : FuncData} (F : FunD K "_law_marks" "_law_marks" (defArgs s_law_marks) (defBody s_law_marks) (defScope s_law_marks) [] [] f fd) (n_enumerate : mg "enumerate" = none) : FnG P w K mg base CX0 1 f fd ["_law_here"] spMarks := by
  refine okG (k := 0) F sc_law_marks (fun vs H Q E h => ?_) (fun cdv A hG outer s H vs Q E hr h => ?_)
  · obtain ⟨a, b, rfl, _⟩ := h
    rfl
  · obtain ⟨a, bs, rfl, h, hl, k⟩ := h
    refine ⟨_, (pss_one (ps_ret (pe_lc (own := [("_law_rest", 1), ("_law_there", 2)]) rfl sc_law_marks.nd (k_piE K (by rfl) n_enumerate (pa_cons (pv 0) pa_nil)) (blkOk_by (N := ["_law_here", "_law_rest", "_law_there"]) (sc := defScope s_law_marks) (by decide +kernel)) (fun _ _ _ _ _ => (k_gt K 2 rfl (pgs_cons (pg_name (i := 1) sc_law_marks.nd rfl (Or.inl rfl)) (pgs_cons (pg_name (i := 2) sc_law_marks.nd rfl (Or.inl rfl)) pgs_nil)))) (fun _ _ _ _ _ => (pts_one (pt_cmpR (k_eq K hr) (pv 2) pe_int (nomark _)))) (fun _ _ _ _ _ => (pv 1))))), ?_⟩
    wtm_at "v"
    refine i_itE (SqL.of h) ?_
    refine i_lcE (xs := bs.map bV) (fun A i H' => Same H H' ∧ H' A = some (.lst ((marksFrom 0 (bs.take i)).map V.int))) (fun A nA => ⟨same_new nA, by rw [List.take_zero]; exact upd_same⟩) (fun A i H' _ z => SqL.of (z.1 _ _ h)) ?_ ?_
    · rintro A i x H0 U H' nA hx hi ⟨sm, hA⟩ nT sT hT
      rw [List.getElem?_map] at hx
      obtain ⟨c, hc, rfl⟩ := Option.map_eq_some_iff.mp hx
      rw [List.length_map] at hi
      have el : (bs.take i).length = i := by rw [List.length_take]; omega
      have es := marks_snoc 0 (bs.take i) c
      have et : bs.take (i + 1) = bs.take i ++ [c] := by rw [List.take_add_one, hc]; rfl
      have ml := marks_len 0 (bs.take i)
      rw [el, ← et] at es
      refine i_gtup (Tp.of hT.eq) rfl ?_
      unfold bV
      wtm_at "v"
      refine ⟨rfl, ?_⟩
      wtm_at "v"
      cases c with
      | true =>
        with_reducible refine ite_d (fun _ => ?_) (fun z => absurd rfl z)
        wtm_at "v"
        refine ⟨_, sT _ _ hA, by rw [List.length_map]; exact Nat.lt_of_le_of_lt (by omega : _ ≤ 100000) (by decide), fun b o e => ?_, ?_⟩
        · rw [upd_ne (fun z => by subst z; rw [show H b = none from nA] at e; cases e)]
          exact sT _ _ (sm b o e)
        · rw [upd_same, es]
          simp
      | false =>
        with_reducible refine ite_d (fun z => by simp [bI] at z) (fun _ => ?_)
        refine ⟨sm.trans sT, ?_⟩
        rw [es]
        simpa using sT _ _ hA
    · rintro A H1 nA ⟨s1, g1⟩
      rw [List.length_map, List.take_length] at g1
      exact k A H1 nA s1 g1
abbrev s_law_in : Stmt := topS 38
theorem sc_law_in : FnScope ["_law_given_here", "_law_day", "_law_here", "_law_some"] ["_law_given_here", "_law_day"] (defScope s_law_in) := ⟨rfl, rfl, rfl, by decide +kernel, rfl, by decide +kernel, by decide +kernel⟩
theorem ok_in {f : Addr} {fd : FuncData} (F : FunD K "_law_in" "_law_in" (defArgs s_law_in) (defBody s_law_in) (defScope s_law_in) [] [] f fd) (n_len : mg "len" = none) : FnG P w K mg base CX0 1 f fd ["_law_given_here", "_law_day"] (spIn K) := by
  refine okG (k := 0) F sc_law_in (fun vs H Q E h => ?_) (fun cdv A hG outer s H vs Q E hr h => ?_)
  · obtain ⟨a, b, c, d, e, rfl, _⟩ := h
    rfl
  · obtain ⟨st, g, bs, ts, d, rfl, hg, k⟩ := h
    obtain ⟨a, b, hp, ha, hb, _, _⟩ := hg.ex
    have l0 := hg.rs.l0
    refine ⟨_, (pss_cons (ps_asg (pv 0) (k_gt K 2 rfl (pgs_cons (pg_name (i := 2) sc_law_in.nd rfl (Or.inl rfl)) (pgs_cons (pg_name (i := 3) sc_law_in.nd rfl (Or.inl rfl)) pgs_nil)))) (pss_one (ps_ret (pe_cmpR (k_ne K hr) (pe_cmpR (k_eq K hr) (pe_ix (k_ix K) (pv 2) (pe_op op_modN (pv 1) (pe_callB (k_len K) (by rfl) n_len bt_len (pa_cons (pv 2) pa_nil))) (fun _ _ => rfl)) pe_int (nomark _)) (pe_cmpR (k_in K) (pv 1) (pv 3) (by rfl)) (nomark _))))), ?_⟩
    wtm_at "v"
    refine i_gtup hp rfl ?_
    wtm_at "v"
    rw [List.length_map]
    refine i_mod (by omega) fun e e0 e1 ee => ?_
    have hge := rIn_get l0 d
    obtain ⟨j, rfl⟩ : ∃ j : Nat, e = j := ⟨e.toNat, by omega⟩
    rw [← ee, Int.toNat_natCast] at hge
    refine i_ixL (SqL.of ha) (atI_nat (v := bV (rIn bs d)) (by rw [List.getElem?_map, hge]; rfl)) ?_
    unfold bV
    wtm_at "v"
    refine i_inS (t := false) (SqL.of hb) ?_
    refine i_neBB ?_
    unfold dIn at k
    rw [show decide (bI (rIn bs d) = 1) = rIn bs d by cases rIn bs d <;> simp [bI]]
    exact k
theorem c_daysK {K : PySem.W.Frag} {C a b : Addr} {p : Int} {ms ts : List Int} {H : Hp} {Q : VK} {E : XK} (ha : Tp K H a (ms.map V.int)) (hb : Tp K H b (ts.map V.int)) (hd : DaysIn p ms ts) (k : ∀ s H', New H s → Same H H' → DaysAt K C H' s (leastR (restsOf p.toNat ms)) (upr ts) → Q (.ref s) H') :
    MakeGK C 2 1 (spDays K C) (fun vs zs => vs ++ zs) E [.int p, .ref a] [.ref b] H Q := by
  refine ⟨rfl, rfl, fun x dx nx ndx hne => ?_⟩
  have s0 : Same H (upd (upd H dx (.own x)) x (.ins C dx [])) := fun b o e => by rw [upd_ne (ne_of_none e nx), upd_ne (ne_of_none e ndx)]; exact e
  refine ⟨x, dx, a, b, true, true, p, ms, ts, rfl, upd_same, Tp.mono s0 ha, Tp.mono s0 hb, hd, fun H' f d => ⟨rfl, k x H' nx (fun b o e => ?_) d⟩⟩
  have hb : b ≠ x := ne_of_none e nx
  exact f.oth b o (s0 b o e) hb hb
abbrev s_law_about : Stmt := topS 39
theorem sc_law_about : FnScope ["_law_reel_here", "_law_given_here", "_law_some", "_law_found", "_law_at", "_law_turn"] ["_law_reel_here", "_law_given_here"] (defScope s_law_about) := ⟨rfl, rfl, rfl, by decide +kernel, rfl, by decide +kernel, by decide +kernel⟩
theorem ok_about {f : Addr} {fd : FuncData} (F : FunD K "_law_about" "_law_about" (defArgs s_law_about) (defBody s_law_about) (defScope s_law_about) [] [] f fd) (O_law_draw : Own P w K mg base CX0 1 "_law_draw" ["_law_reel_here", "_law_many"] [] spDraw) (n_range : mg "range" = none) (n_len : mg "len" = none) (n_min : mg "min" = none) (n_max : mg "max" = none) : FnG P w K mg base CX0 2 f fd ["_law_reel_here", "_law_given_here"] (spAbout K) := by
  refine okG (k := 1) F sc_law_about (fun vs H Q E h => ?_) (fun cdv A hG outer s H vs Q E hr h => ?_)
  · obtain ⟨a, b, c, d, e, rfl, _⟩ := h
    rfl
  · obtain ⟨st, n, g, bs, ts, rfl, S, hn, hg, k⟩ := h
    obtain ⟨a, b, hp, ha, hb, na, nb⟩ := hg.ex
    have tl := hg.tn.len
    refine ⟨_, (pss_cons (ps_set (i := 2) sc_law_about.nd rfl (Or.inl rfl) (pe_ix (k_ix K) (pv 1) pe_int (fun _ _ => rfl))) (pss_cons (ps_setLc (i := 3) (own := [("_law_turn", 5)]) rfl sc_law_about.nd rfl rfl (sw_true rfl rfl rfl (by decide +kernel)) (pi_range1 (by rfl) n_range (pa_cons pe_int pa_nil)) (blkOk_by (N := ["_law_reel_here", "_law_given_here", "_law_some", "_law_found", "_law_at", "_law_turn"]) (sc := defScope s_law_about) (by decide +kernel)) (fun _ _ _ _ _ => (pg_name (i := 5) sc_law_about.nd rfl (Or.inl rfl))) (fun _ _ _ _ _ => pts_nil) (fun _ _ _ _ _ => (pe_op op_sub (pe_own O_law_draw hG (hr.mono (by decide)) pass0 (pa_cons (pv 0) (pa_cons pe_int pa_nil))) pe_int))) (pss_cons (ps_expr (pe_bm PySem.F.plainAttrs_list PySem.F.slot_list_append PySem.F.type_list_append (mt_append) (pv 3) (pa_cons (pe_op op_sub (pe_op op_sub (pe_op op_pow pe_int pe_int) pe_int) (pe_own O_law_draw hG (hr.mono (by decide)) pass0 (pa_cons (pv 0) (pa_cons pe_int pa_nil)))) pa_nil))) (pss_cons (ps_expr (pe_bm PySem.F.plainAttrs_list PySem.F.slot_list_append PySem.F.type_list_append (mt_append) (pv 3) (pa_cons (pe_op (k_add K) (pe_op op_sub pe_int (pe_op op_pow pe_int pe_int)) (pe_own O_law_draw hG (hr.mono (by decide)) pass0 (pa_cons (pv 0) (pa_cons pe_int pa_nil)))) pa_nil))) (pss_cons (ps_if (pt_cmpR (k_neE K hr) (pv 2) (pe_lst pa_nil) (nomark _)) (pss_cons (ps_set (i := 4) sc_law_about.nd rfl (Or.inl rfl) (pe_ix (k_ix K) (pv 2) (pe_own O_law_draw hG (hr.mono (by decide)) pass0 (pa_cons (pv 0) (pa_cons (pe_callB (k_len K) (by rfl) n_len bt_len (pa_cons (pv 2) pa_nil)) pa_nil))) (fun _ _ => rfl))) (pss_cons (ps_set (i := 4) sc_law_about.nd rfl (Or.inl rfl) (pe_callB (call_maxU rfl) (by rfl) n_max bt_max (pa_cons (pe_op op_sub pe_int (pe_op op_pow pe_int pe_int)) (pa_cons (pe_callB (call_minU rfl) (by rfl) n_min bt_min (pa_cons (pv 4) (pa_cons (pe_op op_sub (pe_op op_pow pe_int pe_int) pe_int) pa_nil))) pa_nil)))) (pss_one (ps_set (i := 3) sc_law_about.nd rfl (Or.inl rfl) (pe_op (k_add K) (pv 3) (pe_lst (pa_cons (pe_op op_sub (pv 4) pe_int) (pa_cons (pv 4) (pa_cons (pe_op (k_add K) (pv 4) pe_int) pa_nil))))))))) pss_nil) (pss_one (ps_ret (pe_op (k_add K) (pv 3) (pe_lst (pa_cons (pe_own O_law_draw hG (hr.mono (by decide)) pass0 (pa_cons (pv 0) (pa_cons (pe_op op_pow pe_int pe_int) pa_nil))) pa_nil)))))))))), ?_⟩
    wtm_at "v"
    refine i_rng1 (by omega) (by omega) ?_
    refine i_lcGR (fun A j H' => ∃ ds : List Int, H' A = some (.lst (ds.map V.int)) ∧ ds.length = j ∧ (∀ t ∈ ds, -20 ≤ t ∧ t ≤ 20) ∧ StoreAt H' st st (n + j) ∧ Fx st st H H') (fun A nA => ⟨[], upd_same, rfl, by simp, (S.same (same_new nA)).mono (by omega), Fx.same (same_new nA)⟩) ?_ ?_
    · rintro A j H6 nA hj ⟨ts, hA, lb, hb, S6, F6⟩
      have ne : A ≠ st := st_ne1 nA S
      wtm_at "v"
      refine ⟨rfl, ?_⟩
      wtm_at "v"
      rename_i e H7 e0 e1 S7 F7
      have hA7 := F7.oth _ _ hA ne ne
      refine ⟨_, hA7, Nat.lt_of_le_of_lt (by rw [List.length_map]; omega : _ ≤ 100000) (by decide), ts ++ [e - 20], by rw [upd_same, List.map_append]; rfl, by simp [lb], fun t ht => ?_, (S7.fxn ne (fx_upd hA7)).mono (by omega), fx_new nA (F6.trans F7) (fx_upd hA7)⟩
      rcases List.mem_append.mp ht with ht | ht
      · exact hb t ht
      · simp at ht; omega
    rintro A H1 nA ⟨ds, hA, ld, hd, S1, F1⟩
    have ne : A ≠ st := st_ne1 nA S
    wtm_at "v"
    refine i_bmL hA ?_
    wtm_at "v"
    rename_i e H2 e0 e1 S2 F2
    refine i_append (F2.oth _ _ hA ne ne) (by rw [List.length_map]; omega) fun H3 f3 g3 => ?_
    have F3 : True ∧ Fx st st H H3 := ⟨trivial, fx_new nA (F1.trans F2) f3⟩
    have S3 := S2.fxn ne f3
    clear F1 F2 f3 S1 S2 hA
    wtm_at "v"
    refine i_bmL g3 ?_
    wtm_at "v"
    rename_i e' H4 e0' e1' S4 F4
    refine i_append (F4.oth _ _ g3 ne ne) (by simp; omega) fun H5 f5 g5 => ?_
    have F5 : True ∧ Fx st st H H5 := ⟨trivial, fx_new nA (F3.2.trans F4) f5⟩
    have S5 := S4.fxn ne f5
    clear F3 F4 f5 S3 S4 g3
    have g5 : H5 A = some (.lst ((ds ++ [1000000000000000000 - 4000000 - e, 3000000 - 1000000000000000000 + e']).map V.int)) := by rw [g5]; simp
    have hd5 : ∀ d ∈ ds ++ [1000000000000000000 - 4000000 - e, 3000000 - 1000000000000000000 + e'], -999999999999999961 ≤ d ∧ d ≤ 999999999999999961 := fun d hd' => by
      rcases List.mem_append.mp hd' with h | h
      · have := hd d h; omega
      · simp only [List.mem_cons, List.not_mem_nil, or_false] at h
        rcases h with rfl | rfl <;> omega
    have ld5 : (ds ++ [1000000000000000000 - 4000000 - e, 3000000 - 1000000000000000000 + e']).length = 6 := by simp [ld]
    generalize ds ++ [1000000000000000000 - 4000000 - e, 3000000 - 1000000000000000000 + e'] = us at *
    have hb5 := F5.2.oth _ _ hb nb nb
    wtm_at "vi"
    refine i_cut (fun σ' H' => ∃ (p : Addr) (us : List Int) (v4 v5 : Option V), σ' = [some (.ref st), some (.ref g), some (.ref b), some (.ref p), v4, v5] ∧ H' p = some (.lst (us.map V.int)) ∧ p ≠ st ∧ 6 ≤ us.length ∧ us.length ≤ 9 ∧ (∀ d ∈ us, -999999999999999961 ≤ d ∧ d ≤ 999999999999999961) ∧ StoreAt H' st st (n + 8) ∧ Fx st st H H') (fun N hN => ?_) ?_
    · wtm_at "v"
      rename_i q6 H6 n6 s6 g6
      have hb6 := s6 _ _ hb5
      refine i_neE (SqL.of hb6) (SqL.of g6) ?_
      have S6 := S5.same s6
      have F6 : True ∧ Fx st st H H6 := ⟨trivial, F5.2.trans (Fx.same s6)⟩
      have h6 := s6 _ _ g5
      clear S5 F5 s6 n6 g6 g5 hb5
      by_cases ht : ts = []
      · subst ht
        rw [show (!(([] : List Int).map V.int).isEmpty) = false from rfl]
        wtm_at "v"
        exact hN _ _ ⟨A, us, _, _, rfl, h6, ne, by omega, by omega, hd5, S6.mono (by omega), F6.2⟩
      · have tl0 : 1 ≤ ts.length := List.length_pos_iff.mpr ht
        have e : (!(ts.map V.int).isEmpty) = true := by
          cases ts with
          | nil => exact absurd rfl ht
          | cons a l => rfl
        rw [e]
        wtm_at "v"
        rw [List.length_map]
        refine c_draw S6 (by omega) (by omega) (by omega) fun j H7 j0 j1 S7 F7 => ?_
        refine i_ixN (SqL.of (F7.oth _ _ hb6 nb nb)) rfl j0 (by omega) fun t ht2 => ?_
        have htr := hg.tn.rng t ht2
        wtm_at "v"
        rename_i q8 H8 n8 s8 g8
        have ub : 40 - 1000000000000000000 ≤ max (40 - 1000000000000000000) (min t (1000000000000000000 - 40)) ∧ max (40 - 1000000000000000000) (min t (1000000000000000000 - 40)) ≤ 1000000000000000000 - 40 := by omega
        generalize max (40 - 1000000000000000000) (min t (1000000000000000000 - 40)) = u at *
        refine i_addL (s8 _ _ (F7.oth _ _ h6 ne ne)) g8 (by simp; omega) fun r H9 n9 s9 g9 => ?_
        have g9 : H9 r = some (.lst ((us ++ [u - 1, u, u + 1]).map V.int)) := by rw [g9]; simp
        wtm_at "v"
        have hr9 : r ≠ st := st_ne1 n9 (S7.same s8)
        exact hN _ _ ⟨r, _, _, _, rfl, g9, hr9, by simp; omega, by simp; omega, fun d hd => by
          rcases List.mem_append.mp hd with h | h
          · exact hd5 d h
          · simp only [List.mem_cons, List.not_mem_nil, or_false] at h
            rcases h with rfl | rfl | rfl <;> omega, (S7.same (s8.trans s9)).mono (by omega), (F6.2.trans F7).trans (Fx.same (s8.trans s9))⟩
    · rintro σ' H6 ⟨p, us, v4, v5, rfl, g6, np, l6, l6', h6, S6, F6⟩
      wtm_at "v"
      rename_i e H7 e0 e1 S7 F7 q8 H8 n8 s8 g8
      refine i_addL (s8 _ _ (F7.oth _ _ g6 np np)) g8 (by simp; omega) fun r H9 n9 s9 g9 => ?_
      have g9 : H9 r = some (.lst ((us ++ [e]).map V.int)) := by rw [g9]; simp
      refine k r _ H9 (new_back (S7.same s8) ((F6.trans F7).trans (Fx.same s8)) n9) g9 (by simp; omega) (by simp; omega) (fun d hd => ?_) ((S7.same (s8.trans s9)).mono (by omega)) ((F6.trans F7).trans (Fx.same (s8.trans s9)))
      rcases List.mem_append.mp hd with h | h
      · exact h6 d h
      · simp at h; omega
end
section
/-! ### days counted and found: plain -/
/-- how many of the n days from a on f says -/
def cntN (f : Int → Bool) (a : Int) : Nat → Nat
  | 0 => 0
  | n + 1 => cntN f a n + (if f (a + n) = true then 1 else 0)
def cnd (f : Int → Bool) (a b : Int) : Nat := cntN f a (b - a).toNat
theorem cntN_add (f : Int → Bool) (a : Int) (m : Nat) : ∀ n : Nat, cntN f a (m + n) = cntN f a m + cntN f (a + m) n
  | 0 => rfl
  | n + 1 => by
    rw [← Nat.add_assoc, cntN, cntN, cntN_add f a m n, Nat.add_assoc]
    congr 3
    rw [show a + ((m + n : Nat) : Int) = a + m + n by omega]
theorem cntN_mono (f : Int → Bool) (a : Int) {m n : Nat} (h : m ≤ n) : cntN f a m ≤ cntN f a n := by
  obtain ⟨k, rfl⟩ := Nat.le.dest h
  rw [cntN_add]
  omega
theorem cntN_congr {f g : Int → Bool} {a : Int} : ∀ {n : Nat}, (∀ d, a ≤ d → d < a + n → f d = g d) → cntN f a n = cntN g a n
  | 0, _ => rfl
  | n + 1, h => by
    rw [cntN, cntN, cntN_congr fun d h1 h2 => h d h1 (by omega), h (a + n) (by omega) (by omega)]
theorem cnd_self (f : Int → Bool) (a : Int) : cnd f a a = 0 := by unfold cnd; rw [Int.sub_self]; rfl
theorem cnd_add {f : Int → Bool} {a b c : Int} (h1 : a ≤ b) (h2 : b ≤ c) : cnd f a c = cnd f a b + cnd f b c := by
  unfold cnd
  rw [show (c - a).toNat = (b - a).toNat + (c - b).toNat by omega, cntN_add, show a + ((b - a).toNat : Int) = b by omega]
theorem cnd_one (f : Int → Bool) (a : Int) : cnd f a (a + 1) = if f a = true then 1 else 0 := by
  unfold cnd
  rw [show (a + 1 - a).toNat = 1 by omega, cntN, cntN, show a + ((0 : Nat) : Int) = a by omega]
  omega
theorem cnd_snoc {f : Int → Bool} {a b : Int} (h : a ≤ b) : cnd f a (b + 1) = cnd f a b + if f b = true then 1 else 0 := by
  rw [cnd_add h (by omega), cnd_one]
theorem cnd_congr {f g : Int → Bool} {a b : Int} (h : ∀ d, a ≤ d → d < b → f d = g d) : cnd f a b = cnd g a b := cntN_congr fun d h1 h2 => h d h1 (by omega)
theorem cnd_mono {f : Int → Bool} {a b c : Int} (h : b ≤ c) : cnd f a b ≤ cnd f a c := cntN_mono f a (by omega)
theorem cnd_zero {f : Int → Bool} {a b : Int} (h : ∀ d, a ≤ d → d < b → f d = false) : cnd f a b = 0 := by
  rw [cnd_congr (g := fun _ => false) h]
  unfold cnd
  induction (b - a).toNat with
  | zero => rfl
  | succ n ih => rw [cntN, ih]; rfl
/-- the next one behind m others -/
theorem cntN_find {f : Int → Bool} {a : Int} {m : Nat} : ∀ {n : Nat}, m < cntN f a n → ∃ i, i < n ∧ f (a + (i : Nat)) = true ∧ cntN f a i = m
  | 0, h => by simp [cntN] at h
  | n + 1, h => by
    by_cases c : m < cntN f a n
    · obtain ⟨i, h1, h2⟩ := cntN_find c
      exact ⟨i, by omega, h2⟩
    · rw [cntN] at h
      by_cases e : f (a + n) = true
      · rw [if_pos e] at h
        exact ⟨n, by omega, e, by omega⟩
      · rw [if_neg e] at h
        omega
/-- what goes round -/
def Per (f : Int → Bool) (p : Nat) : Prop := ∀ d, f (d + p) = f d
theorem Per.mul {f : Int → Bool} {p : Nat} (h : Per f p) : ∀ (k : Nat) (d : Int), f (d + k * p) = f d
  | 0, d => by simp
  | k + 1, d => by
    rw [show d + ((k + 1 : Nat) : Int) * p = d + k * p + p by rw [Int.natCast_succ, Int.add_mul]; omega, h, h.mul k d]
theorem Per.mulI {f : Int → Bool} {p : Nat} (h : Per f p) (k d : Int) : f (d + k * p) = f d := by
  rcases Int.le_total 0 k with c | c
  · obtain ⟨n, rfl⟩ : ∃ n : Nat, k = n := ⟨k.toNat, by omega⟩
    exact h.mul n d
  · obtain ⟨n, rfl⟩ : ∃ n : Nat, k = -n := ⟨(-k).toNat, by omega⟩
    have := h.mul n (d + -(n : Int) * p)
    rw [show d + -(n : Int) * p + n * p = d by rw [Int.neg_mul]; omega] at this
    exact this.symm
theorem Per.mod {f : Int → Bool} {p : Nat} (h : Per f p) (d : Int) : f (d % p) = f d := by
  have := h.mulI (d / p) (d % p)
  rw [show d % p + d / p * p = d by rw [Int.mul_comm]; exact Int.emod_add_mul_ediv d p] at this
  exact this.symm
theorem Per.shift {f : Int → Bool} {p : Nat} (h : Per f p) (a : Int) : cntN f (a + 1) p = cntN f a p := by
  have e1 := cntN_add f a 1 p
  have e2 : cntN f a (1 + p) = cntN f a p + (if f (a + p) = true then 1 else 0) := by rw [Nat.add_comm, cntN]
  have e3 : cntN f a 1 = if f a = true then 1 else 0 := by rw [cntN, cntN, show a + ((0 : Nat) : Int) = a by omega]; omega
  rw [h a] at e2
  rw [show a + ((1 : Nat) : Int) = a + 1 by omega] at e1
  omega
theorem Per.round {f : Int → Bool} {p : Nat} (h : Per f p) (a : Int) : cntN f a p = cntN f 0 p := by
  have up : ∀ n : Nat, ∀ a, cntN f (a + n) p = cntN f a p := fun n => by
    induction n with
    | zero => intro a; rw [show a + ((0 : Nat) : Int) = a by omega]
    | succ n ih => intro a; rw [show a + ((n + 1 : Nat) : Int) = a + n + 1 by omega, h.shift, ih]
  rcases Int.le_total 0 a with c | c
  · have := up a.toNat 0
    rw [show (0 : Int) + a.toNat = a by omega] at this
    exact this
  · have := up (-a).toNat a
    rw [show a + ((-a).toNat : Int) = 0 by omega] at this
    exact this.symm
theorem Per.rounds {f : Int → Bool} {p : Nat} (h : Per f p) (a : Int) : ∀ k : Nat, cntN f a (k * p) = k * cntN f 0 p
  | 0 => by simp [cntN]
  | k + 1 => by rw [Nat.succ_mul, cntN_add, h.rounds a k, h.round (a + ((k * p : Nat) : Int)), Nat.succ_mul]
/-- there is one, in either direction, however far -/
theorem Per.ahead {f : Int → Bool} {p : Nat} (h : Per f p) (hp : 1 ≤ p) {x : Int} (hx : f x = true) (a : Int) : ∃ d, a ≤ d ∧ f d = true := by
  refine ⟨x + (a - x).natAbs * p, ?_, by rw [h.mulI]; exact hx⟩
  have : ((a - x).natAbs : Int) * 1 ≤ ((a - x).natAbs : Int) * p := Int.mul_le_mul_of_nonneg_left (by omega) (by omega)
  omega
theorem Per.back {f : Int → Bool} {p : Nat} (h : Per f p) (hp : 1 ≤ p) {x : Int} (hx : f x = true) (a : Int) : ∃ d, d ≤ a ∧ f d = true := by
  refine ⟨x + -((a - x).natAbs : Int) * p, ?_, by rw [h.mulI]; exact hx⟩
  have : ((a - x).natAbs : Int) * 1 ≤ ((a - x).natAbs : Int) * p := Int.mul_le_mul_of_nonneg_left (by omega) (by omega)
  rw [Int.neg_mul]
  omega
/-- the at-th one from a on -/
theorem Per.nth {f : Int → Bool} {p : Nat} (h : Per f p) (hm : 1 ≤ cntN f 0 p) (a : Int) (at' : Nat) : ∃ d, a ≤ d ∧ f d = true ∧ cnd f a d = at' := by
  have e := h.rounds a (at' + 1)
  have : at' + 1 ≤ (at' + 1) * cntN f 0 p := Nat.le_mul_of_pos_right _ hm
  obtain ⟨i, _, h1, h2⟩ := cntN_find (f := f) (a := a) (m := at') (n := (at' + 1) * p) (by omega)
  exact ⟨a + i, by omega, h1, by unfold cnd; rw [show (a + (i : Int) - a).toNat = i by omega]; exact h2⟩
/-- .. is one alone -/
theorem cnd_lt {f : Int → Bool} {a d e : Int} (h1 : a ≤ d) (h2 : f d = true) (h3 : d < e) : cnd f a d < cnd f a e := by
  have := cnd_snoc (f := f) h1
  rw [if_pos h2] at this
  have := cnd_mono (f := f) (a := a) (b := d + 1) (c := e) (by omega)
  omega
/-! ### by rests -/
theorem rIn_per (rs : List Bool) : Per (rIn rs) rs.length := fun d => by
  unfold rIn
  rw [Int.add_emod_right]
theorem rIn_nat {rs : List Bool} {i : Nat} (h : i < rs.length) : rIn rs i = rs[i] := by
  unfold rIn
  rw [Int.emod_eq_of_lt (by omega) (by omega), Int.toNat_natCast, List.getD_eq_getElem?_getD, List.getElem?_eq_getElem h]
  rfl
theorem rIn_marks (rs : List Bool) : cntN (rIn rs) 0 rs.length = (marksFrom 0 rs).length := by
  have : ∀ n, n ≤ rs.length → cntN (rIn rs) 0 n = (marksFrom 0 (rs.take n)).length := fun n => by
    induction n with
    | zero => intro _; rfl
    | succ n ih =>
      intro hn
      have h : n < rs.length := by omega
      rw [cntN, ih (by omega), show rs.take (n + 1) = rs.take n ++ [rs[n]] by rw [List.take_add_one, List.getElem?_eq_getElem h]; rfl, marks_snoc, List.length_append, show (0 : Int) + n = ((n : Nat) : Int) by omega, rIn_nat h]
      cases rs[n] <;> simp
  have := this rs.length (Nat.le_refl _)
  rwa [List.take_length] at this
theorem rIn_some {rs : List Bool} (h : 1 ≤ (marksFrom 0 rs).length) : ∃ x, rIn rs x = true := by
  obtain ⟨i, _, e, _⟩ := cntN_find (f := rIn rs) (a := 0) (m := 0) (n := rs.length) (by rw [rIn_marks]; omega)
  exact ⟨_, e⟩
theorem rIn_none {rs : List Bool} (h0 : 1 ≤ rs.length) (h : (marksFrom 0 rs).length = 0) (d : Int) : rIn rs d = false := by
  cases e : rIn rs d with
  | false => rfl
  | true =>
    have h1 := Int.emod_nonneg d (b := (rs.length : Int)) (by omega)
    have h2 := Int.emod_lt_of_pos d (b := (rs.length : Int)) (by omega)
    have z : rIn rs (d % rs.length) = true := by rw [(rIn_per rs).mod]; exact e
    have h3 := cnd_lt (f := rIn rs) (a := 0) (e := rs.length) h1 z h2
    have h4 : cnd (rIn rs) 0 rs.length = cntN (rIn rs) 0 rs.length := by unfold cnd; congr 1
    rw [h4, rIn_marks, h] at h3
    omega
/-! ### the least form of rests says the same -/
theorem per_take {rs : List Bool} {q : Nat} (q0 : 1 ≤ q) (qd : q ∣ rs.length) (l0 : 1 ≤ rs.length) (h : rs.drop q = rs.take (rs.length - q)) : ∀ d, rIn (rs.take q) d = rIn rs d := by
  have ql : q ≤ rs.length := Nat.le_of_dvd l0 qd
  have hg : ∀ i, i + q < rs.length → rs[i + q]? = rs[i]? := fun i hi => by
    have := congrArg (fun l : List Bool => l[i]?) h
    simp only [List.getElem?_drop, List.getElem?_take] at this
    rw [if_pos (by omega)] at this
    rw [Nat.add_comm i q]
    exact this
  have hs : Per (rIn rs) q := fun d => by
    have e1 := Int.emod_nonneg d (b := (rs.length : Int)) (by omega)
    have e2 := Int.emod_lt_of_pos d (b := (rs.length : Int)) (by omega)
    rw [← (rIn_per rs).mod d, ← (rIn_per rs).mod (d + q)]
    obtain ⟨i, hi⟩ : ∃ i : Nat, d % rs.length = i := ⟨(d % rs.length).toNat, by omega⟩
    rw [show (d + (q : Int)) % rs.length = ((i : Int) + q) % rs.length by rw [← hi, Int.emod_add_emod], hi]
    by_cases c : i + q < rs.length
    · rw [Int.emod_eq_of_lt (by omega) (by omega), show (i : Int) + q = ((i + q : Nat) : Int) by omega]
      have := hg i c
      rw [List.getElem?_eq_getElem c, List.getElem?_eq_getElem (by omega)] at this
      rw [rIn_nat c, rIn_nat (by omega)]
      exact Option.some.inj this
    · -- around the end: back by whole periods
      obtain ⟨m, hm⟩ := qd
      have back : ∀ k i : Nat, i + k * q < rs.length → rs[i + k * q]? = rs[i]? := fun k => by
        induction k with
        | zero => intro i _; simp
        | succ k ih =>
          intro i hk
          rw [Nat.succ_mul] at hk ⊢
          rw [← Nat.add_assoc, hg (i + k * q) (by omega)]
          exact ih i (by omega)
      have m1 : 1 ≤ m := by
        rcases Nat.eq_zero_or_pos m with z | z
        · rw [z, Nat.mul_zero] at hm; omega
        · exact z
      have e : rs.length = (m - 1) * q + q := by
        rw [hm, Nat.mul_comm q m]
        obtain ⟨k, rfl⟩ : ∃ k, m = k + 1 := ⟨m - 1, by omega⟩
        rw [Nat.succ_mul]; rfl
      obtain ⟨j, hj⟩ : ∃ j, i = j + (m - 1) * q := ⟨i - (m - 1) * q, by omega⟩
      have hj2 : ((i : Int) + q) % rs.length = (j : Nat) := by
        rw [show (i : Int) + q = (j : Int) + rs.length by omega, Int.add_emod_right, Int.emod_eq_of_lt (by omega) (by omega)]
      rw [hj2, rIn_nat (by omega), rIn_nat (by omega)]
      have := back (m - 1) j (by omega)
      rw [← hj, List.getElem?_eq_getElem (by omega), List.getElem?_eq_getElem (by omega)] at this
      exact (Option.some.inj this).symm
  intro d
  have lt : (rs.take q).length = q := by rw [List.length_take]; omega
  have e1 := Int.emod_nonneg d (b := (q : Int)) (by omega)
  have e2 := Int.emod_lt_of_pos d (b := (q : Int)) (by omega)
  have p1 : Per (rIn (rs.take q)) q := by have := rIn_per (rs.take q); rwa [lt] at this
  rw [← p1.mod d, ← hs.mod d]
  obtain ⟨i, hi⟩ : ∃ i : Nat, d % (q : Int) = i := ⟨(d % (q : Int)).toNat, by omega⟩
  rw [hi, rIn_nat (by omega), rIn_nat (by omega), List.getElem_take]
theorem leastGo_same : ∀ (f : Nat) (rs : List Bool) (b : Nat), 2 ≤ b → 1 ≤ rs.length → (∀ d, rIn (leastGo f rs b) d = rIn rs d) ∧ 1 ≤ (leastGo f rs b).length
  | 0, rs, b, _, l0 => ⟨fun _ => rfl, l0⟩
  | f + 1, rs, b, b2, l0 => by
    unfold leastGo
    split
    · rename_i c
      split
      · rename_i z
        have q0 : 1 ≤ rs.length / b := Nat.div_pos c (by omega)
        have qd : rs.length / b ∣ rs.length := ⟨b, by rw [Nat.mul_comm]; exact (Nat.mul_div_cancel' (Nat.dvd_of_mod_eq_zero z.1)).symm⟩
        have lt := Nat.div_le_self rs.length b
        obtain ⟨h1, h2⟩ := leastGo_same f (rs.take (rs.length / b)) b b2 (by rw [List.length_take]; omega)
        exact ⟨fun d => by rw [h1, per_take q0 qd l0 z.2], h2⟩
      · exact leastGo_same f rs (b + 1) (by omega) l0
    · exact ⟨fun _ => rfl, l0⟩
theorem least_same {rs : List Bool} (l0 : 1 ≤ rs.length) (d : Int) : rIn (leastR rs) d = rIn rs d := (leastGo_same _ rs 2 (by omega) l0).1 d
theorem least_len {rs : List Bool} (l0 : 1 ≤ rs.length) : 1 ≤ (leastR rs).length := (leastGo_same _ rs 2 (by omega) l0).2
end
section
/-! ### the least form is one alone -/
def Prim (rs : List Bool) : Prop := 1 ≤ rs.length ∧ ∀ q, q ∣ rs.length → 1 ≤ q → q < rs.length → ¬ Per (rIn rs) q
theorem Per.times {f : Int → Bool} {p : Nat} (h : Per f p) (k : Nat) : Per f (p * k) := fun d => by
  have := h.mul k d
  rw [show (k : Int) * p = ((p * k : Nat) : Int) by push_cast; exact Int.mul_comm _ _] at this
  exact this
theorem Per.gcd {f : Int → Bool} (m n : Nat) : Per f m → Per f n → Per f (Nat.gcd m n) :=
  Nat.gcd.induction (P := fun m n => Per f m → Per f n → Per f (Nat.gcd m n)) m n (fun n _ h => by rw [Nat.gcd_zero_left]; exact h) fun m n hm ih h1 h2 => by
    rw [Nat.gcd_rec]
    refine ih (fun d => ?_) h1
    have e := h1.mul (n / m) (d + (n % m : Nat))
    have e2 : d + ((n % m : Nat) : Int) + ((n / m : Nat) : Int) * m = d + (n : Nat) := by
      have := Nat.mod_add_div n m
      have : ((n % m : Nat) : Int) + ((n / m : Nat) : Int) * m = n := by
        rw [Int.mul_comm]
        exact_mod_cast this
      omega
    rw [e2, h2] at e
    exact e.symm
theorem per_drop {rs : List Bool} {q : Nat} (h : Per (rIn rs) q) (hq : q ≤ rs.length) : rs.drop q = rs.take (rs.length - q) := by
  apply List.ext_getElem?
  intro i
  rw [List.getElem?_drop, List.getElem?_take]
  by_cases c : i < rs.length - q
  · rw [if_pos c, List.getElem?_eq_getElem (by omega), List.getElem?_eq_getElem (by omega)]
    have := h (i : Int)
    rw [show (i : Int) + q = ((q + i : Nat) : Int) by omega, rIn_nat (by omega), rIn_nat (by omega)] at this
    rw [this]
  · rw [if_neg c, List.getElem?_eq_none (by omega)]
theorem leastGo_prim : ∀ (f : Nat) (rs : List Bool) (b : Nat), 2 ≤ b → 1 ≤ rs.length → 2 * rs.length + 2 - b ≤ f → (∀ c, 2 ≤ c → c < b → c ∣ rs.length → ¬ Per (rIn rs) (rs.length / c)) → Prim (leastGo f rs b)
  | f, rs, b, b2, l0, hf, hA => by
    have fin : rs.length < b → Prim rs := fun hb => by
      refine ⟨l0, fun q qd q0 ql hper => ?_⟩
      obtain ⟨c, hc⟩ := qd
      have c2 : 2 ≤ c := by
        rcases Nat.lt_or_ge c 2 with z | z
        · have : c = 0 ∨ c = 1 := by omega
          rcases this with rfl | rfl
          · rw [Nat.mul_zero] at hc; omega
          · rw [Nat.mul_one] at hc; omega
        · exact z
      have cl : c ≤ rs.length := by
        rw [hc]
        exact Nat.le_mul_of_pos_left c q0
      refine hA c c2 (by omega) ⟨q, by rw [hc, Nat.mul_comm]⟩ ?_
      rw [hc, Nat.mul_div_cancel q (by omega)]
      exact hper
    cases f with
    | zero => exact fin (by omega)
    | succ f =>
      unfold leastGo
      split
      · rename_i c
        split
        · rename_i z
          have q0 : 1 ≤ rs.length / b := Nat.div_pos c (by omega)
          have hl : rs.length = rs.length / b * b := (Nat.div_mul_cancel (Nat.dvd_of_mod_eq_zero z.1)).symm
          have qd : rs.length / b ∣ rs.length := ⟨b, hl⟩
          have lt := Nat.div_le_self rs.length b
          have lt2 : rs.length / b * 2 ≤ rs.length / b * b := Nat.mul_le_mul_left _ b2
          have lr : (rs.take (rs.length / b)).length = rs.length / b := by rw [List.length_take]; omega
          refine leastGo_prim f (rs.take (rs.length / b)) b b2 (by omega) (by omega) fun e e2 eb ed hper => ?_
          rw [lr] at ed hper
          have hf : rIn (rs.take (rs.length / b)) = rIn rs := funext (per_take q0 qd l0 z.2)
          rw [hf] at hper
          obtain ⟨m, hm⟩ := ed
          have hd : e ∣ rs.length := ⟨m * b, by rw [hl, hm, Nat.mul_assoc]⟩
          refine hA e e2 eb hd ?_
          have : rs.length / e = rs.length / b / e * b := by
            rw [hm, Nat.mul_div_cancel_left m (by omega)]
            conv => lhs; rw [hl, hm, Nat.mul_assoc]
            rw [Nat.mul_div_cancel_left _ (by omega)]
          rw [this]
          exact hper.times b
        · rename_i z
          refine leastGo_prim f rs (b + 1) (by omega) l0 (by omega) fun e e2 eb ed hper => ?_
          by_cases k : e = b
          · subst k
            exact z ⟨Nat.mod_eq_zero_of_dvd ed, per_drop hper (Nat.div_le_self _ _)⟩
          · exact hA e e2 (by omega) ed hper
      · rename_i c
        exact fin (by omega)
theorem least_prim {rs : List Bool} (l0 : 1 ≤ rs.length) : Prim (leastR rs) := leastGo_prim _ rs 2 (by omega) l0 (by omega) fun c h1 h2 => by omega
theorem prim_eq {r s : List Bool} (hr : Prim r) (hs : Prim s) (h : ∀ d, rIn r d = rIn s d) : r = s := by
  have e : rIn r = rIn s := funext h
  have g := Per.gcd r.length s.length (rIn_per r) (by rw [e]; exact rIn_per s)
  have g1 : Nat.gcd r.length s.length = r.length := by
    rcases Nat.lt_or_ge (Nat.gcd r.length s.length) r.length with z | z
    · exact absurd g (hr.2 _ (Nat.gcd_dvd_left _ _) (Nat.gcd_pos_of_pos_left _ hr.1) z)
    · exact Nat.le_antisymm (Nat.le_of_dvd hr.1 (Nat.gcd_dvd_left _ _)) z
  have g2 : Nat.gcd r.length s.length = s.length := by
    rcases Nat.lt_or_ge (Nat.gcd r.length s.length) s.length with z | z
    · rw [e] at g
      exact absurd g (hs.2 _ (Nat.gcd_dvd_right _ _) (Nat.gcd_pos_of_pos_left _ hr.1) z)
    · exact Nat.le_antisymm (Nat.le_of_dvd hs.1 (Nat.gcd_dvd_right _ _)) z
  have l : r.length = s.length := g1.symm.trans g2
  apply List.ext_getElem l
  intro i h1 h2
  have := h i
  rwa [rIn_nat h1, rIn_nat h2] at this
/-- rests that differ somewhere differ from any day on -/
theorem differ_on {r s : List Bool} (hr : Prim r) (hs : Prim s) (h : r ≠ s) (b : Int) : ∃ d, b ≤ d ∧ rIn r d ≠ rIn s d := by
  obtain ⟨x, hx⟩ : ∃ x, rIn r x ≠ rIn s x := by
    refine Classical.byContradiction fun z => h (prim_eq hr hs fun d => ?_)
    exact Classical.byContradiction fun y => z ⟨d, y⟩
  have p1 := (rIn_per r).times s.length
  have p2 := (rIn_per s).times r.length
  rw [Nat.mul_comm] at p2
  have k1 : 1 ≤ r.length * s.length := Nat.mul_pos hr.1 hs.1
  have hper : Per (fun d => rIn r d != rIn s d) (r.length * s.length) := fun d => by
    show (rIn r _ != rIn s _) = _
    rw [p1, p2]
  obtain ⟨d, h1, h2⟩ := hper.ahead k1 (x := x) (by simpa using hx) b
  exact ⟨d, h1, by simpa using h2⟩
/-! ### the least, the greatest, the at-th one -/
def FirstOn (u : Int → Bool) (b : Int) : Option Int → Prop
  | some d => b ≤ d ∧ u d = true ∧ ∀ e, b ≤ e → e < d → u e = false
  | none => ∀ e, b ≤ e → u e = false
def LastTo (u : Int → Bool) (a : Int) : Option Int → Prop
  | some d => d < a ∧ u d = true ∧ ∀ e, d < e → e < a → u e = false
  | none => ∀ e, e < a → u e = false
def NthOn (u : Int → Bool) (b : Int) (at' : Nat) : Option Int → Prop
  | some d => b ≤ d ∧ u d = true ∧ cnd u b d = at'
  | none => ∀ n, cntN u b n ≤ at'
theorem tf_no {b : Bool} {P : Prop} (h1 : b = true) (h2 : b = false) : P := by rw [h1] at h2; cases h2
theorem FirstOn.one {u : Int → Bool} {b : Int} : ∀ {x y : Option Int}, FirstOn u b x → FirstOn u b y → x = y
  | none, none, _, _ => rfl
  | some d, none, h, k => tf_no h.2.1 (k d h.1)
  | none, some d, h, k => tf_no k.2.1 (h d k.1)
  | some d, some e, h, k => by
    rcases Int.lt_trichotomy d e with c | c | c
    · exact tf_no h.2.1 (k.2.2 d h.1 c)
    · rw [c]
    · exact tf_no k.2.1 (h.2.2 e k.1 c)
theorem LastTo.one {u : Int → Bool} {b : Int} : ∀ {x y : Option Int}, LastTo u b x → LastTo u b y → x = y
  | none, none, _, _ => rfl
  | some d, none, h, k => tf_no h.2.1 (k d h.1)
  | none, some d, h, k => tf_no k.2.1 (h d k.1)
  | some d, some e, h, k => by
    rcases Int.lt_trichotomy d e with c | c | c
    · exact tf_no k.2.1 (h.2.2 e c k.1)
    · rw [c]
    · exact tf_no h.2.1 (k.2.2 d c h.1)
theorem cnd_pos {u : Int → Bool} {b d : Int} (h1 : b ≤ d) {e : Int} (h2 : d < e) (h3 : u d = true) : 1 ≤ cnd u b e := by
  have := cnd_lt h1 h3 h2
  omega
theorem NthOn.first {u : Int → Bool} {b : Int} : ∀ {x : Option Int}, NthOn u b 0 x → FirstOn u b x
  | none, h => fun e he => by
    cases z : u e with
    | false => rfl
    | true =>
      have := h (e + 1 - b).toNat
      have := cnd_pos he (show e < e + 1 by omega) z
      unfold cnd at this
      omega
  | some d, h => ⟨h.1, h.2.1, fun e h1 h2 => by
    cases z : u e with
    | false => rfl
    | true =>
      have := cnd_pos h1 h2 z
      have := h.2.2
      omega⟩
end
section
/-! ### things of any kind handed as days: plain and promises -/
def thI (xs : List V) : List Int := xs.filterMap fun v => match v with | .int i => some i | _ => none
theorem thI_eq : ∀ {xs : List V}, xs.all isW = true → xs = (thI xs).map V.int
  | [], _ => rfl
  | x :: l, h => by
    rw [List.all_cons, Bool.and_eq_true] at h
    obtain ⟨i, rfl⟩ := isW_int h.1
    have := thI_eq h.2
    show V.int i :: l = V.int i :: (thI l).map V.int
    rw [← this]
theorem thI_map (ns : List Int) : thI (ns.map V.int) = ns := by
  induction ns with
  | nil => rfl
  | cons n l ih =>
    show n :: thI (l.map V.int) = n :: l
    rw [ih]
/-- no row -/
inductive NoRow (H : Hp) : V → Prop
  | int (i : Int) : NoRow H (.int i)
  | bl (b : Bool) : NoRow H (.bl b)
  | non : NoRow H .non
  | str (z : Str) : NoRow H (.str z)
  | dct {p : Addr} {kvs : List (Key × V)} (h : H p = some (.dK kvs)) : NoRow H (.ref p)
/-- a row's things, or no row -/
inductive ThR (K : PySem.W.Frag) (H : Hp) : V → Option (List V) → Prop
  | row {a : Addr} {t : Bool} {xs : List V} (h : SqV K H a t xs) (hk : ∀ x ∈ xs, Known K H x) (hl : xs.length ≤ 4000) : ThR K H (.ref a) (some xs)
  | no {v : V} (h : NoRow H v) : ThR K H v none
theorem ThR.same {K : PySem.W.Frag} {H H' : Hp} {v : V} {o : Option (List V)} (e : Same H H') (h : ThR K H v o) : ThR K H' v o := by
  cases h with
  | row h hk hl => exact .row (h.same e) (fun x hx => (hk x hx).same e) hl
  | no h =>
    refine .no ?_
    cases h with
    | int i => exact .int i
    | bl b => exact .bl b
    | non => exact .non
    | str z => exact .str z
    | dct h => exact .dct (e _ _ h)
def unlR : Option (List V) → Bool
  | none => false
  | some xs => xs.all isW && decide (thI xs).Nodup
/-- whether such things make days -/
def areD : V → Option (List V) → Option (List V) → Bool
  | .int p, m, t => decide (1 ≤ p) && decide (p ≤ 5040) && unlR m && (thI (m.getD [])).all (fun i => decide (0 ≤ i) && decide (i < p)) && unlR t && decide ((t.getD []).length ≤ 60)
  | _, _, _ => false
def spUnlX (K : PySem.W.Frag) : Sp := fun vs H Q _ => ∃ (v : V) (o : Option (List V)), vs = [v] ∧ ThR K H v o ∧ ∀ H', Same H H' → Q (.bl (unlR o)) H'
theorem c_unlX {K : PySem.W.Frag} {v : V} {o : Option (List V)} {H : Hp} {Q : VK} {E : XK} (h : ThR K H v o) (k : ∀ H', Same H H' → Q (.bl (unlR o)) H') : spUnlX K ([v] ++ []) H Q E := ⟨v, o, rfl, h, k⟩
def spAreDaysX (K : PySem.W.Frag) : Sp := fun vs H Q _ => ∃ (v m t : V) (om ot : Option (List V)), vs = [v, m, t] ∧ Known K H v ∧ ThR K H m om ∧ ThR K H t ot ∧ ∀ H', Same H H' → Q (.bl (areD v om ot)) H'
theorem c_areDaysX {K : PySem.W.Frag} {v m t : V} {om ot : Option (List V)} {H : Hp} {Q : VK} {E : XK} (h1 : Known K H v) (h2 : ThR K H m om) (h3 : ThR K H t ot) (k : ∀ H', Same H H' → Q (.bl (areD v om ot)) H') : spAreDaysX K ([v, m, t] ++ []) H Q E := ⟨v, m, t, om, ot, rfl, h1, h2, h3, k⟩
def spDaysX (K : PySem.W.Frag) (D : Addr) : Sp := fun vs H _ E => ∃ (s : Addr) (v m t : V) (om ot : Option (List V)), vs = [.ref s, v, m, t] ∧ Known K H v ∧ ThR K H m om ∧ ThR K H t ot ∧ areD v om ot = false ∧ ∀ H', Same H H' → E (.ref D) none H'
section
variable {K : PySem.W.Frag} {H : Hp} {Q : VK}
theorem i_isiTN {v : V} {p : Addr} (h1 : NoRow H v) (hp : TpH H p [.ty "tuple", .ty "list"]) (q : Q (.bl false) H) : rIsiT K [v, .ref p] H Q := by
  have go : ∀ T : String, TyX K H v (.type T) → PySem.W.kitOne K (.type T) (.type "tuple") = some false → PySem.W.kitOne K (.type T) (.type "list") = some false → rIsiT K [v, .ref p] H Q := fun T ty k1 k2 =>
    ⟨v, p, _, .type T, [.type "tuple", .type "list"], false, rfl, hp.eq, .cons (.ty _) (.cons (.ty _) .nil), ty, kit_TL (b := false) (c := false) k1 k2, q⟩
  cases h1 with
  | int i => exact go "int" (.base (.int i)) (kit_ty (by decide +kernel)) (kit_ty (by decide +kernel))
  | bl b => exact go "bool" (.base (.bl b)) (kit_ty (by decide +kernel)) (kit_ty (by decide +kernel))
  | non => exact go "NoneType" (.base .non) (kit_ty (by decide +kernel)) (kit_ty (by decide +kernel))
  | str z => exact go "str" (.base (.str z)) (kit_ty (by decide +kernel)) (kit_ty (by decide +kernel))
  | dct h => exact go "dict" (.base (.dK h)) (kit_ty (by decide +kernel)) (kit_ty (by decide +kernel))
end
end
section
/-! ### the steps as one word: wtm_at "v1" a step, wtm_at "v" as many as go -/
local macro_rules | `(tactic| wtm_at "tm") => `(tactic| first
  | exact Tm.refl _
  | exact Tm.same (by with_reducible assumption)
  | exact Tm.fx (by with_reducible assumption)
  | (refine Tm.trans ?_ (Tm.same (by with_reducible assumption)); wtm_at "tm")
  | (refine Tm.trans ?_ (Tm.fx (by with_reducible assumption)); wtm_at "tm") | fail)
local macro_rules | `(tactic| wtm_at "lkT1") => `(tactic| first
  | with_reducible assumption
  | exact TpK.tp (by with_reducible assumption)
  | exact TpH.tm (by with_reducible assumption) (by wtm_at "tm")
  | exact Tp.tm (by with_reducible assumption) (by wtm_at "tm")
  | exact Tp.of (by with_reducible assumption) | fail)
local macro_rules | `(tactic| wtm_at "lkT") => `(tactic| first
  | wtm_at "lkT1"
  | fail)
local macro_rules | `(tactic| wtm_at "lk") => `(tactic| first
  | assumption
  | exact b_get (by assumption) (by wtm_at "lk")
  | exact b_lst (by assumption) (by wtm_at "ne") (by wtm_at "ne") (by wtm_at "lk") | fail)
local macro_rules | `(tactic| wtm_at "lkL") => `(tactic| first
  | assumption
  | exact SqL.of (by wtm_at "lk")
  | exact b_L (by assumption) (by wtm_at "lkL") | fail)
local macro_rules | `(tactic| wtm_at "intL") => `(tactic| first | exact IntL.nil | exact IntL.cons (by wtm_at "intL") | fail)
local macro_rules | `(tactic| wtm_at "lkS0") => `(tactic| first
  | with_reducible assumption
  | exact StoreAt.same (by with_reducible assumption) (by wtm_at "lkS0") | fail)
local macro_rules | `(tactic| wtm_at "lkS") => `(tactic| first
  | with_reducible assumption
  | exact StoreAt.from (by with_reducible assumption) (by wtm_at "sm") | fail)
local macro_rules | `(tactic| wtm_at "ne") => `(tactic| first
  | assumption
  | exact Ne.symm (by assumption)
  | exact st_ne1 (by with_reducible assumption) (by wtm_at "lkS0")
  | exact st_ne2 (by with_reducible assumption) (by wtm_at "lkS0")
  | exact new_ne (by assumption) (by wtm_at "lk")
  | exact new_ne' (by assumption) (by wtm_at "lk") | fail)
local macro_rules | `(tactic| wtm_at "sm") => `(tactic| first
  | with_reducible assumption
  | exact Same.refl _
  | (refine Same.trans ?_ (by with_reducible assumption); wtm_at "sm") | fail)
local macro_rules | `(tactic| wtm_at "fx") => `(tactic| first
  | with_reducible assumption
  | exact Fx.same (Same.refl _)
  | exact Fx.same (by with_reducible assumption)
  | (refine Fx.trans ?_ (by with_reducible assumption); wtm_at "fx")
  | (refine Fx.trans ?_ (Fx.same (by with_reducible assumption)); wtm_at "fx") | fail)
local macro_rules | `(tactic| wtm_at "v0") => `(tactic| first
  | with_reducible refine i_seq ?_ | with_reducible refine i_asg ?_ | with_reducible refine i_var rfl ?_ | with_reducible refine i_c ?_ | with_reducible refine i_name ?_
  | with_reducible refine i_op ?_ | with_reducible refine i_ifS ?_ | with_reducible refine i_test ?_ | with_reducible refine i_tB ?_
  | with_reducible refine i_cons ?_ | with_reducible refine i_nil ?_ | with_reducible refine i_call ?_ | with_reducible refine i_callN ?_ | with_reducible refine i_callX ?_ | with_reducible refine i_callNX ?_ | with_reducible refine i_cb ?_
  | with_reducible refine i_tup ?_ | with_reducible refine i_lst ?_ | with_reducible refine i_ret ?_ | with_reducible refine i_retN ?_ | with_reducible refine i_drop ?_
  | with_reducible refine i_next ?_ | with_reducible refine i_par ?_ | with_reducible refine i_par2 ?_ | with_reducible refine i_ifE ?_ | with_reducible refine i_un ?_
  | with_reducible refine i_and ?_ | with_reducible refine i_or ?_ | with_reducible refine i_not ?_ | with_reducible refine i_andV ?_ | with_reducible refine i_orV ?_ | with_reducible refine i_notV ?_
  | with_reducible refine i_notV2 ?_ | with_reducible refine i_bif (A := fun _ => _) ?_ | with_reducible refine i_brk ?_ | with_reducible refine i_ctn ?_
  | with_reducible refine i_abs ?_ | with_reducible refine i_min ?_ | with_reducible refine i_max ?_ | with_reducible refine i_for ?_ | with_reducible refine i_iR1 ?_ | with_reducible refine i_iR2 ?_ | with_reducible refine i_iL ?_ | with_reducible refine i_iT ?_ | with_reducible refine i_wb ?_
  | with_reducible refine i_sl ?_ | with_reducible refine i_no ?_ | with_reducible refine i_so ?_ | with_reducible refine i_exI ?_ | with_reducible refine i_exB ?_ | with_reducible refine i_gcons ?_ | with_reducible refine i_gnil ?_ | with_reducible refine i_bm ?_ | with_reducible refine i_gsub ?_ | with_reducible refine i_lc ?_ | with_reducible refine i_yes ?_ | with_reducible refine i_iE ?_
  | with_reducible refine ite_1 ?_ | with_reducible refine i_pow6 ?_ | with_reducible refine i_pow18 ?_ | with_reducible refine i_pow30 ?_
  | with_reducible refine i_addI ?_ | with_reducible refine i_I0 ?_ | with_reducible refine i_U ?_ | with_reducible refine i_eqI ?_ | with_reducible refine i_neI ?_ | fail)
local macro_rules | `(tactic| wtm_at "v1") => `(tactic| first
  | wtm_at "v0"
  | ((with_reducible show rIx _ _ _ _ _); first | refine i_ixT (by wtm_at "lkT") rfl ?_ | refine i_ixL (by wtm_at "lkL") rfl ?_)
  | ((with_reducible show rLenU _ _ _ _); first | refine i_lenT (by wtm_at "lkT") ?_ | refine i_lenL (by wtm_at "lkL") ?_)
  | ((with_reducible show spDraw _ _ _ _); refine c_draw (by wtm_at "lkS") (by first | decide | omega) (by first | decide | omega) (by omega) ?_; intro _ _ _ _ _ _)
  | (with_reducible refine i_newTH (by first | decide | (simp; done)) ?_; intro _ _ _ _ _)
  | (with_reducible refine i_newL (by first | decide | (simp; done)) ?_; intro _ _ _ _ _) | fail)
local macro_rules | `(tactic| wtm_at "v") => `(tactic| repeat wtm_at "v1")
local macro_rules | `(tactic| wtm_at "vi") => `(tactic| repeat ((fail_if_success (with_reducible show tIfS _ _ _ _ _ _)); wtm_at "v1"))
local macro_rules | `(tactic| wtm_at "v0") => `(tactic| first | with_reducible refine ite_0 ?_ | with_reducible refine ite_n0 ?_ | with_reducible refine ite_n1 ?_ | fail)
variable {P : Program} {w : World} {K : PySem.W.Frag} {mg : Str → Option Value} {base : Heap}
theorem ok_unlX {f : Addr} {fd : FuncData} (F : FunD K "are_unlike_wholes" "are_unlike_wholes" (defArgs s_are_unlike_wholes) (defBody s_are_unlike_wholes) (defScope s_are_unlike_wholes) [] [] f fd) (O_is_whole : Own P w K mg base CX0 1 "is_whole" ["thing"] [] (spWhole K))
    (n_isinstance : mg "isinstance" = none) (n_len : mg "len" = none) (n_all : mg "all" = none) (n_tuple : mg "tuple" = none) (n_list : mg "list" = none) : FnG P w K mg base CX0 2 f fd ["thing"] (spUnlX K) := by
  refine okG (k := 1) F sc_are_unlike_wholes (fun vs H Q E h => ?_) (fun cdv A hG outer s H vs Q E hr h => ?_)
  · obtain ⟨a, b, rfl, _⟩ := h
    rfl
  · obtain ⟨v, o, rfl, h, k⟩ := h
    refine ⟨_, (pss_cons (ps_if ((pw_or (pt_not (pt_val (pe_callB (k_isiT K) (by rfl) n_isinstance bt_isinstance (pa_cons (pv 0) (pa_cons (pe_tup (pa_cons (pe_bltn (v := .ty "tuple") (by rfl) n_tuple (by decide +kernel) rfl) (pa_cons (pe_bltn (v := .ty "list") (by rfl) n_list (by decide +kernel) rfl) pa_nil))) pa_nil))))) (pw_or1 (pt_not (pt_val (pe_callB (k_all K rfl) (by rfl) n_all bt_all (pa_cons (pe_lc (own := [("number", 1)]) rfl sc_are_unlike_wholes.nd (k_piS K (pv 0)) (blkOk_by (N := ["thing", "number"]) (sc := defScope s_are_unlike_wholes) (by decide +kernel)) (fun _ _ _ _ _ => (pg_name (i := 1) sc_are_unlike_wholes.nd rfl (Or.inl rfl))) (fun _ _ _ _ _ => pts_nil) (fun _ _ _ _ _ => (pe_own O_is_whole hG (hr.mono (by decide)) pass0 (pa_cons (pv 1) pa_nil)))) pa_nil))))))).pt (pss_one (ps_ret pe_bl)) pss_nil) (pss_one (ps_ret (pe_cmpR (k_eq K hr) (pe_callB (k_lenS w) (by rfl) n_len bt_len (pa_cons (k_si w (own := [("number", 1)]) rfl sc_are_unlike_wholes.nd (k_piS K (pv 0)) (blkOk_by (N := ["thing", "number"]) (sc := defScope s_are_unlike_wholes) (by decide +kernel)) (fun _ _ _ _ _ => (pg_name (i := 1) sc_are_unlike_wholes.nd rfl (Or.inl rfl))) (fun _ _ _ _ _ => pts_nil) (fun _ _ _ _ _ => (pv 1))) pa_nil)) (pe_callB (k_len K) (by rfl) n_len bt_len (pa_cons (pv 0) pa_nil)) (nomark _))))), ?_⟩
    wtm_at "v"
    rename_i p1 H1 n1 s1 t1
    have h' := h.same s1
    cases h' with
    | no h0 =>
      refine i_isiTN h0 t1 ?_
      wtm_at "v"
      exact k _ s1
    | @row a t xs h1 hk hl =>
    refine i_isiTL h1 t1 ?_
    wtm_at "v"
    refine i_iS ?_
    wtm_at "v"
    refine i_lcV h1 (fun i => ((xs.take i).map isW).map V.bl) (by simp) ?_ ?_
    · intro A i x H4 nA hx hi sA hA
      have hkx := (hk x (List.mem_of_getElem? hx)).same sA
      wtm_at "v"
      refine ⟨rfl, ?_⟩
      wtm_at "v"
      refine c_whole hkx ?_
      exact lc_yes nA hA (by rw [List.take_add_one, hx]; simp) (by simp; omega) sA
    intro A2 H2 n2 s2 h2
    rw [List.take_length] at h2
    wtm_at "v"
    refine i_all (SqL.of h2) ?_
    have e2 : (xs.map isW).all id = xs.all isW := by rw [List.all_map]; rfl
    rw [e2]
    cases e3 : xs.all isW with
    | false =>
      wtm_at "v"
      have := k _ (s1.trans s2)
      rw [unlR, e3] at this
      exact this
    | true =>
    rw [unlR, e3, Bool.true_and] at k
    have ex := thI_eq e3
    generalize thI xs = ns at *
    subst ex
    rw [List.length_map] at hl
    wtm_at "v"
    refine i_si ?_
    refine i_iS ?_
    wtm_at "v"
    refine i_siV (h1.same s2) (fun A i H' => Same H2 H' ∧ SetL w H' A (ns.take i)) (fun A nA => ⟨same_new nA, setL_new⟩) (fun A i H' _ p => (h1.same s2).same p.1) ?_ ?_
    · rintro A i x H' nA hx ⟨sm, hs⟩
      obtain ⟨c, hc, rfl⟩ : ∃ c, ns[i]? = some c ∧ V.int c = x := by simpa using hx
      wtm_at "v"
      refine ⟨rfl, ?_⟩
      wtm_at "v"
      refine i_elt ?_
      wtm_at "v"
      refine setL_add (Nx := fun H' => Same H2 H' ∧ SetL w H' A (ns.take (i + 1))) hs (by rw [List.length_take]; omega) fun H'' oth hs' => ⟨fun b o e => oth b o (fun z => by subst z; rw [show H2 b = none from nA] at e; cases e) (sm b o e), ?_⟩
      rw [List.take_add_one, hc]
      exact hs'
    · rintro A H3 nA ⟨sm, hs⟩
      rw [List.length_map, List.take_length] at hs
      wtm_at "v"
      refine i_lenSet hs hl fun n _ hn => ?_
      wtm_at "v"
      refine i_lenV ((h1.same s2).same sm) ?_
      wtm_at "v"
      have e : decide ((n : Int) = ((ns.map V.int).length : Int)) = decide ns.Nodup := by
        rw [List.length_map]
        by_cases h : ns.Nodup
        · rw [decide_eq_true h, hn.mpr h]; simp
        · rw [decide_eq_false h]
          exact decide_eq_false fun z => h (hn.mp (by omega))
      rw [e]
      exact k _ (((s1.trans s2).trans sm))
theorem ok_areDaysX {f : Addr} {fd : FuncData} {t1 t2 : Tok} (F : FunD K "are_days" "are_days" (defArgs s_are_days) (defBody s_are_days) (defScope s_are_days) [] [] f fd) (O_is_whole : Own P w K mg base CX0 1 "is_whole" ["thing"] [] (spWhole K)) (O_are_unlike_wholes : Own P w K mg base CX0 2 "are_unlike_wholes" ["thing"] [] (spUnlX K))
    (n_len : mg "len" = none) (n_all : mg "all" = none) (mg_MOST_PERIOD : mg "MOST_PERIOD" = some (.int 5040 t1)) (mg_MOST_TURNED : mg "MOST_TURNED" = some (.int 60 t2)) : FnG P w K mg base CX0 3 f fd ["period", "marks", "turned"] (spAreDaysX K) := by
  refine okG (k := 2) F sc_are_days (fun vs H Q E h => ?_) (fun cdv A hG outer s H vs Q E hr h => ?_)
  · obtain ⟨a, b, c, d, e, rfl, _⟩ := h
    rfl
  · obtain ⟨v, m, t, om, ot, rfl, hv, hm, ht, k⟩ := h
    refine ⟨_, (pss_cons (ps_if ((pw_or (pt_not (pt_val (pe_own O_is_whole hG (hr.mono (by decide)) pass0 (pa_cons (pv 0) pa_nil)))) (pw_or (pt_not (pt_chain op_le op_le pe_int (pv 0) (pe_glob (v := .int 5040) (by rfl) mg_MOST_PERIOD ⟨_, rfl⟩))) (pw_or1 (pt_not (pt_val (pe_own O_are_unlike_wholes hG (hr.mono (by decide)) pass0 (pa_cons (pv 1) pa_nil)))))))).pt (pss_one (ps_ret pe_bl)) pss_nil) (pss_cons (ps_if (pt_not (pt_val (pe_callB (k_all K rfl) (by rfl) n_all bt_all (pa_cons (pe_lc (own := [("mark", 3)]) rfl sc_are_days.nd (k_piS K (pv 1)) (blkOk_by (N := ["period", "marks", "turned", "mark"]) (sc := defScope s_are_days) (by decide +kernel)) (fun _ _ _ _ _ => (pg_name (i := 3) sc_are_days.nd rfl (Or.inl rfl))) (fun _ _ _ _ _ => pts_nil) (fun _ _ _ _ _ => (pe_chain op_le op_lt pe_int (pv 3) (pv 0)))) pa_nil)))) (pss_one (ps_ret pe_bl)) pss_nil) (pss_one (ps_ret (pe_and (pe_own O_are_unlike_wholes hG (hr.mono (by decide)) pass0 (pa_cons (pv 2) pa_nil)) (pe_one (pe_cmpR op_le (pe_callB (k_len K) (by rfl) n_len bt_len (pa_cons (pv 2) pa_nil)) (pe_glob (v := .int 60) (by rfl) mg_MOST_TURNED ⟨_, rfl⟩) (nomark _)))))))), ?_⟩
    wtm_at "v"
    refine c_whole hv ?_
    cases ew : isW v with
    | false =>
      wtm_at "v"
      have e : areD v om ot = false := by cases v <;> first | rfl | cases ew
      rw [e] at k
      exact k _ (Same.refl _)
    | true =>
    obtain ⟨p, rfl⟩ := isW_int ew
    wtm_at "v"
    refine i_chain ?_
    wtm_at "v"
    with_reducible refine ite_d (fun p0 => ?_) (fun c => ?_)
    rotate_left
    · wtm_at "v"
      have e : areD (.int p) om ot = false := by simp [areD, c]
      rw [e] at k
      exact k _ (Same.refl _)
    wtm_at "v"
    with_reducible refine ite_n (fun c => ?_) (fun p1 => ?_)
    · wtm_at "v"
      have e : areD (.int p) om ot = false := by simp [areD, c]
      rw [e] at k
      exact k _ (Same.refl _)
    wtm_at "v"
    refine c_unlX hm fun H1 s1 => ?_
    cases eu : unlR om with
    | false =>
      wtm_at "v"
      have e : areD (.int p) om ot = false := by simp [areD, eu]
      rw [e] at k
      exact k _ s1
    | true =>
    cases hm with
    | no _ => cases eu
    | @row a tt xs h1 hk hl =>
    have eu' := eu
    rw [unlR, Bool.and_eq_true] at eu'
    have ex := thI_eq eu'.1
    have hI : thI ((some xs).getD []) = thI xs := rfl
    generalize hns : thI xs = ns at *
    wtm_at "v"
    refine i_iS ?_
    wtm_at "v"
    rw [ex] at h1
    refine i_lcV (h1.same s1) (fun i => ((ns.take i).map fun i => decide (0 ≤ i) && decide (i < p)).map V.bl) (by simp) ?_ ?_
    · intro A i x H4 nA hx hi sA hA
      obtain ⟨c, hc, rfl⟩ : ∃ c, ns[i]? = some c ∧ V.int c = x := by simpa using hx
      have hi2 : i ≤ 4000 := by rw [← ex] at hi; omega
      wtm_at "v"
      refine ⟨rfl, ?_⟩
      wtm_at "v"
      refine i_chain ?_
      wtm_at "v"
      with_reducible refine ite_d (fun c0 => ?_) (fun c0 => ?_)
      · wtm_at "v"
        exact lc_yes nA hA (by rw [List.take_add_one, hc]; simp [c0]) (by simp; omega) sA
      · exact lc_yes nA hA (by rw [List.take_add_one, hc]; simp [c0]) (by simp; omega) sA
    intro A2 H2 n2 s2 h3
    rw [List.length_map, List.take_length] at h3
    wtm_at "v"
    refine i_all (SqL.of h3) ?_
    have e2 : (ns.map fun i => decide (0 ≤ i) && decide (i < p)).all id = ns.all (fun i => decide (0 ≤ i) && decide (i < p)) := by rw [List.all_map]; rfl
    rw [e2]
    cases e3 : ns.all (fun i => decide (0 ≤ i) && decide (i < p)) with
    | false =>
      wtm_at "v"
      have e : areD (.int p) (some xs) ot = false := by simp only [areD, hI, e3, Bool.and_false, Bool.false_and]
      rw [e] at k
      exact k _ (s1.trans s2)
    | true =>
    have e4 : areD (.int p) (some xs) ot = (unlR ot && decide ((ot.getD []).length ≤ 60)) := by simp only [areD, hI, e3, eu, decide_eq_true p0, decide_eq_true p1, Bool.true_and]
    rw [e4] at k
    wtm_at "v"
    refine c_unlX ((ht.same s1).same s2) fun H3 s3 => ?_
    cases e5 : unlR ot with
    | false =>
      rw [e5, Bool.false_and] at k
      wtm_at "v"
      exact k _ ((s1.trans s2).trans s3)
    | true =>
    rw [e5, Bool.true_and] at k
    cases ht with
    | no _ => cases e5
    | @row b u ys h2 hk2 hl2 =>
    wtm_at "v"
    refine i_lenV (((h2.same s1).same s2).same s3) ?_
    wtm_at "v"
    have e6 : decide ((ys.length : Int) ≤ 60) = decide (((some ys).getD []).length ≤ 60) := decide_eq_decide.mpr ⟨fun h => by simpa using (by omega : ys.length ≤ 60), fun h => by have : ys.length ≤ 60 := h; omega⟩
    rw [e6]
    exact k _ ((s1.trans s2).trans s3)
theorem ok_initX {C f D c_NoDays : Addr} {fd : FuncData} (F : FunD K "__init__" "Days.__init__" (defArgs s_Days___init__) (defBody s_Days___init__) (defScope s_Days___init__) [] [("turned", .ref D)] f fd) (e_NoDays : ExF K mg "NoDays" c_NoDays veMro "ValueError.__new__") (O_are_days : Own P w K mg base CX0 3 "are_days" ["period", "marks", "turned"] [] (spAreDaysX K)) : FnG P w K mg base (L2.CX P w) 4 f fd ["self", "period", "marks", "turned"] (spDaysX K c_NoDays) := by
  refine okGX (k := 3) F sc_Days___init__ (fun vs H Q E h => ?_) (fun cdv A hG outer s H vs Q E hr h => ?_)
  · obtain ⟨a, b, c, d, e, f, rfl, _⟩ := h
    rfl
  · obtain ⟨s, v, m, t, om, ot, rfl, hv, hm, ht, ha, k⟩ := h
    refine ⟨_, (pss_cons (ps_if (pt_not (pt_val (pe_own O_are_days hG (hr.mono (by decide)) pass0 (pa_cons (pv 1) (pa_cons (pv 2) (pa_cons (pv 3) pa_nil)))))) (pss_one (ps_raise rfl (takes_of rfl rfl rfl rfl) (pmk_own PySem.F.excBase_ValueError e_NoDays.x e_NoDays.g e_NoDays.k (raises_own e_NoDays.b e_NoDays.t) (by exact rfl)))) pss_nil) (pss_cons ps_never (pss_one ps_never))), ?_⟩
    wtm_at "v"
    refine c_areDaysX hv hm ht fun H1 s1 => ?_
    rw [ha]
    wtm_at "v"
    exact k _ s1
end
section
/-! ### days: their fields, their methods, as words -/
theorem lkP (x y z u : V) : ([("rests", x), ("period", y), ("marks", z), ("turned", u)] : FL).lookup ("period" : PySem.Str) = some y := by
  rw [List.lookup_cons, List.lookup_cons_self]
  rw [show (("period" : PySem.Str) == "rests") = false by decide +kernel]
theorem lkM (x y z u : V) : ([("rests", x), ("period", y), ("marks", z), ("turned", u)] : FL).lookup ("marks" : PySem.Str) = some z := by
  rw [List.lookup_cons, List.lookup_cons, List.lookup_cons_self]
  rw [show (("marks" : PySem.Str) == "rests") = false by decide +kernel, show (("marks" : PySem.Str) == "period") = false by decide +kernel]
theorem lkN {m : PySem.Str} (h1 : (m == "rests") = false) (h2 : (m == "period") = false) (h3 : (m == "marks") = false) (h4 : (m == "turned") = false) (x y z u : V) : ([("rests", x), ("period", y), ("marks", z), ("turned", u)] : FL).lookup m = none := by
  rw [List.lookup_cons, List.lookup_cons, List.lookup_cons, List.lookup_cons, h1, h2, h3, h4]
  rfl
section
variable {K : PySem.W.Frag} {C s : Addr} {rs : List Bool} {ts : List Int} {H : Hp} {Q : VK}
theorem i_daysR (T : DaysT K C) (h : DaysAt K C H s rs ts) (k : ∀ r, Tp K H r (rs.map V.bl) → Q (.ref r) H) : FldG K (.ref s) H "rests" Q := by
  obtain ⟨dx, r, m, t, e1, e2, e3, e4⟩ := h.ex
  exact i_fldG e1 T.cls T.nR (lkR _ _) (k r e2)
theorem i_daysP (T : DaysT K C) (h : DaysAt K C H s rs ts) (k : Q (.int rs.length) H) : FldG K (.ref s) H "period" Q := by
  obtain ⟨dx, r, m, t, e1, e2, e3, e4⟩ := h.ex
  exact i_fldG e1 T.cls T.nP (lkP _ _ _ _) k
theorem i_daysM (T : DaysT K C) (h : DaysAt K C H s rs ts) (k : ∀ r, Tp K H r ((marksFrom 0 rs).map V.int) → Q (.ref r) H) : FldG K (.ref s) H "marks" Q := by
  obtain ⟨dx, r, m, t, e1, e2, e3, e4⟩ := h.ex
  exact i_fldG e1 T.cls T.nM (lkM _ _ _ _) (k m e3)
theorem i_daysT (T : DaysT K C) (h : DaysAt K C H s rs ts) (k : ∀ r, Tp K H r (ts.map V.int) → Q (.ref r) H) : FldG K (.ref s) H "turned" Q := by
  obtain ⟨dx, r, m, t, e1, e2, e3, e4⟩ := h.ex
  exact i_fldG e1 T.cls T.nT (lkT _ _ _ _) (k t e4)
theorem i_methD {m : PySem.Str} {R : Addr → Prop} (h : DaysAt K C H s rs ts) (hm : ∀ x y z u : V, ([("rests", x), ("period", y), ("marks", z), ("turned", u)] : FL).lookup m = none) (k : R s) : ∃ a dx fs, V.ref s = .ref a ∧ H a = some (.ins C dx fs) ∧ fs.lookup m = none ∧ R a := by
  obtain ⟨dx, r, mm, t, e1, e2, e3, e4⟩ := h.ex
  exact ⟨s, dx, _, rfl, e1, hm _ _ _ _, k⟩
end
def spGoes (K : PySem.W.Frag) (C : Addr) : Sp := fun vs H Q _ => ∃ s d rs ts, vs = [.ref s, .int d] ∧ DaysAt K C H s rs ts ∧ 1 ≤ rs.length ∧ Q (.bl (rIn rs d)) H
theorem c_goes {K : PySem.W.Frag} {C s : Addr} {d : Int} {rs : List Bool} {ts : List Int} {H : Hp} {Q : VK} {E : XK} (h : DaysAt K C H s rs ts) (l0 : 1 ≤ rs.length) (k : Q (.bl (rIn rs d)) H) : spGoes K C (.ref s :: ([.int d] ++ [])) H Q E := ⟨s, d, rs, ts, rfl, h, l0, k⟩
def spHas (K : PySem.W.Frag) (C : Addr) : Sp := fun vs H Q _ => ∃ s d rs ts, vs = [.ref s, .int d] ∧ DaysAt K C H s rs ts ∧ 1 ≤ rs.length ∧ Q (.bl (dIn rs ts d)) H
theorem c_has {K : PySem.W.Frag} {C s : Addr} {d : Int} {rs : List Bool} {ts : List Int} {H : Hp} {Q : VK} {E : XK} (h : DaysAt K C H s rs ts) (l0 : 1 ≤ rs.length) (k : Q (.bl (dIn rs ts d)) H) : spHas K C (.ref s :: ([.int d] ++ [])) H Q E := ⟨s, d, rs, ts, rfl, h, l0, k⟩
theorem divp_small {i j : Int} (hj : 0 < j) (h : i.natAbs < 2 ^ 4000) : CDivP i j := divp_ok hj (Nat.le_trans (PyProof.Rows.intBits_le h) (Nat.le_add_left _ _))
theorem Per.cntN_shift {f : Int → Bool} {p : Nat} (h : Per f p) (a : Int) (k : Nat) : ∀ n : Nat, cntN f (a + (k * p : Nat)) n = cntN f a n
  | 0 => rfl
  | n + 1 => by
    rw [cntN, cntN, h.cntN_shift a k n]
    have := h.mul k (a + n)
    rw [show a + ((k * p : Nat) : Int) + n = a + n + k * p by push_cast; omega, this]
theorem Per.count {f : Int → Bool} {p : Nat} (h : Per f p) (hp : 1 ≤ p) {a b : Int} (hab : a ≤ b) : (cnd f a b : Int) = (b - a) / p * (cntN f 0 p : Nat) + (cntN f a ((b - a) % p).toNat : Nat) := by
  obtain ⟨n, hn⟩ : ∃ n : Nat, b - a = n := ⟨(b - a).toNat, by omega⟩
  unfold cnd
  rw [hn, Int.toNat_natCast]
  have e : n = n / p * p + n % p := by rw [Nat.mul_comm]; exact (Nat.div_add_mod n p).symm
  conv => lhs; rw [e, cntN_add, h.rounds, h.cntN_shift]
  push_cast
  congr 2
def spCntR (K : PySem.W.Frag) (C : Addr) : Sp := fun vs H Q _ => ∃ s a b rs ts, vs = [.ref s, .int a, .int b] ∧ DaysAt K C H s rs ts ∧ 1 ≤ rs.length ∧ rs.length ≤ 5040 ∧ a ≤ b ∧ -4000000000000000000 ≤ a ∧ b ≤ 4000000000000000000 ∧ ∀ H', Same H H' → Q (.int (cnd (rIn rs) a b)) H'
theorem c_cntR {K : PySem.W.Frag} {C s : Addr} {a b : Int} {rs : List Bool} {ts : List Int} {H : Hp} {Q : VK} {E : XK} (h : DaysAt K C H s rs ts) (l0 : 1 ≤ rs.length) (l1 : rs.length ≤ 5040) (h1 : a ≤ b) (h2 : -4000000000000000000 ≤ a) (h3 : b ≤ 4000000000000000000) (k : ∀ H', Same H H' → Q (.int (cnd (rIn rs) a b)) H') : spCntR K C ([.ref s, .int a, .int b] ++ []) H Q E := ⟨s, a, b, rs, ts, rfl, h, l0, l1, h1, h2, h3, k⟩
def spNthR (K : PySem.W.Frag) (C : Addr) : Sp := fun vs H Q _ => ∃ s b, ∃ at' : Nat, ∃ rs ts, vs = [.ref s, .int b, .int at'] ∧ DaysAt K C H s rs ts ∧ 1 ≤ rs.length ∧ rs.length ≤ 5040 ∧ 1 ≤ (marksFrom 0 rs).length ∧ (b.natAbs < 2 ^ 100) ∧ at' < 2 ^ 100 ∧ ∀ d H', b ≤ d → rIn rs d = true → cnd (rIn rs) b d = at' → Same H H' → Q (.int d) H'
theorem c_nthR {K : PySem.W.Frag} {C s : Addr} {b : Int} {at' : Nat} {rs : List Bool} {ts : List Int} {H : Hp} {Q : VK} {E : XK} (h : DaysAt K C H s rs ts) (l0 : 1 ≤ rs.length) (l1 : rs.length ≤ 5040) (m0 : 1 ≤ (marksFrom 0 rs).length) (hb : b.natAbs < 2 ^ 100) (ha : at' < 2 ^ 100) (k : ∀ d H', b ≤ d → rIn rs d = true → cnd (rIn rs) b d = at' → Same H H' → Q (.int d) H') : spNthR K C ([.ref s, .int b, .int at'] ++ []) H Q E := ⟨s, b, at', rs, ts, rfl, h, l0, l1, m0, hb, ha, k⟩
def spLastR (K : PySem.W.Frag) (C : Addr) : Sp := fun vs H Q _ => ∃ s a rs ts, vs = [.ref s, .int a] ∧ DaysAt K C H s rs ts ∧ 1 ≤ rs.length ∧ 1 ≤ (marksFrom 0 rs).length ∧ ∀ d, LastTo (rIn rs) a (some d) → Q (.int d) H
theorem c_lastR {K : PySem.W.Frag} {C s : Addr} {a : Int} {rs : List Bool} {ts : List Int} {H : Hp} {Q : VK} {E : XK} (h : DaysAt K C H s rs ts) (l0 : 1 ≤ rs.length) (m0 : 1 ≤ (marksFrom 0 rs).length) (k : ∀ d, LastTo (rIn rs) a (some d) → Q (.int d) H) : spLastR K C ([.ref s, .int a] ++ []) H Q E := ⟨s, a, rs, ts, rfl, h, l0, m0, k⟩
def oV (o : Option Int) : V := match o with | none => .non | some i => .int i
def spLast (K : PySem.W.Frag) (C : Addr) : Sp := fun vs H Q _ => ∃ s a rs ts, vs = [.ref s, .int a] ∧ DaysAt K C H s rs ts ∧ 1 ≤ rs.length ∧ ts.length ≤ 1000 ∧ ts.Pairwise (· < ·) ∧ ∀ o H', LastTo (dIn rs ts) a o → Same H H' → Q (oV o) H'
theorem c_last {K : PySem.W.Frag} {C s : Addr} {a : Int} {rs : List Bool} {ts : List Int} {H : Hp} {Q : VK} {E : XK} (h : DaysAt K C H s rs ts) (l0 : 1 ≤ rs.length) (tl : ts.length ≤ 1000) (up : ts.Pairwise (· < ·)) (k : ∀ o H', LastTo (dIn rs ts) a o → Same H H' → Q (oV o) H') : spLast K C ([.ref s, .int a] ++ []) H Q E := ⟨s, a, rs, ts, rfl, h, l0, tl, up, k⟩
def unl (r1 r2 : List Bool) (t1 t2 : List Int) (d : Int) : Bool := dIn r1 t1 d != dIn r2 t2 d
def spUnlR (K : PySem.W.Frag) (C : Addr) : Sp := fun vs H Q _ => ∃ s t b r1 r2 t1 t2, vs = [.ref s, .ref t, .int b] ∧ DaysAt K C H s r1 t1 ∧ DaysAt K C H t r2 t2 ∧ Prim r1 ∧ Prim r2 ∧ r1.length ≤ 5040 ∧ r2.length ≤ 5040 ∧ ∀ o, FirstOn (fun d => rIn r1 d != rIn r2 d) b o → Q (oV o) H
theorem c_unlR {K : PySem.W.Frag} {C s t : Addr} {b : Int} {r1 r2 : List Bool} {t1 t2 : List Int} {H : Hp} {Q : VK} {E : XK} (h1 : DaysAt K C H s r1 t1) (h2 : DaysAt K C H t r2 t2) (p1 : Prim r1) (p2 : Prim r2) (l1 : r1.length ≤ 5040) (l2 : r2.length ≤ 5040) (k : ∀ o, FirstOn (fun d => rIn r1 d != rIn r2 d) b o → Q (oV o) H) : spUnlR K C ([.ref s, .ref t, .int b] ++ []) H Q E := ⟨s, t, b, r1, r2, t1, t2, rfl, h1, h2, p1, p2, l1, l2, k⟩
def spUnlD (K : PySem.W.Frag) (C : Addr) : Sp := fun vs H Q _ => ∃ s t b r1 r2 t1 t2, vs = [.ref s, .ref t, .int b] ∧ DaysAt K C H s r1 t1 ∧ DaysAt K C H t r2 t2 ∧ Prim r1 ∧ Prim r2 ∧ r1.length ≤ 5040 ∧ r2.length ≤ 5040 ∧ t1.length ≤ 1000 ∧ t2.length ≤ 1000 ∧ t1.Nodup ∧ t2.Nodup ∧ ∀ o H', FirstOn (unl r1 r2 t1 t2) b o → Same H H' → Q (oV o) H'
theorem c_unlD {K : PySem.W.Frag} {C s t : Addr} {b : Int} {r1 r2 : List Bool} {t1 t2 : List Int} {H : Hp} {Q : VK} {E : XK} (h1 : DaysAt K C H s r1 t1) (h2 : DaysAt K C H t r2 t2) (p1 : Prim r1) (p2 : Prim r2) (l1 : r1.length ≤ 5040) (l2 : r2.length ≤ 5040) (tl1 : t1.length ≤ 1000) (tl2 : t2.length ≤ 1000) (n1 : t1.Nodup) (n2 : t2.Nodup) (k : ∀ o H', FirstOn (unl r1 r2 t1 t2) b o → Same H H' → Q (oV o) H') : spUnlD K C ([.ref s, .ref t, .int b] ++ []) H Q E := ⟨s, t, b, r1, r2, t1, t2, rfl, h1, h2, p1, p2, l1, l2, tl1, tl2, n1, n2, k⟩
theorem i_neNI {K : PySem.W.Frag} {H : Hp} {Q : VK} {o : Option Int} {t : Int} (h : Q (.bl (decide (o ≠ some t))) H) : rNeU K (oV o) (.int t) H Q := by
  cases o with
  | none =>
    rw [decide_eq_true (show (none : Option Int) ≠ some t from fun z => nomatch z)] at h
    refine .inl ⟨rfl, ?_⟩
    exact h
  | some i =>
    refine i_neI ?_
    rw [show (!decide (i = t)) = decide (some i ≠ some t) by by_cases z : i = t <;> simp [z]]
    exact h
theorem i_eqNI {K : PySem.W.Frag} {H : Hp} {Q : VK} {o : Option Int} {t : Int} (h : Q (.bl (decide (o = some t))) H) : rEqU K (oV o) (.int t) H Q := by
  cases o with
  | none =>
    rw [decide_eq_false (show ¬ (none : Option Int) = some t from fun z => nomatch z)] at h
    refine .inl ⟨rfl, ?_⟩
    exact h
  | some i =>
    refine i_eqI ?_
    rw [show decide (i = t) = decide (some i = some t) by by_cases z : i = t <;> simp [z]]
    exact h
theorem oV_non {o : Option Int} : oV o = .non ↔ o = none := by cases o <;> simp [oV]
theorem i_neTE {K : PySem.W.Frag} {H : Hp} {Q : VK} {p q : Addr} {ns : List Int} (h1 : Tp K H p (ns.map V.int)) (h2 : Tp K H q []) (k : Q (.bl (decide (ns ≠ []))) H) : rNeU K (.ref p) (.ref q) H Q := by
  refine i_neD (d := .tuple (ns.map PyData.int)) (e := .tuple []) (.tup h1.sq (dpInts _)) (.tup h2.sq .nil) (Sh.shaped (n := 9) (.tup (ShAll.ints _)) (by decide)) (by decide) ?_
  rw [show (!PyData.eqv (.tuple (ns.map PyData.int)) (.tuple [])) = decide (ns ≠ []) by cases ns <;> simp [PyData.eqv, PyData.eqvAll]]
  exact k
theorem g_eq_f {rs : List Bool} {ts : List Int} {b c : Int} (h : ∀ t ∈ ts, b ≤ t → c ≤ t) {d : Int} (h1 : b ≤ d) (h2 : d < c) : dIn rs ts d = rIn rs d := by
  unfold dIn
  rw [decide_eq_false fun z => by have := h d z h1; omega]
  cases rIn rs d <;> rfl
theorem i_revE {K : PySem.W.Frag} {te : TE} {σ : L2.St} {H : Hp} {Q : VK} (h : te σ H fun x H1 => ∃ a xs, x = .ref a ∧ SqL K H1 a xs ∧ ∀ p, H1 p = none → Q (.ref p) (upd H1 p (.lst xs.reverse))) : tRevL K te σ H Q := h
def spNth (K : PySem.W.Frag) (C : Addr) : Sp := fun vs H Q _ => ∃ s b, ∃ n : Nat, ∃ rs ts, vs = [.ref s, .int b, .int n] ∧ DaysAt K C H s rs ts ∧ 1 ≤ rs.length ∧ rs.length ≤ 5040 ∧ ts.length ≤ 1000 ∧ ts.Pairwise (· < ·) ∧ (∀ t ∈ ts, t ≤ 3000000000000000000) ∧ -3000000000000000000 ≤ b ∧ b ≤ 3000000000000000000 ∧ n < 2 ^ 60 ∧ ∀ o H', NthOn (dIn rs ts) b n o → (o = none → ∀ d, rIn rs d = false) → Same H H' → Q (oV o) H'
theorem c_nth {K : PySem.W.Frag} {C s : Addr} {b : Int} {n : Nat} {rs : List Bool} {ts : List Int} {H : Hp} {Q : VK} (h : DaysAt K C H s rs ts) (l0 : 1 ≤ rs.length) (l1 : rs.length ≤ 5040) (tl : ts.length ≤ 1000) (up : ts.Pairwise (· < ·)) (hr : ∀ t ∈ ts, t ≤ 3000000000000000000) (b0 : -3000000000000000000 ≤ b) (b1 : b ≤ 3000000000000000000) (hn : n < 2 ^ 60) (k : ∀ o H', NthOn (dIn rs ts) b n o → (o = none → ∀ d, rIn rs d = false) → Same H H' → Q (oV o) H') {E : XK} : spNth K C [.ref s, .int b, .int n] H Q E := ⟨s, b, n, rs, ts, rfl, h, l0, l1, tl, up, hr, b0, b1, hn, k⟩
def spPp (K : PySem.W.Frag) (C : Addr) : Sp := fun vs H Q _ => ∃ s b rs ts, vs = [.ref s, .int b] ∧ DaysAt K C H s rs ts ∧ 1 ≤ rs.length ∧ rs.length ≤ 5040 ∧ ts.length ≤ 1000 ∧ ts.Pairwise (· < ·) ∧ (∀ t ∈ ts, t ≤ 3000000000000000000) ∧ -2000000000000000000 ≤ b ∧ b ≤ 2000000000000000000 ∧ (∀ o o', LastTo (dIn rs ts) (b + 1) o → FirstOn (dIn rs ts) (b + 1) o' → (∀ x y, o = some x → o' = some y → ∀ p H', Same H H' → TpH H' p [.int x, .int y] → Q (.ref p) H') ∧ (o = none ∨ o' = none → ∀ H', Same H H' → Q .non H'))
theorem c_pp {K : PySem.W.Frag} {C s : Addr} {b : Int} {rs : List Bool} {ts : List Int} {H : Hp} {Q : VK} (h : DaysAt K C H s rs ts) (l0 : 1 ≤ rs.length) (l1 : rs.length ≤ 5040) (tl : ts.length ≤ 1000) (up : ts.Pairwise (· < ·)) (hr : ∀ t ∈ ts, t ≤ 3000000000000000000) (b0 : -2000000000000000000 ≤ b) (b1 : b ≤ 2000000000000000000) (k : ∀ o o', LastTo (dIn rs ts) (b + 1) o → FirstOn (dIn rs ts) (b + 1) o' → (∀ x y, o = some x → o' = some y → ∀ p H', Same H H' → TpH H' p [.int x, .int y] → Q (.ref p) H') ∧ (o = none ∨ o' = none → ∀ H', Same H H' → Q .non H')) {E : XK} : spPp K C [.ref s, .int b] H Q E := ⟨s, b, rs, ts, rfl, h, l0, l1, tl, up, hr, b0, b1, k⟩
theorem i_notInI {K : PySem.W.Frag} {H : Hp} {Q : VK} {q : Addr} {t : Bool} {off : List Int} {k : Int} (h : SqV K H q t (off.map V.int)) (kk : Q (.bl (decide (k ∉ off))) H) : L2.rIn K true (.int k) (.ref q) H Q := by
  refine ⟨q, off.map V.int, rfl, h.or.imp id Tp.sq, rfl, by rw [List.all_map]; exact List.all_eq_true.mpr fun _ _ => rfl, ?_⟩
  have e : ∀ off : List Int, inV (.int k) (off.map V.int) = decide (k ∈ off) := fun off => by
    induction off with
    | nil => rfl
    | cons a l ih =>
      show (eqV (.int a) (.int k) || inV (.int k) (l.map V.int)) = _
      rw [ih]
      simp only [eqV]
      by_cases h : a = k
      · subst h; simp
      · have : (a == k) = false := by simpa using h
        rw [this]
        simp [Ne.symm h]
  show Q (.bl (!inV (.int k) (off.map V.int))) H
  rw [e, show (!decide (k ∈ off)) = decide (k ∉ off) by by_cases h : k ∈ off <;> simp [h]]
  exact kk
/-- the turned days of just one of both -/
def symD (t1 t2 : List Int) : List Int := (t1.filter fun d => decide (d ∉ t2)) ++ t2.filter fun d => decide (d ∉ t1)
theorem symD_mem {t1 t2 : List Int} {d : Int} : d ∈ symD t1 t2 ↔ (decide (d ∈ t1) != decide (d ∈ t2)) = true := by
  unfold symD
  rw [List.mem_append, List.mem_filter, List.mem_filter]
  by_cases h1 : d ∈ t1 <;> by_cases h2 : d ∈ t2 <;> simp [h1, h2]
theorem symD_nodup {t1 t2 : List Int} (n1 : t1.Nodup) (n2 : t2.Nodup) : (symD t1 t2).Nodup := by
  unfold symD
  rw [List.nodup_append]
  refine ⟨List.Pairwise.filter _ n1, List.Pairwise.filter _ n2, fun a ha b hb e => ?_⟩
  subst e
  have h1 := (List.mem_filter.mp ha).1
  have h2 := (List.mem_filter.mp hb).2
  simp [h1] at h2
theorem unl_eq (r1 r2 : List Bool) (t1 t2 : List Int) (d : Int) : unl r1 r2 t1 t2 d = ((rIn r1 d != rIn r2 d) != decide (d ∈ symD t1 t2)) := by
  have e : decide (d ∈ symD t1 t2) = (decide (d ∈ t1) != decide (d ∈ t2)) := by
    cases z : (decide (d ∈ t1) != decide (d ∈ t2)) with
    | true => exact decide_eq_true (symD_mem.mpr z)
    | false => exact decide_eq_false fun y => by rw [symD_mem.mp y] at z; cases z
  rw [e]
  unfold unl dIn
  cases rIn r1 d <;> cases rIn r2 d <;> cases decide (d ∈ t1) <;> cases decide (d ∈ t2) <;> rfl
theorem perm_up {l m : List Int} (p : l.Perm m) (n : m.Nodup) (h : l.Pairwise (· ≤ ·)) : l.Pairwise (· < ·) := by
  have n2 : l.Nodup := p.nodup_iff.mpr n
  exact upr_of_le h n2
theorem sum_bI (bs : List Bool) : (bs.map bI).sum = ((marksFrom 0 bs).length : Int) := by
  rw [marks_count]
  induction bs with
  | nil => rfl
  | cons b l ih =>
    rw [List.map_cons, List.sum_cons, ih, List.countP_cons]
    cases b <;> simp [bI] <;> omega
end
section
/-! ### the steps as one word: wtm_at "v1" a step, wtm_at "v" as many as go -/
local macro_rules | `(tactic| wtm_at "tm") => `(tactic| first
  | exact Tm.refl _
  | exact Tm.same (by with_reducible assumption)
  | exact Tm.fx (by with_reducible assumption)
  | (refine Tm.trans ?_ (Tm.same (by with_reducible assumption)); wtm_at "tm")
  | (refine Tm.trans ?_ (Tm.fx (by with_reducible assumption)); wtm_at "tm") | fail)
local macro_rules | `(tactic| wtm_at "lkT1") => `(tactic| first
  | with_reducible assumption
  | exact TpK.tp (by with_reducible assumption)
  | exact TpH.tm (by with_reducible assumption) (by wtm_at "tm")
  | exact Tp.tm (by with_reducible assumption) (by wtm_at "tm")
  | exact Tp.of (by with_reducible assumption) | fail)
local macro_rules | `(tactic| wtm_at "lkT") => `(tactic| first
  | wtm_at "lkT1"
  | fail)
local macro_rules | `(tactic| wtm_at "lk") => `(tactic| first
  | assumption
  | exact b_get (by assumption) (by wtm_at "lk")
  | exact b_lst (by assumption) (by wtm_at "ne") (by wtm_at "ne") (by wtm_at "lk") | fail)
local macro_rules | `(tactic| wtm_at "lkL") => `(tactic| first
  | assumption
  | exact SqL.of (by wtm_at "lk")
  | exact b_L (by assumption) (by wtm_at "lkL") | fail)
local macro_rules | `(tactic| wtm_at "intL") => `(tactic| first | exact IntL.nil | exact IntL.cons (by wtm_at "intL") | fail)
local macro_rules | `(tactic| wtm_at "lkS0") => `(tactic| first
  | with_reducible assumption
  | exact StoreAt.same (by with_reducible assumption) (by wtm_at "lkS0") | fail)
local macro_rules | `(tactic| wtm_at "lkS") => `(tactic| first
  | with_reducible assumption
  | exact StoreAt.from (by with_reducible assumption) (by wtm_at "sm") | fail)
local macro_rules | `(tactic| wtm_at "ne") => `(tactic| first
  | assumption
  | exact Ne.symm (by assumption)
  | exact st_ne1 (by with_reducible assumption) (by wtm_at "lkS0")
  | exact st_ne2 (by with_reducible assumption) (by wtm_at "lkS0")
  | exact new_ne (by assumption) (by wtm_at "lk")
  | exact new_ne' (by assumption) (by wtm_at "lk") | fail)
local macro_rules | `(tactic| wtm_at "sm") => `(tactic| first
  | with_reducible assumption
  | exact Same.refl _
  | (refine Same.trans ?_ (by with_reducible assumption); wtm_at "sm") | fail)
local macro_rules | `(tactic| wtm_at "fx") => `(tactic| first
  | with_reducible assumption
  | exact Fx.same (Same.refl _)
  | exact Fx.same (by with_reducible assumption)
  | (refine Fx.trans ?_ (by with_reducible assumption); wtm_at "fx")
  | (refine Fx.trans ?_ (Fx.same (by with_reducible assumption)); wtm_at "fx") | fail)
local macro_rules | `(tactic| wtm_at "v0") => `(tactic| first
  | with_reducible refine i_seq ?_ | with_reducible refine i_asg ?_ | with_reducible refine i_var rfl ?_ | with_reducible refine i_c ?_ | with_reducible refine i_name ?_
  | with_reducible refine i_op ?_ | with_reducible refine i_ifS ?_ | with_reducible refine i_test ?_ | with_reducible refine i_tB ?_
  | with_reducible refine i_cons ?_ | with_reducible refine i_nil ?_ | with_reducible refine i_call ?_ | with_reducible refine i_callN ?_ | with_reducible refine i_callX ?_ | with_reducible refine i_callNX ?_ | with_reducible refine i_cb ?_
  | with_reducible refine i_tup ?_ | with_reducible refine i_lst ?_ | with_reducible refine i_ret ?_ | with_reducible refine i_retN ?_ | with_reducible refine i_drop ?_
  | with_reducible refine i_next ?_ | with_reducible refine i_par ?_ | with_reducible refine i_par2 ?_ | with_reducible refine i_ifE ?_ | with_reducible refine i_un ?_
  | with_reducible refine i_and ?_ | with_reducible refine i_or ?_ | with_reducible refine i_not ?_ | with_reducible refine i_andV ?_ | with_reducible refine i_orV ?_ | with_reducible refine i_notV ?_
  | with_reducible refine i_notV2 ?_ | with_reducible refine i_bif (A := fun _ => _) ?_ | with_reducible refine i_brk ?_ | with_reducible refine i_ctn ?_
  | with_reducible refine i_abs ?_ | with_reducible refine i_min ?_ | with_reducible refine i_max ?_ | with_reducible refine i_for ?_ | with_reducible refine i_iR1 ?_ | with_reducible refine i_iR2 ?_ | with_reducible refine i_iL ?_ | with_reducible refine i_iT ?_ | with_reducible refine i_wb ?_
  | with_reducible refine i_sl ?_ | with_reducible refine i_no ?_ | with_reducible refine i_so ?_ | with_reducible refine i_exI ?_ | with_reducible refine i_exB ?_ | with_reducible refine i_gcons ?_ | with_reducible refine i_gnil ?_ | with_reducible refine i_bm ?_ | with_reducible refine i_gsub ?_ | with_reducible refine i_lc ?_ | with_reducible refine i_yes ?_ | with_reducible refine i_iE ?_
  | with_reducible refine ite_1 ?_ | with_reducible refine i_pow6 ?_ | with_reducible refine i_pow18 ?_ | with_reducible refine i_pow30 ?_
  | with_reducible refine i_addI ?_ | with_reducible refine i_I0 ?_ | with_reducible refine i_U ?_ | with_reducible refine i_eqI ?_ | with_reducible refine i_neI ?_ | fail)
local macro_rules | `(tactic| wtm_at "v1") => `(tactic| first
  | wtm_at "v0"
  | ((with_reducible show rIx _ _ _ _ _); first | refine i_ixT (by wtm_at "lkT") rfl ?_ | refine i_ixL (by wtm_at "lkL") rfl ?_)
  | ((with_reducible show rLenU _ _ _ _); first | refine i_lenT (by wtm_at "lkT") ?_ | refine i_lenL (by wtm_at "lkL") ?_)
  | ((with_reducible show spDraw _ _ _ _); refine c_draw (by wtm_at "lkS") (by first | decide | omega) (by first | decide | omega) (by omega) ?_; intro _ _ _ _ _ _)
  | (with_reducible refine i_newTH (by first | decide | (simp; done)) ?_; intro _ _ _ _ _)
  | (with_reducible refine i_newL (by first | decide | (simp; done)) ?_; intro _ _ _ _ _) | fail)
local macro_rules | `(tactic| wtm_at "v") => `(tactic| repeat wtm_at "v1")
local macro_rules | `(tactic| wtm_at "vi") => `(tactic| repeat ((fail_if_success (with_reducible show tIfS _ _ _ _ _ _)); wtm_at "v1"))
local macro_rules | `(tactic| wtm_at "v0") => `(tactic| first | with_reducible refine ite_0 ?_ | with_reducible refine ite_n0 ?_ | with_reducible refine ite_n1 ?_ | fail)
local macro_rules | `(tactic| wtm_at "lkD") => `(tactic| first
  | with_reducible assumption
  | exact DaysAt.tw (by with_reducible assumption) (Tw.same (by wtm_at "sm")) | fail)
local macro_rules | `(tactic| wtm_at "v1") => `(tactic| first
  | with_reducible refine i_fldA ?_
  | ((with_reducible show FldG _ _ _ _ _); first | refine i_daysP (by assumption) (by wtm_at "lkD") ?_ | (refine i_daysR (by assumption) (by wtm_at "lkD") ?_; intro _ _) | (refine i_daysT (by assumption) (by wtm_at "lkD") ?_; intro _ _) | (refine i_daysM (by assumption) (by wtm_at "lkD") ?_; intro _ _))
  | with_reducible refine i_meth ?_
  | fail)
variable {P : Program} {w : World} {K : PySem.W.Frag} {mg : Str → Option Value} {base : Heap}
abbrev s_Days_goes_in : Stmt := inClass (topS 28) 2
theorem sc_Days_goes_in : FnScope ["self", "day"] ["self", "day"] (defScope s_Days_goes_in) := ⟨rfl, rfl, rfl, by decide +kernel, rfl, by decide +kernel, by decide +kernel⟩
theorem ok_goes {C f : Addr} {fd : FuncData} (T : DaysT K C) (F : FunD K "goes_in" "Days.goes_in" (defArgs s_Days_goes_in) (defBody s_Days_goes_in) (defScope s_Days_goes_in) [] [] f fd) : FnG P w K mg base CX0 1 f fd ["self", "day"] (spGoes K C) := by
  refine okG (k := 0) F sc_Days_goes_in (fun vs H Q E h => ?_) (fun cdv A hG outer s H vs Q E hr h => ?_)
  · obtain ⟨a, b, c, d, rfl, _⟩ := h
    rfl
  · obtain ⟨s, d, rs, ts, rfl, h, l0, k⟩ := h
    refine ⟨_, (pss_one (ps_ret (pe_ix (k_ix K) (k_fld K (pv 0) rfl) (pe_op op_modN (pv 1) (k_fld K (pv 0) rfl)) (fun _ _ => rfl)))), ?_⟩
    wtm_at "v"
    rename_i r hr
    refine i_mod (by omega) fun e e0 e1 ee => ?_
    have hge := rIn_get l0 d
    obtain ⟨j, rfl⟩ : ∃ j : Nat, e = j := ⟨e.toNat, by omega⟩
    rw [← ee, Int.toNat_natCast] at hge
    refine i_ixT hr (atI_nat (v := .bl (rIn rs d)) (by rw [List.getElem?_map, hge]; rfl)) ?_
    exact k
abbrev s_Days_has : Stmt := inClass (topS 28) 3
theorem sc_Days_has : FnScope ["self", "day"] ["self", "day"] (defScope s_Days_has) := ⟨rfl, rfl, rfl, by decide +kernel, rfl, by decide +kernel, by decide +kernel⟩
theorem ok_has {C f : Addr} {fd : FuncData} (T : DaysT K C) (cl_Days : Cls K C) (F : FunD K "has" "Days.has" (defArgs s_Days_has) (defBody s_Days_has) (defScope s_Days_has) [] [] f fd) (O_Days_goes_in : OwnM P w K mg base CX0 1 C "goes_in" ["self", "day"] [] (spGoes K C)) : FnG P w K mg base CX0 2 f fd ["self", "day"] (spHas K C) := by
  refine okG (k := 1) F sc_Days_has (fun vs H Q E h => ?_) (fun cdv A hG outer s H vs Q E hr h => ?_)
  · obtain ⟨a, b, c, d, rfl, _⟩ := h
    rfl
  · obtain ⟨s, d, rs, ts, rfl, h, l0, k⟩ := h
    refine ⟨_, (pss_one (ps_ret (pe_cmpR (k_ne K hr) (pe_ownM (pv 0) cl_Days O_Days_goes_in hG (hr.mono (by decide)) pass0 (pa_cons (pv 1) pa_nil)) (pe_cmpR (k_in K) (pv 1) (k_fld K (pv 0) rfl) (by rfl)) (nomark _)))), ?_⟩
    wtm_at "v"
    refine i_methD h (lkN (by decide +kernel) (by decide +kernel) (by decide +kernel) (by decide +kernel)) ?_
    wtm_at "v"
    refine c_goes h l0 ?_
    wtm_at "v"
    rename_i r hr
    refine i_inS (t := true) hr ?_
    refine i_neBB ?_
    exact k
end
section
/-! ### a set of days made of rests and turned days -/
theorem dIn_least {bs : List Bool} (h : 1 ≤ bs.length) (ts : List Int) : dIn (leastR bs) (upr ts) = dIn bs ts := by
  funext d
  unfold dIn
  rw [least_same h]
  congr 1
  exact decide_eq_decide.mpr (upr_mem ts d)
structure DaysP (K : PySem.W.Frag) (C : Addr) (H : Hp) (s : Addr) (bs : List Bool) (ts : List Int) : Prop where
  at' : DaysAt K C H s (leastR bs) (upr ts)
  rs : Rests bs
  tn : Turn ts
theorem DaysP.l0 {K : PySem.W.Frag} {C : Addr} {H : Hp} {s : Addr} {bs : List Bool} {ts : List Int} (h : DaysP K C H s bs ts) : 1 ≤ (leastR bs).length := least_len h.rs.l0
theorem DaysP.l1 {K : PySem.W.Frag} {C : Addr} {H : Hp} {s : Addr} {bs : List Bool} {ts : List Int} (h : DaysP K C H s bs ts) : (leastR bs).length ≤ 5040 := by
  have : (leastR bs).length ≤ bs.length := leastGo_len _ _ _
  have := h.rs.l1
  omega
theorem DaysP.tl {K : PySem.W.Frag} {C : Addr} {H : Hp} {s : Addr} {bs : List Bool} {ts : List Int} (h : DaysP K C H s bs ts) : (upr ts).length ≤ 1000 := by
  have := upr_len ts
  have := h.tn.len
  omega
theorem DaysP.tr {K : PySem.W.Frag} {C : Addr} {H : Hp} {s : Addr} {bs : List Bool} {ts : List Int} (h : DaysP K C H s bs ts) : ∀ t ∈ upr ts, t ≤ 3000000000000000000 := fun t ht => by
  have := h.tn.rng t ((upr_mem ts t).mp ht)
  omega
theorem DaysP.tw {K : PySem.W.Frag} {C : Addr} {H H' : Hp} {s : Addr} {bs : List Bool} {ts : List Int} (h : DaysP K C H s bs ts) (e : Tw H H') : DaysP K C H' s bs ts := ⟨h.at'.tw e, h.rs, h.tn⟩
end
section
/-! ### the steps as one word: wtm_at "v1" a step, wtm_at "v" as many as go -/
local macro_rules | `(tactic| wtm_at "tm") => `(tactic| first
  | exact Tm.refl _
  | exact Tm.same (by with_reducible assumption)
  | exact Tm.fx (by with_reducible assumption)
  | (refine Tm.trans ?_ (Tm.same (by with_reducible assumption)); wtm_at "tm")
  | (refine Tm.trans ?_ (Tm.fx (by with_reducible assumption)); wtm_at "tm") | fail)
local macro_rules | `(tactic| wtm_at "lkT1") => `(tactic| first
  | with_reducible assumption
  | exact TpK.tp (by with_reducible assumption)
  | exact TpH.tm (by with_reducible assumption) (by wtm_at "tm")
  | exact Tp.tm (by with_reducible assumption) (by wtm_at "tm")
  | exact Tp.of (by with_reducible assumption) | fail)
local macro_rules | `(tactic| wtm_at "lkT") => `(tactic| first
  | wtm_at "lkT1"
  | fail)
local macro_rules | `(tactic| wtm_at "lk") => `(tactic| first
  | assumption
  | exact b_get (by assumption) (by wtm_at "lk")
  | exact b_lst (by assumption) (by wtm_at "ne") (by wtm_at "ne") (by wtm_at "lk") | fail)
local macro_rules | `(tactic| wtm_at "lkL") => `(tactic| first
  | assumption
  | exact SqL.of (by wtm_at "lk")
  | exact b_L (by assumption) (by wtm_at "lkL") | fail)
local macro_rules | `(tactic| wtm_at "intL") => `(tactic| first | exact IntL.nil | exact IntL.cons (by wtm_at "intL") | fail)
local macro_rules | `(tactic| wtm_at "lkS0") => `(tactic| first
  | with_reducible assumption
  | exact StoreAt.same (by with_reducible assumption) (by wtm_at "lkS0") | fail)
local macro_rules | `(tactic| wtm_at "lkS") => `(tactic| first
  | with_reducible assumption
  | exact StoreAt.from (by with_reducible assumption) (by wtm_at "sm") | fail)
local macro_rules | `(tactic| wtm_at "ne") => `(tactic| first
  | assumption
  | exact Ne.symm (by assumption)
  | exact st_ne1 (by with_reducible assumption) (by wtm_at "lkS0")
  | exact st_ne2 (by with_reducible assumption) (by wtm_at "lkS0")
  | exact new_ne (by assumption) (by wtm_at "lk")
  | exact new_ne' (by assumption) (by wtm_at "lk") | fail)
local macro_rules | `(tactic| wtm_at "sm") => `(tactic| first
  | with_reducible assumption
  | exact Same.refl _
  | (refine Same.trans ?_ (by with_reducible assumption); wtm_at "sm") | fail)
local macro_rules | `(tactic| wtm_at "fx") => `(tactic| first
  | with_reducible assumption
  | exact Fx.same (Same.refl _)
  | exact Fx.same (by with_reducible assumption)
  | (refine Fx.trans ?_ (by with_reducible assumption); wtm_at "fx")
  | (refine Fx.trans ?_ (Fx.same (by with_reducible assumption)); wtm_at "fx") | fail)
local macro_rules | `(tactic| wtm_at "v0") => `(tactic| first
  | with_reducible refine i_seq ?_ | with_reducible refine i_asg ?_ | with_reducible refine i_var rfl ?_ | with_reducible refine i_c ?_ | with_reducible refine i_name ?_
  | with_reducible refine i_op ?_ | with_reducible refine i_ifS ?_ | with_reducible refine i_test ?_ | with_reducible refine i_tB ?_
  | with_reducible refine i_cons ?_ | with_reducible refine i_nil ?_ | with_reducible refine i_call ?_ | with_reducible refine i_callN ?_ | with_reducible refine i_callX ?_ | with_reducible refine i_callNX ?_ | with_reducible refine i_cb ?_
  | with_reducible refine i_tup ?_ | with_reducible refine i_lst ?_ | with_reducible refine i_ret ?_ | with_reducible refine i_retN ?_ | with_reducible refine i_drop ?_
  | with_reducible refine i_next ?_ | with_reducible refine i_par ?_ | with_reducible refine i_par2 ?_ | with_reducible refine i_ifE ?_ | with_reducible refine i_un ?_
  | with_reducible refine i_and ?_ | with_reducible refine i_or ?_ | with_reducible refine i_not ?_ | with_reducible refine i_andV ?_ | with_reducible refine i_orV ?_ | with_reducible refine i_notV ?_
  | with_reducible refine i_notV2 ?_ | with_reducible refine i_bif (A := fun _ => _) ?_ | with_reducible refine i_brk ?_ | with_reducible refine i_ctn ?_
  | with_reducible refine i_abs ?_ | with_reducible refine i_min ?_ | with_reducible refine i_max ?_ | with_reducible refine i_for ?_ | with_reducible refine i_iR1 ?_ | with_reducible refine i_iR2 ?_ | with_reducible refine i_iL ?_ | with_reducible refine i_iT ?_ | with_reducible refine i_wb ?_
  | with_reducible refine i_sl ?_ | with_reducible refine i_no ?_ | with_reducible refine i_so ?_ | with_reducible refine i_exI ?_ | with_reducible refine i_exB ?_ | with_reducible refine i_gcons ?_ | with_reducible refine i_gnil ?_ | with_reducible refine i_bm ?_ | with_reducible refine i_gsub ?_ | with_reducible refine i_lc ?_ | with_reducible refine i_yes ?_ | with_reducible refine i_iE ?_
  | with_reducible refine ite_1 ?_ | with_reducible refine i_pow6 ?_ | with_reducible refine i_pow18 ?_ | with_reducible refine i_pow30 ?_
  | with_reducible refine i_addI ?_ | with_reducible refine i_I0 ?_ | with_reducible refine i_U ?_ | with_reducible refine i_eqI ?_ | with_reducible refine i_neI ?_ | fail)
local macro_rules | `(tactic| wtm_at "v1") => `(tactic| first
  | wtm_at "v0"
  | ((with_reducible show rIx _ _ _ _ _); first | refine i_ixT (by wtm_at "lkT") rfl ?_ | refine i_ixL (by wtm_at "lkL") rfl ?_)
  | ((with_reducible show rLenU _ _ _ _); first | refine i_lenT (by wtm_at "lkT") ?_ | refine i_lenL (by wtm_at "lkL") ?_)
  | ((with_reducible show spDraw _ _ _ _); refine c_draw (by wtm_at "lkS") (by first | decide | omega) (by first | decide | omega) (by omega) ?_; intro _ _ _ _ _ _)
  | (with_reducible refine i_newTH (by first | decide | (simp; done)) ?_; intro _ _ _ _ _)
  | (with_reducible refine i_newL (by first | decide | (simp; done)) ?_; intro _ _ _ _ _) | fail)
local macro_rules | `(tactic| wtm_at "v") => `(tactic| repeat wtm_at "v1")
local macro_rules | `(tactic| wtm_at "vi") => `(tactic| repeat ((fail_if_success (with_reducible show tIfS _ _ _ _ _ _)); wtm_at "v1"))
local macro_rules | `(tactic| wtm_at "v0") => `(tactic| first | with_reducible refine ite_0 ?_ | with_reducible refine ite_n0 ?_ | with_reducible refine ite_n1 ?_ | fail)
local macro_rules | `(tactic| wtm_at "v1") => `(tactic| first
  | ((with_reducible refine i_mulI ?hm ?_); (case hm => exact wide_mul (a := 128) (b := 128) (by omega) (by omega) (by decide) (by decide) (by decide)))
  | ((with_reducible refine i_mod ?hm ?_); (case hm => first | decide | omega); intro _ _ _ _) | fail)
variable {P : Program} {w : World} {K : PySem.W.Frag} {mg : Str → Option Value} {base : Heap}
def spWord (K : PySem.W.Frag) (D : Addr) (z : Str) : Sp := fun vs H Q _ => ∃ (y : Addr), vs = [.ref y] ∧ H y = some (exHO (.ref D) none y) ∧ ∀ H', Same H H' → Q (.str z) H'
theorem c_word {K : PySem.W.Frag} {D y : Addr} {z : Str} {H : Hp} {Q : VK} {E : XK} (h : H y = some (exHO (.ref D) none y)) (k : ∀ H', Same H H' → Q (.str z) H') : spWord K D z ([.ref y] ++ []) H Q E := ⟨y, rfl, h, k⟩
def wordsAll : List Str := ["amount", "days", "deed", "fold", "leave", "line", "pot", "rule", "stretch", "table", "telling", "text", "part", "name", "number", "long", "cut"]
abbrev s_law_word : Stmt := topS 40
theorem sc_law_word : FnScope ["_law_e", "_law_some", "_law_words"] ["_law_e"] (defScope s_law_word) := ⟨rfl, rfl, rfl, by decide +kernel, rfl, by decide +kernel, by decide +kernel⟩
theorem ok_word {f D c_PayError c_NoAmount c_NoDays c_NoDeed c_NoFold c_NoLeave c_NoLine c_NoPot c_NoRule c_NoStretch c_NoTable c_NoTelling c_NoText c_NoPart c_NoName c_NoNumber c_TooLong c_NoCut : Addr} {fd : FuncData} (F : FunD K "_law_word" "_law_word" (defArgs s_law_word) (defBody s_law_word) (defScope s_law_word) [] [] f fd)
    (eD : ExcC K D) (g_PayError : mg "PayError" = some (.ref c_PayError)) (g_NoAmount : mg "NoAmount" = some (.ref c_NoAmount)) (g_NoDays : mg "NoDays" = some (.ref c_NoDays)) (g_NoDeed : mg "NoDeed" = some (.ref c_NoDeed)) (g_NoFold : mg "NoFold" = some (.ref c_NoFold)) (g_NoLeave : mg "NoLeave" = some (.ref c_NoLeave)) (g_NoLine : mg "NoLine" = some (.ref c_NoLine)) (g_NoPot : mg "NoPot" = some (.ref c_NoPot)) (g_NoRule : mg "NoRule" = some (.ref c_NoRule)) (g_NoStretch : mg "NoStretch" = some (.ref c_NoStretch))
    (g_NoTable : mg "NoTable" = some (.ref c_NoTable)) (g_NoTelling : mg "NoTelling" = some (.ref c_NoTelling)) (g_NoText : mg "NoText" = some (.ref c_NoText)) (g_NoPart : mg "NoPart" = some (.ref c_NoPart)) (g_NoName : mg "NoName" = some (.ref c_NoName)) (g_NoNumber : mg "NoNumber" = some (.ref c_NoNumber)) (g_TooLong : mg "TooLong" = some (.ref c_TooLong)) (g_NoCut : mg "NoCut" = some (.ref c_NoCut)) (n_isinstance : mg "isinstance" = none)
    (j : Nat) (hj : j < 17) (kk : ∀ i, i < 17 → PySem.W.kitOne K (.ref D) (.ref ([c_NoAmount, c_NoDays, c_NoDeed, c_NoFold, c_NoLeave, c_NoLine, c_NoPot, c_NoRule, c_NoStretch, c_NoTable, c_NoTelling, c_NoText, c_NoPart, c_NoName, c_NoNumber, c_TooLong, c_NoCut].getD i c_NoCut)) = some (decide (i = j)))
    (kP : PySem.W.kitOne K (.ref D) (.ref c_PayError) = some (decide (j < 12))) : FnG P w K mg base CX0 1 f fd ["_law_e"] (spWord K D (wordsAll.getD j "")) := by
  refine okG (k := 0) F sc_law_word (fun vs H Q E h => ?_) (fun cdv A hG outer s H vs Q E hr h => ?_)
  · obtain ⟨a, rfl, _⟩ := h
    rfl
  · obtain ⟨y, rfl, hy, k⟩ := h
    refine ⟨_, (pss_cons (ps_set (i := 1) sc_law_word.nd rfl (Or.inl rfl) (pe_lst (pa_cons (pe_callB (k_isX eD) (by rfl) n_isinstance bt_isinstance (pa_cons (pv 0) (pa_cons (pe_glob (v := .ref c_NoAmount) (by rfl) g_NoAmount rfl) pa_nil))) (pa_cons (pe_callB (k_isX eD) (by rfl) n_isinstance bt_isinstance (pa_cons (pv 0) (pa_cons (pe_glob (v := .ref c_NoDays) (by rfl) g_NoDays rfl) pa_nil))) (pa_cons (pe_callB (k_isX eD) (by rfl) n_isinstance bt_isinstance (pa_cons (pv 0) (pa_cons (pe_glob (v := .ref c_NoDeed) (by rfl) g_NoDeed rfl) pa_nil))) pa_nil))))) (pss_cons (ps_set (i := 1) sc_law_word.nd rfl (Or.inl rfl) (pe_op (k_add K) (pv 1) (pe_lst (pa_cons (pe_callB (k_isX eD) (by rfl) n_isinstance bt_isinstance (pa_cons (pv 0) (pa_cons (pe_glob (v := .ref c_NoFold) (by rfl) g_NoFold rfl) pa_nil))) (pa_cons (pe_callB (k_isX eD) (by rfl) n_isinstance bt_isinstance (pa_cons (pv 0) (pa_cons (pe_glob (v := .ref c_NoLeave) (by rfl) g_NoLeave rfl) pa_nil))) (pa_cons (pe_callB (k_isX eD) (by rfl) n_isinstance bt_isinstance (pa_cons (pv 0) (pa_cons (pe_glob (v := .ref c_NoLine) (by rfl) g_NoLine rfl) pa_nil))) pa_nil)))))) (pss_cons (ps_set (i := 1) sc_law_word.nd rfl (Or.inl rfl) (pe_op (k_add K) (pv 1) (pe_lst (pa_cons (pe_callB (k_isX eD) (by rfl) n_isinstance bt_isinstance (pa_cons (pv 0) (pa_cons (pe_glob (v := .ref c_NoPot) (by rfl) g_NoPot rfl) pa_nil))) (pa_cons (pe_callB (k_isX eD) (by rfl) n_isinstance bt_isinstance (pa_cons (pv 0) (pa_cons (pe_glob (v := .ref c_NoRule) (by rfl) g_NoRule rfl) pa_nil))) (pa_cons (pe_callB (k_isX eD) (by rfl) n_isinstance bt_isinstance (pa_cons (pv 0) (pa_cons (pe_glob (v := .ref c_NoStretch) (by rfl) g_NoStretch rfl) pa_nil))) pa_nil)))))) (pss_cons (ps_set (i := 1) sc_law_word.nd rfl (Or.inl rfl) (pe_op (k_add K) (pv 1) (pe_lst (pa_cons (pe_callB (k_isX eD) (by rfl) n_isinstance bt_isinstance (pa_cons (pv 0) (pa_cons (pe_glob (v := .ref c_NoTable) (by rfl) g_NoTable rfl) pa_nil))) (pa_cons (pe_callB (k_isX eD) (by rfl) n_isinstance bt_isinstance (pa_cons (pv 0) (pa_cons (pe_glob (v := .ref c_NoTelling) (by rfl) g_NoTelling rfl) pa_nil))) (pa_cons (pe_callB (k_isX eD) (by rfl) n_isinstance bt_isinstance (pa_cons (pv 0) (pa_cons (pe_glob (v := .ref c_NoText) (by rfl) g_NoText rfl) pa_nil))) pa_nil)))))) (pss_cons (ps_set (i := 1) sc_law_word.nd rfl (Or.inl rfl) (pe_op (k_add K) (pv 1) (pe_lst (pa_cons (pe_callB (k_isX eD) (by rfl) n_isinstance bt_isinstance (pa_cons (pv 0) (pa_cons (pe_glob (v := .ref c_NoPart) (by rfl) g_NoPart rfl) pa_nil))) (pa_cons (pe_callB (k_isX eD) (by rfl) n_isinstance bt_isinstance (pa_cons (pv 0) (pa_cons (pe_glob (v := .ref c_NoName) (by rfl) g_NoName rfl) pa_nil))) (pa_cons (pe_callB (k_isX eD) (by rfl) n_isinstance bt_isinstance (pa_cons (pv 0) (pa_cons (pe_glob (v := .ref c_NoNumber) (by rfl) g_NoNumber rfl) pa_nil))) pa_nil)))))) (pss_cons (ps_set (i := 1) sc_law_word.nd rfl (Or.inl rfl) (pe_op (k_add K) (pv 1) (pe_lst (pa_cons (pe_callB (k_isX eD) (by rfl) n_isinstance bt_isinstance (pa_cons (pv 0) (pa_cons (pe_glob (v := .ref c_TooLong) (by rfl) g_TooLong rfl) pa_nil))) (pa_cons (pe_callB (k_isX eD) (by rfl) n_isinstance bt_isinstance (pa_cons (pv 0) (pa_cons (pe_glob (v := .ref c_NoCut) (by rfl) g_NoCut rfl) pa_nil))) pa_nil))))) (pss_cons (ps_set (i := 2) sc_law_word.nd rfl (Or.inl rfl) (pe_lst (pa_cons pe_str (pa_cons pe_str (pa_cons pe_str (pa_cons pe_str (pa_cons pe_str (pa_cons pe_str (pa_cons pe_str (pa_cons pe_str (pa_cons pe_str (pa_cons pe_str (pa_cons pe_str pa_nil))))))))))))) (pss_cons (ps_set (i := 2) sc_law_word.nd rfl (Or.inl rfl) (pe_op (k_add K) (pv 2) (pe_lst (pa_cons pe_str (pa_cons pe_str (pa_cons pe_str (pa_cons pe_str (pa_cons pe_str (pa_cons pe_str pa_nil))))))))) (pss_cons (ps_if ((pw_or (pt_cmpR (k_ne K hr) (pe_bm PySem.F.plainAttrs_list PySem.F.slot_list_count PySem.F.type_list_count (k_countF K) (pv 1) (pa_cons pe_bl pa_nil)) pe_int (nomark _)) (pw_or1 (pt_cmpR (k_ne K hr) (pe_callB (k_isX eD) (by rfl) n_isinstance bt_isinstance (pa_cons (pv 0) (pa_cons (pe_glob (v := .ref c_PayError) (by rfl) g_PayError rfl) pa_nil))) (pe_cmpR op_lt (pe_bm PySem.F.plainAttrs_list PySem.F.slot_list_index PySem.F.type_list_index (k_indexF K) (pv 1) (pa_cons pe_bl pa_nil)) pe_int (nomark _)) (nomark _))))).pt (pss_one (ps_ret pe_str)) pss_nil) (pss_one (ps_ret (pe_ix (k_ix K) (pv 2) (pe_bm PySem.F.plainAttrs_list PySem.F.slot_list_index PySem.F.type_list_index (k_indexF K) (pv 1) (pa_cons pe_bl pa_nil)) (fun _ _ => rfl))))))))))))), ?_⟩
    wtm_at "v"
    refine i_isX hy (.own _) (kk 0 (by decide)) ?_
    wtm_at "v"
    refine i_isX hy (.own _) (kk 1 (by decide)) ?_
    wtm_at "v"
    refine i_isX hy (.own _) (kk 2 (by decide)) ?_
    wtm_at "v"
    rename_i p1 H1 n1 s1 g1
    have e1 : True ∧ Same H H1 := ⟨trivial, s1⟩
    clear n1 s1
    refine i_isX (e1.2 _ _ hy) (.own _) (kk 3 (by decide)) ?_
    wtm_at "v"
    refine i_isX (e1.2 _ _ hy) (.own _) (kk 4 (by decide)) ?_
    wtm_at "v"
    refine i_isX (e1.2 _ _ hy) (.own _) (kk 5 (by decide)) ?_
    wtm_at "v"
    rename_i q1 G1 n1 s1 k1
    refine i_addL (s1 _ _ g1) k1 (by simp) fun p2 H2 m2 t2 g2 => ?_
    have e2 : True ∧ Same H H2 := ⟨trivial, (e1.2.trans s1).trans t2⟩
    clear n1 s1 k1 m2 t2 e1 g1
    wtm_at "v"
    refine i_isX (e2.2 _ _ hy) (.own _) (kk 6 (by decide)) ?_
    wtm_at "v"
    refine i_isX (e2.2 _ _ hy) (.own _) (kk 7 (by decide)) ?_
    wtm_at "v"
    refine i_isX (e2.2 _ _ hy) (.own _) (kk 8 (by decide)) ?_
    wtm_at "v"
    rename_i q2 G2 n2 s2 k2
    refine i_addL (s2 _ _ g2) k2 (by simp) fun p3 H3 m3 t3 g3 => ?_
    have e3 : True ∧ Same H H3 := ⟨trivial, (e2.2.trans s2).trans t3⟩
    clear n2 s2 k2 m3 t3 e2 g2
    wtm_at "v"
    refine i_isX (e3.2 _ _ hy) (.own _) (kk 9 (by decide)) ?_
    wtm_at "v"
    refine i_isX (e3.2 _ _ hy) (.own _) (kk 10 (by decide)) ?_
    wtm_at "v"
    refine i_isX (e3.2 _ _ hy) (.own _) (kk 11 (by decide)) ?_
    wtm_at "v"
    rename_i q3 G3 n3 s3 k3
    refine i_addL (s3 _ _ g3) k3 (by simp) fun p4 H4 m4 t4 g4 => ?_
    have e4 : True ∧ Same H H4 := ⟨trivial, (e3.2.trans s3).trans t4⟩
    clear n3 s3 k3 m4 t4 e3 g3
    wtm_at "v"
    refine i_isX (e4.2 _ _ hy) (.own _) (kk 12 (by decide)) ?_
    wtm_at "v"
    refine i_isX (e4.2 _ _ hy) (.own _) (kk 13 (by decide)) ?_
    wtm_at "v"
    refine i_isX (e4.2 _ _ hy) (.own _) (kk 14 (by decide)) ?_
    wtm_at "v"
    rename_i q4 G4 n4 s4 k4
    refine i_addL (s4 _ _ g4) k4 (by simp) fun p5 H5 m5 t5 g5 => ?_
    have e5 : True ∧ Same H H5 := ⟨trivial, (e4.2.trans s4).trans t5⟩
    clear n4 s4 k4 m5 t5 e4 g4
    wtm_at "v"
    refine i_isX (e5.2 _ _ hy) (.own _) (kk 15 (by decide)) ?_
    wtm_at "v"
    refine i_isX (e5.2 _ _ hy) (.own _) (kk 16 (by decide)) ?_
    wtm_at "v"
    rename_i q5 G5 n5 s5 k5
    refine i_addL (s5 _ _ g5) k5 (by simp) fun p6 H6 m6 t6 g6 => ?_
    have e6 : True ∧ Same H H6 := ⟨trivial, (e5.2.trans s5).trans t6⟩
    clear n5 s5 k5 m6 t6 e5 g5
    wtm_at "v"
    rename_i qa Ga na sa ka qb Gb nb sb kb
    refine i_addL (sb _ _ ka) kb (by simp) fun pw Hw nw sw gw => ?_
    have gs := (sa.trans (sb.trans sw)) _ _ g6
    have ew : True ∧ Same H Hw := ⟨trivial, e6.2.trans (sa.trans (sb.trans sw))⟩
    clear na sa ka nb sb kb nw sw e6
    have hl : ([V.bl (decide (0 = j)), .bl (decide (1 = j)), .bl (decide (2 = j))] ++ [.bl (decide (3 = j)), .bl (decide (4 = j)), .bl (decide (5 = j))] ++ [.bl (decide (6 = j)), .bl (decide (7 = j)), .bl (decide (8 = j))] ++ [.bl (decide (9 = j)), .bl (decide (10 = j)), .bl (decide (11 = j))] ++ [.bl (decide (12 = j)), .bl (decide (13 = j)), .bl (decide (14 = j))] ++ [.bl (decide (15 = j)), .bl (decide (16 = j))]) = (List.range 17).map fun i => V.bl (decide (i = j)) := rfl
    rw [hl] at gs
    have hc : (((List.range 17).map fun i => V.bl (decide (i = j))).countP fun z => eqV z (.bl true)) = 1 := by
      have z : ∀ j, j < 17 → (((List.range 17).map fun i => V.bl (decide (i = j))).countP fun z => eqV z (.bl true)) = 1 := by decide
      exact z j hj
    have hat : ∀ m, m < 17 → ((List.range 17).map fun i => V.bl (decide (i = j)))[m]? = some (.bl (decide (m = j))) := fun m hm => by
      rw [List.getElem?_map, List.getElem?_range hm]
      rfl
    have x1 : ((List.range 17).map fun i => V.bl (decide (i = j)))[j]? = some (.bl true) := by rw [hat j hj]; simp
    have x2 : ∀ (m : Nat) (z' : V), m < j → ((List.range 17).map fun i => V.bl (decide (i = j)))[m]? = some z' → eqV z' (.bl true) = false := fun m z' hm e => by
      rw [hat m (by omega)] at e
      cases e
      have : decide (m = j) = false := decide_eq_false (by omega)
      rw [this]
      rfl
    have x3 : ([V.str "amount", .str "days", .str "deed", .str "fold", .str "leave", .str "line", .str "pot", .str "rule", .str "stretch", .str "table", .str "telling"] ++ [.str "text", .str "part", .str "name", .str "number", .str "long", .str "cut"])[j]? = some (.str (wordsAll.getD j "")) := by
      show (wordsAll.map V.str)[j]? = _
      have hw : wordsAll.length = 17 := rfl
      rw [List.getElem?_map, List.getElem?_eq_getElem (by omega), List.getD_eq_getElem?_getD, List.getElem?_eq_getElem (by omega)]
      rfl
    wtm_at "v"
    refine i_bmL gs ?_
    wtm_at "v"
    refine i_countF (SqL.of gs) rfl rfl hc ?_
    wtm_at "v"
    rw [show (!decide (((1 : Nat) : Int) = 1)) = false from rfl]
    wtm_at "v"
    refine i_isX (ew.2 _ _ hy) (.own _) kP ?_
    wtm_at "v"
    refine i_bmL gs ?_
    wtm_at "v"
    refine i_indexF (SqL.of gs) rfl rfl x1 rfl x2 ?_
    wtm_at "v"
    refine i_neB (by simp; omega) ?_
    wtm_at "v"
    refine i_bmL gs ?_
    wtm_at "v"
    refine i_indexF (SqL.of gs) rfl rfl x1 rfl x2 ?_
    wtm_at "v"
    refine i_ixL (SqL.of gw) (atI_nat x3) ?_
    exact k _ ew.2
end
section
/-! ### what is spoilt of days -/
section
variable {K : PySem.W.Frag} {H H' : Hp} {Q : VK} {σ : L2.St}
theorem i_ixP {p : Addr} {xs : List V} {j : Int} (h1 : SqL K H p xs) (h0 : 0 ≤ j) (h2 : j < xs.length) (h : ∀ v ∈ xs, Q v H) : rIx K (.ref p) (.int j) H Q := by
  obtain ⟨n, rfl⟩ : ∃ n : Nat, j = n := ⟨j.toNat, by omega⟩
  have hn : n < xs.length := by omega
  exact i_ixL h1 (atI_nat (List.getElem?_eq_getElem hn)) (h _ (List.getElem_mem hn))
theorem i_dnewZ (k : ∀ p H', New H p → Same H H' → H' p = some (.dK []) → Q (.ref p) H') : tDNewK σ H Q := fun p hp => k p _ hp (same_new hp) upd_same
theorem i_disp1 {k : Int} {v : V} (h : ∀ p H', New H p → Same H H' → H' p = some (.dK [(Sum.inl k, v)]) → Q (.ref p) H') : tDisp [(tC (.int k), tC v)] σ H Q := by
  intro p np
  refine ⟨upd_same, [(Sum.inl k, v)], rfl, by simp, h p _ np (fun b o e => ?_) upd_same⟩
  have hb : b ≠ p := fun z => by subst z; rw [np] at e; cases e
  rw [upd_ne hb, upd_ne hb]
  exact e
/-- one thing that is no mark, whatever the reel does -/
inductive Odd1 (K : PySem.W.Frag) (H : Hp) (st : Addr) : V → Prop
  | int (i : Int) : Odd1 K H st (.int i)
  | bl (b : Bool) : Odd1 K H st (.bl b)
  | non : Odd1 K H st .non
  | str (z : Str) : Odd1 K H st (.str z)
  | lst {p : Addr} {xs : List V} (h : H p = some (.lst xs)) (hp : p ≠ st) : Odd1 K H st (.ref p)
  | tup {p : Addr} {xs : List V} (h : Tp K H p xs) : Odd1 K H st (.ref p)
theorem Odd1.fx {st : Addr} {n : Nat} {v : V} (h : Odd1 K H st v) (S : StoreAt H st st n) (f : Fx st st H H') : Odd1 K H' st v := by
  cases h with
  | int i => exact .int i
  | bl b => exact .bl b
  | non => exact .non
  | str z => exact .str z
  | lst h hp => exact .lst (f.oth _ _ h hp hp) hp
  | tup h => exact .tup (h.tw (tw_st f S))
theorem Odd1.same {st : Addr} {v : V} (h : Odd1 K H st v) (e : Same H H') : Odd1 K H' st v := by
  cases h with
  | int i => exact .int i
  | bl b => exact .bl b
  | non => exact .non
  | str z => exact .str z
  | lst h hp => exact .lst (e _ _ h) hp
  | tup h => exact .tup (Tp.mono e h)
theorem Odd1.known {st : Addr} {v : V} (h : Odd1 K H st v) : Known K H v := by
  cases h with
  | int i => exact .nt (.int i)
  | bl b => exact .nt (.bl b)
  | non => exact .nt .non
  | str z => exact .nt (.str z)
  | lst h hp => exact .nt (.lst (SqL.of h))
  | tup h => exact .tup h
/-- a list of whole numbers is a row of things -/
theorem thr_ints {a : Addr} {ns : List Int} (h : H a = some (.lst (ns.map V.int))) (hl : ns.length ≤ 4000) : ThR K H (.ref a) (some (ns.map V.int)) :=
  .row (t := false) (SqL.of h) (fun x hx => by obtain ⟨i, _, rfl⟩ := List.mem_map.mp hx; exact .nt (.int i)) (by rw [List.length_map]; exact hl)
/-- .. with one more at a place -/
theorem thr_put {a : Addr} {ms ns : List Int} {v : V} (h : H a = some (.lst (ms.map V.int ++ [v] ++ ns.map V.int))) (hv : Known K H v) (hl : ms.length + ns.length ≤ 3999) : ThR K H (.ref a) (some (ms.map V.int ++ [v] ++ ns.map V.int)) :=
  .row (t := false) (SqL.of h) (fun x hx => by
    simp only [List.mem_append, List.mem_singleton] at hx
    rcases hx with (hx | rfl) | hx
    · obtain ⟨i, _, rfl⟩ := List.mem_map.mp hx; exact .nt (.int i)
    · exact hv
    · obtain ⟨i, _, rfl⟩ := List.mem_map.mp hx; exact .nt (.int i)) (by simp; omega)
end
theorem thI_put {ms ns : List Int} {v : V} (h : (ms.map V.int ++ [v] ++ ns.map V.int).all isW = true) : ∃ i, v = .int i ∧ thI (ms.map V.int ++ [v] ++ ns.map V.int) = ms ++ [i] ++ ns := by
  have hv : isW v = true := by
    rw [List.all_append, List.all_append] at h
    simp only [Bool.and_eq_true, List.all_cons, List.all_nil, Bool.and_true] at h
    exact h.1.2
  obtain ⟨i, rfl⟩ := isW_int hv
  refine ⟨i, rfl, ?_⟩
  rw [show ms.map V.int ++ [V.int i] ++ ns.map V.int = (ms ++ [i] ++ ns).map V.int by simp, thI_map]
/-- a mark that is none -/
theorem areD_mark {p : Int} {ms ns : List Int} {v : V} {ot : Option (List V)} (h : isW v = false ∨ ∃ i, v = .int i ∧ (i < 0 ∨ p ≤ i)) : areD (.int p) (some (ms.map V.int ++ [v] ++ ns.map V.int)) ot = false := by
  cases e : unlR (some (ms.map V.int ++ [v] ++ ns.map V.int)) with
  | false => simp only [areD, e, Bool.and_false, Bool.false_and]
  | true =>
    rw [unlR, Bool.and_eq_true] at e
    obtain ⟨i, rfl, ei⟩ := thI_put e.1
    have hi : i < 0 ∨ p ≤ i := by
      rcases h with h | ⟨j, hj, h⟩
      · cases h
      · cases hj; exact h
    have : (thI ((some (ms.map V.int ++ [V.int i] ++ ns.map V.int)).getD [])).all (fun i => decide (0 ≤ i) && decide (i < p)) = false := by
      show (thI (ms.map V.int ++ [V.int i] ++ ns.map V.int)).all (fun i => decide (0 ≤ i) && decide (i < p)) = false
      rw [ei, List.all_append, List.all_append]
      have : (decide (0 ≤ i) && decide (i < p)) = false := by
        rcases hi with h | h
        · rw [decide_eq_false (by omega : ¬ 0 ≤ i)]; rfl
        · rw [decide_eq_false (by omega : ¬ i < p), Bool.and_false]
      simp only [List.all_cons, this, Bool.false_and, Bool.and_false]
    simp only [areD, this, Bool.and_false, Bool.false_and]
theorem areD_twice {p : Int} {ms : List Int} {ot : Option (List V)} (h : ¬ ms.Nodup) : areD (.int p) (some (ms.map V.int)) ot = false := by
  have : unlR (some (ms.map V.int)) = false := by rw [unlR, thI_map, decide_eq_false h, Bool.and_false]
  simp only [areD, this, Bool.and_false, Bool.false_and]
theorem areD_noRow {v : V} {ot : Option (List V)} : areD v none ot = false := by
  cases v <;> simp only [areD, unlR, Bool.and_false, Bool.false_and]
theorem areD_turn {v : V} {om ot : Option (List V)} (h : unlR ot = false) : areD v om ot = false := by
  cases v <;> simp only [areD, h, Bool.and_false, Bool.false_and]
theorem areD_long {v : V} {om ot : Option (List V)} (h : 60 < (ot.getD []).length) : areD v om ot = false := by
  cases v <;> simp only [areD]
  rw [decide_eq_false (by omega : ¬ (ot.getD []).length ≤ 60), Bool.and_false]
theorem unlR_put {ms ns : List Int} {v : V} (h : isW v = false) : unlR (some (ms.map V.int ++ [v] ++ ns.map V.int)) = false := by
  rw [unlR, List.all_append, List.all_append]
  simp [h]
theorem cut_last (xs : List V) : cutV xs (some (-1)) none = xs.drop (xs.length - 1) := by
  unfold cutV
  have e1 : HT.sIx xs.length 0 (some (-1)) = xs.length - 1 := by
    unfold HT.sIx
    simp
    omega
  have e2 : HT.sIx xs.length xs.length none = xs.length := rfl
  rw [e1, e2, List.take_of_length_le (by rw [List.length_drop]; exact Nat.le_refl _)]
theorem last_twice {ms : List Int} (h : ms ≠ []) : ¬ (ms ++ ms.drop (ms.length - 1)).Nodup := by
  intro hn
  have hl := List.length_pos_iff.mpr h
  have hd : (ms.length - 1) < ms.length := by omega
  have h1 : ms[ms.length - 1] ∈ ms := List.getElem_mem hd
  have h2 : ms[ms.length - 1] ∈ ms.drop (ms.length - 1) := by
    rw [List.drop_eq_getElem_cons hd]
    exact List.mem_cons_self ..
  exact (List.nodup_append.mp hn).2.2 _ h1 _ h2 rfl
def OddD (K : PySem.W.Frag) (H : Hp) (T : Addr) : Prop := ∃ v m t om ot, Tp K H T [v, m, t] ∧ Known K H v ∧ ThR K H m om ∧ ThR K H t ot ∧ areD v om ot = false
def spOdd (K : PySem.W.Frag) : Sp := fun vs H Q _ => ∃ (st a b : Addr) (n : Nat) (bs : List Bool) (ts : List Int), vs = [.ref st, .int bs.length, .ref a, .ref b] ∧ StoreAt H st st n ∧ n ≤ 60000000 ∧ Rests bs ∧ Turn ts ∧ H a = some (.lst ((marksFrom 0 bs).map V.int)) ∧ H b = some (.lst (ts.map V.int)) ∧ a ≠ st ∧ b ≠ st ∧
  ∀ T H', OddD K H' T → StoreAt H' st st (n + 10) → Fx st st H H' → Q (.ref T) H'
theorem c_odd {K : PySem.W.Frag} {st a b : Addr} {n : Nat} {bs : List Bool} {ts : List Int} {H : Hp} {Q : VK} {E : XK} (S : StoreAt H st st n) (hn : n ≤ 60000000) (hb : Rests bs) (ht : Turn ts) (ha : H a = some (.lst ((marksFrom 0 bs).map V.int))) (h2 : H b = some (.lst (ts.map V.int))) (na : a ≠ st) (nb : b ≠ st)
    (k : ∀ T H', OddD K H' T → StoreAt H' st st (n + 10) → Fx st st H H' → Q (.ref T) H') : spOdd K ([.ref st, .int bs.length, .ref a, .ref b] ++ []) H Q E := ⟨st, a, b, n, bs, ts, rfl, S, hn, hb, ht, ha, h2, na, nb, k⟩
def spRefX (K : PySem.W.Frag) : Sp := fun vs H Q _ => ∃ (v m t : V) (om ot : Option (List V)), vs = [v, m, t] ∧ Known K H v ∧ ThR K H m om ∧ ThR K H t ot ∧ areD v om ot = false ∧ ∀ H', Same H H' → Q (.bl true) H'
theorem c_refX {K : PySem.W.Frag} {v m t : V} {om ot : Option (List V)} {H : Hp} {Q : VK} {E : XK} (h1 : Known K H v) (h2 : ThR K H m om) (h3 : ThR K H t ot) (h4 : areD v om ot = false) (k : ∀ H', Same H H' → Q (.bl true) H') : spRefX K ([v, m, t] ++ []) H Q E := ⟨v, m, t, om, ot, rfl, h1, h2, h3, h4, k⟩
end
section
/-! ### the steps as one word: wtm_at "v1" a step, wtm_at "v" as many as go -/
local macro_rules | `(tactic| wtm_at "tm") => `(tactic| first
  | exact Tm.refl _
  | exact Tm.same (by with_reducible assumption)
  | exact Tm.fx (by with_reducible assumption)
  | (refine Tm.trans ?_ (Tm.same (by with_reducible assumption)); wtm_at "tm")
  | (refine Tm.trans ?_ (Tm.fx (by with_reducible assumption)); wtm_at "tm") | fail)
local macro_rules | `(tactic| wtm_at "lkT1") => `(tactic| first
  | with_reducible assumption
  | exact TpK.tp (by with_reducible assumption)
  | exact TpH.tm (by with_reducible assumption) (by wtm_at "tm")
  | exact Tp.tm (by with_reducible assumption) (by wtm_at "tm")
  | exact Tp.of (by with_reducible assumption) | fail)
local macro_rules | `(tactic| wtm_at "lkT") => `(tactic| first
  | wtm_at "lkT1"
  | fail)
local macro_rules | `(tactic| wtm_at "lk") => `(tactic| first
  | assumption
  | exact b_get (by assumption) (by wtm_at "lk")
  | exact b_lst (by assumption) (by wtm_at "ne") (by wtm_at "ne") (by wtm_at "lk") | fail)
local macro_rules | `(tactic| wtm_at "lkL") => `(tactic| first
  | assumption
  | exact SqL.of (by wtm_at "lk")
  | exact b_L (by assumption) (by wtm_at "lkL") | fail)
local macro_rules | `(tactic| wtm_at "intL") => `(tactic| first | exact IntL.nil | exact IntL.cons (by wtm_at "intL") | fail)
local macro_rules | `(tactic| wtm_at "lkS0") => `(tactic| first
  | with_reducible assumption
  | exact StoreAt.same (by with_reducible assumption) (by wtm_at "lkS0") | fail)
local macro_rules | `(tactic| wtm_at "lkS") => `(tactic| first
  | with_reducible assumption
  | exact StoreAt.from (by with_reducible assumption) (by wtm_at "sm") | fail)
local macro_rules | `(tactic| wtm_at "ne") => `(tactic| first
  | assumption
  | exact Ne.symm (by assumption)
  | exact st_ne1 (by with_reducible assumption) (by wtm_at "lkS0")
  | exact st_ne2 (by with_reducible assumption) (by wtm_at "lkS0")
  | exact new_ne (by assumption) (by wtm_at "lk")
  | exact new_ne' (by assumption) (by wtm_at "lk") | fail)
local macro_rules | `(tactic| wtm_at "sm") => `(tactic| first
  | with_reducible assumption
  | exact Same.refl _
  | (refine Same.trans ?_ (by with_reducible assumption); wtm_at "sm") | fail)
local macro_rules | `(tactic| wtm_at "fx") => `(tactic| first
  | with_reducible assumption
  | exact Fx.same (Same.refl _)
  | exact Fx.same (by with_reducible assumption)
  | (refine Fx.trans ?_ (by with_reducible assumption); wtm_at "fx")
  | (refine Fx.trans ?_ (Fx.same (by with_reducible assumption)); wtm_at "fx") | fail)
local macro_rules | `(tactic| wtm_at "v0") => `(tactic| first
  | with_reducible refine i_seq ?_ | with_reducible refine i_asg ?_ | with_reducible refine i_var rfl ?_ | with_reducible refine i_c ?_ | with_reducible refine i_name ?_
  | with_reducible refine i_op ?_ | with_reducible refine i_ifS ?_ | with_reducible refine i_test ?_ | with_reducible refine i_tB ?_
  | with_reducible refine i_cons ?_ | with_reducible refine i_nil ?_ | with_reducible refine i_call ?_ | with_reducible refine i_callN ?_ | with_reducible refine i_callX ?_ | with_reducible refine i_callNX ?_ | with_reducible refine i_cb ?_
  | with_reducible refine i_tup ?_ | with_reducible refine i_lst ?_ | with_reducible refine i_ret ?_ | with_reducible refine i_retN ?_ | with_reducible refine i_drop ?_
  | with_reducible refine i_next ?_ | with_reducible refine i_par ?_ | with_reducible refine i_par2 ?_ | with_reducible refine i_ifE ?_ | with_reducible refine i_un ?_
  | with_reducible refine i_and ?_ | with_reducible refine i_or ?_ | with_reducible refine i_not ?_ | with_reducible refine i_andV ?_ | with_reducible refine i_orV ?_ | with_reducible refine i_notV ?_
  | with_reducible refine i_notV2 ?_ | with_reducible refine i_bif (A := fun _ => _) ?_ | with_reducible refine i_brk ?_ | with_reducible refine i_ctn ?_
  | with_reducible refine i_abs ?_ | with_reducible refine i_min ?_ | with_reducible refine i_max ?_ | with_reducible refine i_for ?_ | with_reducible refine i_iR1 ?_ | with_reducible refine i_iR2 ?_ | with_reducible refine i_iL ?_ | with_reducible refine i_iT ?_ | with_reducible refine i_wb ?_
  | with_reducible refine i_sl ?_ | with_reducible refine i_no ?_ | with_reducible refine i_so ?_ | with_reducible refine i_exI ?_ | with_reducible refine i_exB ?_ | with_reducible refine i_gcons ?_ | with_reducible refine i_gnil ?_ | with_reducible refine i_bm ?_ | with_reducible refine i_gsub ?_ | with_reducible refine i_lc ?_ | with_reducible refine i_yes ?_ | with_reducible refine i_iE ?_
  | with_reducible refine ite_1 ?_ | with_reducible refine i_pow6 ?_ | with_reducible refine i_pow18 ?_ | with_reducible refine i_pow30 ?_
  | with_reducible refine i_addI ?_ | with_reducible refine i_I0 ?_ | with_reducible refine i_U ?_ | with_reducible refine i_eqI ?_ | with_reducible refine i_neI ?_ | fail)
local macro_rules | `(tactic| wtm_at "v1") => `(tactic| first
  | wtm_at "v0"
  | ((with_reducible show rIx _ _ _ _ _); first | refine i_ixT (by wtm_at "lkT") rfl ?_ | refine i_ixL (by wtm_at "lkL") rfl ?_)
  | ((with_reducible show rLenU _ _ _ _); first | refine i_lenT (by wtm_at "lkT") ?_ | refine i_lenL (by wtm_at "lkL") ?_)
  | ((with_reducible show spDraw _ _ _ _); refine c_draw (by wtm_at "lkS") (by first | decide | omega) (by first | decide | omega) (by omega) ?_; intro _ _ _ _ _ _)
  | (with_reducible refine i_newTH (by first | decide | (simp; done)) ?_; intro _ _ _ _ _)
  | (with_reducible refine i_newL (by first | decide | (simp; done)) ?_; intro _ _ _ _ _) | fail)
local macro_rules | `(tactic| wtm_at "v") => `(tactic| repeat wtm_at "v1")
local macro_rules | `(tactic| wtm_at "vi") => `(tactic| repeat ((fail_if_success (with_reducible show tIfS _ _ _ _ _ _)); wtm_at "v1"))
local macro_rules | `(tactic| wtm_at "v0") => `(tactic| first | with_reducible refine ite_0 ?_ | with_reducible refine ite_n0 ?_ | with_reducible refine ite_n1 ?_ | fail)
variable {P : Program} {w : World} {K : PySem.W.Frag} {mg : Str → Option Value} {base : Heap}
abbrev s_law_refused : Stmt := topS 42
theorem sc_law_refused : FnScope ["_law_period", "_law_marks_here", "_law_some", "_law_caught", "_law_e"] ["_law_period", "_law_marks_here", "_law_some"] (defScope s_law_refused) := ⟨rfl, rfl, rfl, by decide +kernel, rfl, by decide +kernel, by decide +kernel⟩
theorem ok_refX {c_Days c_NoDays c_PayError f : Addr} {fd : FuncData} (F : FunD K "_law_refused" "_law_refused" (defArgs s_law_refused) (defBody s_law_refused) (defScope s_law_refused) [] [] f fd) (te : PySem.W.exmOne K (.ref c_NoDays) (.ref c_PayError) = some true) (g_PayError : mg "PayError" = some (.ref c_PayError)) (eD : ExcC K c_NoDays) (kV : PySem.W.kitOne K (.ref c_NoDays) (.type "ValueError") = some true)
    (O_x_Days_2_turned : OwnCK P w K mg base (L2.CX P w) 4 "Days" c_Days ["self", "period", "marks", "turned"] 2 ["turned"] (fun vs zs => vs ++ zs) (spDaysX K c_NoDays)) (O_law_word : Own P w K mg base CX0 1 "_law_word" ["_law_e"] [] (spWord K c_NoDays "days")) (n_isinstance : mg "isinstance" = none) (n_ValueError : mg "ValueError" = none) : FnG P w K mg base CX0 6 f fd ["_law_period", "_law_marks_here", "_law_some"] (spRefX K) := by
  refine okG (k := 5) F sc_law_refused (fun vs H Q E h => ?_) (fun cdv A hG outer s H vs Q E hr h => ?_)
  · obtain ⟨a, b, c, d, e, rfl, _⟩ := h
    rfl
  · obtain ⟨v, m, t, om, ot, rfl, hv, hm, ht, ha, k⟩ := h
    refine ⟨_, (pss_cons (ps_set (i := 3) sc_law_refused.nd rfl (Or.inl rfl) pe_non) (pss_cons (ps_try_keep (i := 4) (T := fun cls => cls = .ref c_NoDays) rfl rfl rfl sc_law_refused.nd rfl rfl (test_one (c := .ref c_PayError) ⟨rfl, by decide, Or.inl g_PayError⟩ (fun cls h => by rw [h]; exact te)) (fun W pn xe tk _ => (pss_one (ps_expr (pe_ownCKX O_x_Days_2_turned hG (hr.mono (by decide)) (fun σ => passAt tk σ) (pa_cons (pv 0) (pa_cons (pv 1) pa_nil)) (pk_cons (pv 2) pk_nil))))) (fun a oe cls d pn => (pss_one (ps_set (i := 3) sc_law_refused.nd rfl (Or.inl rfl) (pv 4))))) (pss_one (ps_ret (pe_and (pe_cmpR op_notN1 (pv 3) pe_non (nomark _)) (pe_and (pe_cmpR (k_eq K hr) (pe_own O_law_word hG (hr.mono (by decide)) pass0 (pa_cons (pv 3) pa_nil)) pe_str (nomark _)) (pe_one (pe_callB (k_isX eD) (by rfl) n_isinstance bt_isinstance (pa_cons (pv 3) (pa_cons (pe_bltn (v := .ty "ValueError") (by rfl) n_ValueError (by decide +kernel) rfl) pa_nil)))))))))), ?_⟩
    wtm_at "v"
    refine i_makeKX ?_
    wtm_at "v"
    refine ⟨rfl, rfl, fun x dx nx ndx hne => ?_⟩
    have s0 : Same H (upd (upd H dx (.own x)) x (.ins c_Days dx [])) := fun b o e => by rw [upd_ne (ne_of_none e nx), upd_ne (ne_of_none e ndx)]; exact e
    refine ⟨x, v, m, t, om, ot, rfl, hv.same s0, hm.same s0, ht.same s0, ha, fun H1 s1 => ?_⟩
    refine ⟨rfl, fun y ny => ?_⟩
    have hy : upd H1 y (exHO (.ref c_NoDays) none y) y = some (exHO (.ref c_NoDays) none y) := upd_same
    have sy : True ∧ Same H (upd H1 y (exHO (.ref c_NoDays) none y)) := ⟨trivial, (s0.trans s1).trans (same_new ny)⟩
    clear s1 ny s0
    wtm_at "v"
    refine i_notN ?_
    refine ⟨true, by simp, ?_⟩
    rw [if_pos rfl]
    wtm_at "v"
    refine c_word hy fun H3 s3 => ?_
    wtm_at "v"
    refine i_eqS rfl ?_
    wtm_at "v"
    refine i_isX (s3 _ _ hy) (.ty _) kV ?_
    wtm_at "v"
    exact k _ (sy.2.trans s3)
end
section
/-! ### the steps as one word: wtm_at "v1" a step, wtm_at "v" as many as go -/
local macro_rules | `(tactic| wtm_at "tm") => `(tactic| first
  | exact Tm.refl _
  | exact Tm.same (by with_reducible assumption)
  | exact Tm.fx (by with_reducible assumption)
  | (refine Tm.trans ?_ (Tm.same (by with_reducible assumption)); wtm_at "tm")
  | (refine Tm.trans ?_ (Tm.fx (by with_reducible assumption)); wtm_at "tm") | fail)
local macro_rules | `(tactic| wtm_at "lkT1") => `(tactic| first
  | with_reducible assumption
  | exact TpK.tp (by with_reducible assumption)
  | exact TpH.tm (by with_reducible assumption) (by wtm_at "tm")
  | exact Tp.tm (by with_reducible assumption) (by wtm_at "tm")
  | exact Tp.of (by with_reducible assumption) | fail)
local macro_rules | `(tactic| wtm_at "lkT") => `(tactic| first
  | wtm_at "lkT1"
  | fail)
local macro_rules | `(tactic| wtm_at "lk") => `(tactic| first
  | assumption
  | exact b_get (by assumption) (by wtm_at "lk")
  | exact b_lst (by assumption) (by wtm_at "ne") (by wtm_at "ne") (by wtm_at "lk") | fail)
local macro_rules | `(tactic| wtm_at "lkL") => `(tactic| first
  | assumption
  | exact SqL.of (by wtm_at "lk")
  | exact b_L (by assumption) (by wtm_at "lkL") | fail)
local macro_rules | `(tactic| wtm_at "intL") => `(tactic| first | exact IntL.nil | exact IntL.cons (by wtm_at "intL") | fail)
local macro_rules | `(tactic| wtm_at "lkS0") => `(tactic| first
  | with_reducible assumption
  | exact StoreAt.same (by with_reducible assumption) (by wtm_at "lkS0") | fail)
local macro_rules | `(tactic| wtm_at "lkS") => `(tactic| first
  | with_reducible assumption
  | exact StoreAt.from (by with_reducible assumption) (by wtm_at "sm") | fail)
local macro_rules | `(tactic| wtm_at "ne") => `(tactic| first
  | assumption
  | exact Ne.symm (by assumption)
  | exact st_ne1 (by with_reducible assumption) (by wtm_at "lkS0")
  | exact st_ne2 (by with_reducible assumption) (by wtm_at "lkS0")
  | exact new_ne (by assumption) (by wtm_at "lk")
  | exact new_ne' (by assumption) (by wtm_at "lk") | fail)
local macro_rules | `(tactic| wtm_at "sm") => `(tactic| first
  | with_reducible assumption
  | exact Same.refl _
  | (refine Same.trans ?_ (by with_reducible assumption); wtm_at "sm") | fail)
local macro_rules | `(tactic| wtm_at "fx") => `(tactic| first
  | with_reducible assumption
  | exact Fx.same (Same.refl _)
  | exact Fx.same (by with_reducible assumption)
  | (refine Fx.trans ?_ (by with_reducible assumption); wtm_at "fx")
  | (refine Fx.trans ?_ (Fx.same (by with_reducible assumption)); wtm_at "fx") | fail)
local macro_rules | `(tactic| wtm_at "v0") => `(tactic| first
  | with_reducible refine i_seq ?_ | with_reducible refine i_asg ?_ | with_reducible refine i_var rfl ?_ | with_reducible refine i_c ?_ | with_reducible refine i_name ?_
  | with_reducible refine i_op ?_ | with_reducible refine i_ifS ?_ | with_reducible refine i_test ?_ | with_reducible refine i_tB ?_
  | with_reducible refine i_cons ?_ | with_reducible refine i_nil ?_ | with_reducible refine i_call ?_ | with_reducible refine i_callN ?_ | with_reducible refine i_callX ?_ | with_reducible refine i_callNX ?_ | with_reducible refine i_cb ?_
  | with_reducible refine i_tup ?_ | with_reducible refine i_lst ?_ | with_reducible refine i_ret ?_ | with_reducible refine i_retN ?_ | with_reducible refine i_drop ?_
  | with_reducible refine i_next ?_ | with_reducible refine i_par ?_ | with_reducible refine i_par2 ?_ | with_reducible refine i_ifE ?_ | with_reducible refine i_un ?_
  | with_reducible refine i_and ?_ | with_reducible refine i_or ?_ | with_reducible refine i_not ?_ | with_reducible refine i_andV ?_ | with_reducible refine i_orV ?_ | with_reducible refine i_notV ?_
  | with_reducible refine i_notV2 ?_ | with_reducible refine i_bif (A := fun _ => _) ?_ | with_reducible refine i_brk ?_ | with_reducible refine i_ctn ?_
  | with_reducible refine i_abs ?_ | with_reducible refine i_min ?_ | with_reducible refine i_max ?_ | with_reducible refine i_for ?_ | with_reducible refine i_iR1 ?_ | with_reducible refine i_iR2 ?_ | with_reducible refine i_iL ?_ | with_reducible refine i_iT ?_ | with_reducible refine i_wb ?_
  | with_reducible refine i_sl ?_ | with_reducible refine i_no ?_ | with_reducible refine i_so ?_ | with_reducible refine i_exI ?_ | with_reducible refine i_exB ?_ | with_reducible refine i_gcons ?_ | with_reducible refine i_gnil ?_ | with_reducible refine i_bm ?_ | with_reducible refine i_gsub ?_ | with_reducible refine i_lc ?_ | with_reducible refine i_yes ?_ | with_reducible refine i_iE ?_
  | with_reducible refine ite_1 ?_ | with_reducible refine i_pow6 ?_ | with_reducible refine i_pow18 ?_ | with_reducible refine i_pow30 ?_
  | with_reducible refine i_addI ?_ | with_reducible refine i_I0 ?_ | with_reducible refine i_U ?_ | with_reducible refine i_eqI ?_ | with_reducible refine i_neI ?_ | fail)
local macro_rules | `(tactic| wtm_at "v1") => `(tactic| first
  | wtm_at "v0"
  | ((with_reducible show rIx _ _ _ _ _); first | refine i_ixT (by wtm_at "lkT") rfl ?_ | refine i_ixL (by wtm_at "lkL") rfl ?_)
  | ((with_reducible show rLenU _ _ _ _); first | refine i_lenT (by wtm_at "lkT") ?_ | refine i_lenL (by wtm_at "lkL") ?_)
  | ((with_reducible show spDraw _ _ _ _); refine c_draw (by wtm_at "lkS") (by first | decide | omega) (by first | decide | omega) (by omega) ?_; intro _ _ _ _ _ _)
  | (with_reducible refine i_newTH (by first | decide | (simp; done)) ?_; intro _ _ _ _ _)
  | (with_reducible refine i_newL (by first | decide | (simp; done)) ?_; intro _ _ _ _ _) | fail)
local macro_rules | `(tactic| wtm_at "v") => `(tactic| repeat wtm_at "v1")
local macro_rules | `(tactic| wtm_at "vi") => `(tactic| repeat ((fail_if_success (with_reducible show tIfS _ _ _ _ _ _)); wtm_at "v1"))
local macro_rules | `(tactic| wtm_at "v0") => `(tactic| first | with_reducible refine ite_0 ?_ | with_reducible refine ite_n0 ?_ | with_reducible refine ite_n1 ?_ | fail)
local macro_rules | `(tactic| wtm_at "v1") => `(tactic| first
  | ((with_reducible refine i_mulI ?hm ?_); (case hm => exact wide_mul (a := 128) (b := 128) (by omega) (by omega) (by decide) (by decide) (by decide)))
  | ((with_reducible refine i_mod ?hm ?_); (case hm => first | decide | omega); intro _ _ _ _) | fail)
variable {P : Program} {w : World} {K : PySem.W.Frag} {mg : Str → Option Value} {base : Heap}
abbrev s_law_odd : Stmt := topS 41
theorem sc_law_odd : FnScope ["_law_reel_here", "_law_period", "_law_marks_here", "_law_some", "_law_way", "_law_thing", "_law_at", "_law_bad"] ["_law_reel_here", "_law_period", "_law_marks_here", "_law_some"] (defScope s_law_odd) := ⟨rfl, rfl, rfl, by decide +kernel, rfl, by decide +kernel, by decide +kernel⟩
theorem ok_odd {f : Addr} {fd : FuncData} {t1 : Tok} (F : FunD K "_law_odd" "_law_odd" (defArgs s_law_odd) (defBody s_law_odd) (defScope s_law_odd) [] [] f fd) (O_law_draw : Own P w K mg base CX0 1 "_law_draw" ["_law_reel_here", "_law_many"] [] spDraw) (n_len : mg "len" = none) (n_list : mg "list" = none) (n_range : mg "range" = none) (mg_MOST_PERIOD : mg "MOST_PERIOD" = some (.int 5040 t1)) : FnG P w K mg base CX0 2 f fd ["_law_reel_here", "_law_period", "_law_marks_here", "_law_some"] (spOdd K) := by
  refine okG (k := 1) F sc_law_odd (fun vs H Q E h => ?_) (fun cdv A hG outer s H vs Q E hr h => ?_)
  · obtain ⟨a, b, c, d, e, f, rfl, _⟩ := h
    rfl
  · obtain ⟨st, a, b, n, bs, ts, rfl, S, hn, hb, ht, ha, h2, na, nb, k⟩ := h
    have l1 := hb.l1
    have l0 := hb.l0
    have mc := hb.mc
    have mp := marks_len 0 bs
    have tl := ht.len
    refine ⟨_, (pss_cons (ps_set (i := 4) sc_law_odd.nd rfl (Or.inl rfl) (pe_own O_law_draw hG (hr.mono (by decide)) pass0 (pa_cons (pv 0) (pa_cons pe_int pa_nil)))) (pss_cons (ps_set (i := 5) sc_law_odd.nd rfl (Or.inl rfl) (pe_ix (k_ix K) (pe_lst (pa_cons pe_bl (pa_cons pe_non (pa_cons pe_str (pa_cons (pe_tup (pa_cons pe_int pa_nil)) (pa_cons (pe_un un_neg pe_int) (pa_cons pe_str (pa_cons pe_bl (pa_cons (pe_lst (pa_cons pe_int pa_nil)) pa_nil))))))))) (pe_own O_law_draw hG (hr.mono (by decide)) pass0 (pa_cons (pv 0) (pa_cons pe_int pa_nil))) (fun _ _ => rfl))) (pss_cons (ps_if (pt_cmpR (k_eq K hr) (pv 4) pe_int (nomark _)) (pss_one (ps_set (i := 1) sc_law_odd.nd rfl (Or.inl rfl) (pe_ix (k_ix K) (pe_lst (pa_cons pe_int (pa_cons (pe_un un_neg pe_int) (pa_cons (pe_op (k_add K) (pe_glob (v := .int 5040) (by rfl) mg_MOST_PERIOD ⟨_, rfl⟩) pe_int) (pa_cons pe_bl (pa_cons pe_non (pa_cons pe_str (pa_cons (pe_tup (pa_cons pe_int pa_nil)) (pa_cons (pe_op op_pow pe_int pe_int) pa_nil))))))))) (pe_own O_law_draw hG (hr.mono (by decide)) pass0 (pa_cons (pv 0) (pa_cons pe_int pa_nil))) (fun _ _ => rfl)))) pss_nil) (pss_cons (ps_if (pt_cmpR (k_in K) (pv 4) (pe_tup (pa_cons pe_int (pa_cons pe_int pa_nil))) (by rfl)) (pss_cons (ps_set (i := 6) sc_law_odd.nd rfl (Or.inl rfl) (pe_own O_law_draw hG (hr.mono (by decide)) pass0 (pa_cons (pv 0) (pa_cons (pe_op (k_add K) (pe_callB (k_len K) (by rfl) n_len bt_len (pa_cons (pv 2) pa_nil)) pe_int) pa_nil)))) (pss_cons (ps_set (i := 7) sc_law_odd.nd rfl (Or.inl rfl) (pe_ix (k_ix K) (pe_lst (pa_cons (pv 5) (pa_cons (pv 1) (pa_cons (pe_un un_neg pe_int) (pa_cons (pe_op (k_add K) (pv 1) pe_int) pa_nil))))) (pe_own O_law_draw hG (hr.mono (by decide)) pass0 (pa_cons (pv 0) (pa_cons pe_int pa_nil))) (fun _ _ => rfl))) (pss_one (ps_set (i := 2) sc_law_odd.nd rfl (Or.inl rfl) (pe_op (k_add K) (pe_op (k_add K) (pe_slice (k_slL K) (pv 2) po_none (po_some (pv 6))) (pe_lst (pa_cons (pv 7) pa_nil))) (pe_slice (k_slL K) (pv 2) (po_some (pv 6)) po_none)))))) pss_nil) (pss_cons (ps_if (pt_cmpR (k_eq K hr) (pv 4) pe_int (nomark _)) (pss_one (ps_set (i := 2) sc_law_odd.nd rfl (Or.inl rfl) (pe_ix (k_ix K) (pe_lst (pa_cons pe_non (pa_cons pe_int (pa_cons pe_str (pa_cons pe_dnewK (pa_cons (pe_disp (pps_cons pe_int pe_bl pps_nil) rfl rfl (fun h => nomatch h) (by decide)) (pa_cons pe_bl pa_nil))))))) (pe_own O_law_draw hG (hr.mono (by decide)) pass0 (pa_cons (pv 0) (pa_cons pe_int pa_nil))) (fun _ _ => rfl)))) pss_nil) (pss_cons (ps_if (pt_cmpR (k_eq K hr) (pv 4) pe_int (nomark _)) (pss_one (ps_set (i := 2) sc_law_odd.nd rfl (Or.inl rfl) (pe_op (k_add K) (pv 2) (pe_ifExp (pt_cmpR (k_neE K hr) (pv 2) (pe_lst pa_nil) (nomark _)) (pe_slice (k_slL K) (pv 2) (po_some (pe_un un_neg pe_int)) po_none) (pe_lst (pa_cons (pv 1) pa_nil)))))) pss_nil) (pss_cons (ps_if (pt_cmpR (k_in K) (pv 4) (pe_tup (pa_cons pe_int (pa_cons pe_int pa_nil))) (by rfl)) (pss_cons (ps_set (i := 6) sc_law_odd.nd rfl (Or.inl rfl) (pe_own O_law_draw hG (hr.mono (by decide)) pass0 (pa_cons (pv 0) (pa_cons (pe_op (k_add K) (pe_callB (k_len K) (by rfl) n_len bt_len (pa_cons (pv 3) pa_nil)) pe_int) pa_nil)))) (pss_cons (ps_set (i := 7) sc_law_odd.nd rfl (Or.inl rfl) (pe_ix (k_ix K) (pe_lst (pa_cons pe_bl (pa_cons pe_non (pa_cons pe_str (pa_cons (pe_tup (pa_cons pe_int pa_nil)) (pa_cons (pe_lst pa_nil) (pa_cons pe_bl pa_nil))))))) (pe_own O_law_draw hG (hr.mono (by decide)) pass0 (pa_cons (pv 0) (pa_cons pe_int pa_nil))) (fun _ _ => rfl))) (pss_one (ps_set (i := 3) sc_law_odd.nd rfl (Or.inl rfl) (pe_op (k_add K) (pe_op (k_add K) (pe_slice (k_slL K) (pv 3) po_none (po_some (pv 6))) (pe_lst (pa_cons (pv 7) pa_nil))) (pe_slice (k_slL K) (pv 3) (po_some (pv 6)) po_none)))))) pss_nil) (pss_cons (ps_if (pt_cmpR (k_eq K hr) (pv 4) pe_int (nomark _)) (pss_one (ps_set (i := 3) sc_law_odd.nd rfl (Or.inl rfl) (pe_ix (k_ix K) (pe_lst (pa_cons (pe_listRg rfl (by rfl) n_list (prg_1 (by rfl) n_range pe_int)) (pa_cons (pe_lst (pa_cons pe_int (pa_cons pe_int pa_nil))) (pa_cons (pe_lst (pa_cons pe_int (pa_cons pe_int (pa_cons pe_int pa_nil)))) (pa_cons pe_non (pa_cons pe_str (pa_cons pe_int (pa_cons (pe_disp (pps_cons pe_int pe_bl pps_nil) rfl rfl (fun h => nomatch h) (by decide)) pa_nil)))))))) (pe_own O_law_draw hG (hr.mono (by decide)) pass0 (pa_cons (pv 0) (pa_cons pe_int pa_nil))) (fun _ _ => rfl)))) pss_nil) (pss_one (ps_ret (pe_tup (pa_cons (pv 1) (pa_cons (pv 2) (pa_cons (pv 3) pa_nil)))))))))))))), ?_⟩
    wtm_at "v"
    rename_i d1 H1 a1 b1 S1 F1 p2 H2 n2 s2 t2 p3 H3 n3 s3 g3 p4 H4 n4 s4 g4 d5 H5 a5 b5 S5 F5
    have S2 := S1.same s2
    have S4 := (S2.same s3).same s4
    have o2 : Odd1 K H5 st (.ref p2) := (Odd1.tup (Tp.mono (s3.trans s4) (Tp.of t2.eq))).fx S4 F5
    have o3 : Odd1 K H5 st (.ref p3) := (Odd1.lst (s4 _ _ g3) (st_ne1 n3 S2)).fx S4 F5
    have ne4 : p4 ≠ st := st_ne1 n4 (S2.same s3)
    have F15 : True ∧ Fx st st H H5 := ⟨trivial, ((F1.trans (Fx.same (s2.trans s3))).trans (Fx.same s4)).trans F5⟩
    refine i_ixP (SqL.of (F5.oth _ _ g4 ne4 ne4)) a5 (by simpa using b5) fun v hv => ?_
    have ov : Odd1 K H5 st v ∧ (isW v = false ∨ ∃ i, v = .int i ∧ i < 0) := by
      simp only [List.mem_cons, List.not_mem_nil, or_false] at hv
      rcases hv with rfl | rfl | rfl | rfl | rfl | rfl | rfl | rfl
      · exact ⟨.bl _, .inl rfl⟩
      · exact ⟨.non, .inl rfl⟩
      · exact ⟨.str _, .inl rfl⟩
      · exact ⟨o2, .inl rfl⟩
      · exact ⟨.int _, .inr ⟨_, rfl, by decide⟩⟩
      · exact ⟨.str _, .inl rfl⟩
      · exact ⟨.bl _, .inl rfl⟩
      · exact ⟨o3, .inl rfl⟩
    clear hv o2 o3 F5 F1 s2 s3 s4 n2 n3 n4 t2 g3 g4 ne4 S1 S2 S4
    have ha5 := F15.2.oth _ _ ha na na
    have hb5 := F15.2.oth _ _ h2 nb nb
    obtain rfl | rfl | rfl | rfl | rfl | rfl | rfl : d1 = 0 ∨ d1 = 1 ∨ d1 = 2 ∨ d1 = 3 ∨ d1 = 4 ∨ d1 = 5 ∨ d1 = 6 := by omega
    · wtm_at "v"
      with_reducible refine ite_d (fun _ => ?_) (fun z => absurd rfl z)
      wtm_at "v"
      rename_i q6 H6 m6 u6 g6 q7 H7 m7 u7 g7 d8 H8 a8 b8 S8 F8
      have S7 := (S5.same u6).same u7
      have F18 : True ∧ Fx st st H H8 := ⟨trivial, (F15.2.trans (Fx.same (u6.trans u7))).trans F8⟩
      have ne7 : q7 ≠ st := st_ne1 m7 (S5.same u6)
      have k6 : Tp K H8 q6 [.int 7] := (Tp.mono u7 (Tp.of g6.eq)).tw (tw_st F8 S7)
      refine i_ixP (SqL.of (F8.oth _ _ g7 ne7 ne7)) a8 (by simpa using b8) fun v0 hv0 => ?_
      have kv : Known K H8 v0 ∧ ∀ om ot, areD v0 om ot = false := by
        simp only [List.mem_cons, List.not_mem_nil, or_false] at hv0
        rcases hv0 with rfl | rfl | rfl | rfl | rfl | rfl | rfl | rfl
        · exact ⟨.nt (.int _), fun _ _ => rfl⟩
        · exact ⟨.nt (.int _), fun _ _ => rfl⟩
        · exact ⟨.nt (.int _), fun _ _ => rfl⟩
        · exact ⟨.nt (.bl _), fun _ _ => rfl⟩
        · exact ⟨.nt .non, fun _ _ => rfl⟩
        · exact ⟨.nt (.str _), fun _ _ => rfl⟩
        · exact ⟨.tup k6, fun _ _ => rfl⟩
        · exact ⟨.nt (.int _), fun _ _ => rfl⟩
      clear hv0 k6 ne7 F8 S7 u6 u7 g6 g7 m6 m7
      have ha8 := F18.2.oth _ _ ha na na
      have hb8 := F18.2.oth _ _ h2 nb nb
      wtm_at "v"
      refine i_inS (t := true) (off := [1, 6]) (Tp.of (TpH.eq (by assumption))) ?_
      rw [show decide ((0 : Int) ∈ [1, 6]) = false by decide]
      wtm_at "v"
      rename_i qa Ha ma ua ga
      with_reducible refine ite_d (fun z => absurd z (by decide)) (fun _ => ?_)
      wtm_at "v"
      with_reducible refine ite_d (fun z => absurd z (by decide)) (fun _ => ?_)
      wtm_at "v"
      refine i_inS (t := true) (off := [4, 6]) (Tp.of (TpH.eq (by assumption))) ?_
      rw [show decide ((0 : Int) ∈ [4, 6]) = false by decide]
      wtm_at "v"
      rename_i qb Hb mb ub gb
      with_reducible refine ite_d (fun z => absurd z (by decide)) (fun _ => ?_)
      wtm_at "v"
      rename_i qc Hc mc' uc gc
      have u := (ua.trans ub).trans uc
      exact k qc Hc ⟨v0, .ref a, .ref b, _, _, Tp.of gc.eq, kv.1.same u, thr_ints (u _ _ ha8) (by omega), thr_ints (u _ _ hb8) (by omega), kv.2 _ _⟩ ((S8.same u).mono (by omega)) (F18.2.trans (Fx.same u))
    · wtm_at "v"
      with_reducible refine ite_d (fun z => absurd z (by decide)) (fun _ => ?_)
      wtm_at "v"
      refine i_inS (t := true) (off := [1, 6]) (Tp.of (TpH.eq (by assumption))) ?_
      rw [show decide ((1 : Int) ∈ [1, 6]) = true by decide]
      wtm_at "v"
      rename_i qa Ha ma ua ga
      have Sa := S5.same ua
      have ova := ov.1.same ua
      rw [List.length_map]
      refine c_draw Sa (by omega) (by omega) (by omega) fun at_ H6 at0 at1 S6 F6 => ?_
      wtm_at "v"
      rename_i q7 H7 m7 u7 g7 d8 H8 a8 b8 S8 F8
      have S7 := S6.same u7
      have ne7 : q7 ≠ st := st_ne1 m7 S6
      have F18 : True ∧ Fx st st H H8 := ⟨trivial, ((F15.2.trans (Fx.same ua)).trans F6).trans ((Fx.same u7).trans F8)⟩
      have ov8 := ((ova.fx Sa F6).same u7).fx S7 F8
      refine i_ixP (SqL.of (F8.oth _ _ g7 ne7 ne7)) a8 (by simpa using b8) fun v0 hv0 => ?_
      have kv : Odd1 K H8 st v0 ∧ (isW v0 = false ∨ ∃ i, v0 = .int i ∧ (i < 0 ∨ (bs.length : Int) ≤ i)) := by
        simp only [List.mem_cons, List.not_mem_nil, or_false] at hv0
        rcases hv0 with rfl | rfl | rfl | rfl
        · exact ⟨ov8, ov.2.imp id fun ⟨i, e, h⟩ => ⟨i, e, .inl h⟩⟩
        · exact ⟨.int _, .inr ⟨_, rfl, .inr (by omega)⟩⟩
        · exact ⟨.int _, .inr ⟨_, rfl, .inl (by omega)⟩⟩
        · exact ⟨.int _, .inr ⟨_, rfl, .inr (by omega)⟩⟩
      have ha8 := F18.2.oth _ _ ha na na
      clear hv0 ov8 ne7 S7 g7 m7 u7 F8 F6 S6 ova Sa ua ga ma ha5 hb5 F15
      obtain ⟨j, rfl⟩ : ∃ j : Nat, at_ = j := ⟨at_.toNat, by omega⟩
      wtm_at "v"
      refine i_slL (SqL.of ha8) fun p9 H9 n9 s9 g9 => ?_
      rw [cut_toN (by rw [List.length_map]; omega), ← List.map_take] at g9
      wtm_at "v"
      rename_i q10 H10 m10 s10 g10
      refine i_addL (s10 _ _ g9) g10 (by simp; omega) fun p11 H11 n11 s11 g11 => ?_
      wtm_at "v"
      refine i_slL (SqL.of ((s9.trans (s10.trans s11)) _ _ ha8)) fun p12 H12 n12 s12 g12 => ?_
      rw [cut_fromN, ← List.map_drop] at g12
      wtm_at "v"
      refine i_addL (s12 _ _ g11) g12 (by simp; omega) fun p13 H13 n13 s13 g13 => ?_
      have s813 := ((s9.trans (s10.trans s11)).trans (s12.trans s13))
      have n13' : p13 ≠ st := st_ne1 n13 (S8.same ((s9.trans (s10.trans s11)).trans s12))
      have S13 := S8.same s813
      have F13 : True ∧ Fx st st H H13 := ⟨trivial, F18.2.trans (Fx.same s813)⟩
      have kv13 := kv.1.same s813
      have hb13 := F13.2.oth _ _ h2 nb nb
      have lms : ((marksFrom 0 bs).take j).length + ((marksFrom 0 bs).drop j).length ≤ 3999 := by rw [List.length_take, List.length_drop]; omega
      clear s9 s10 s11 s12 s13 g9 g10 g11 g12 n9 m10 n11 n12 n13 S8 F18 ha8
      wtm_at "v"
      with_reducible refine ite_d (fun z => absurd z (by decide)) (fun _ => ?_)
      wtm_at "v"
      with_reducible refine ite_d (fun z => absurd z (by decide)) (fun _ => ?_)
      wtm_at "v"
      refine i_inS (t := true) (off := [4, 6]) (Tp.of (TpH.eq (by assumption))) ?_
      rw [show decide ((1 : Int) ∈ [4, 6]) = false by decide]
      wtm_at "v"
      rename_i qb Hb mb ub gb
      with_reducible refine ite_d (fun z => absurd z (by decide)) (fun _ => ?_)
      wtm_at "v"
      rename_i qc Hc mc' uc gc
      have u := ub.trans uc
      exact k qc Hc ⟨.int bs.length, .ref p13, .ref b, _, _, Tp.of gc.eq, .nt (.int _), (thr_put g13 kv13.known lms).same u, thr_ints (u _ _ hb13) (by omega), areD_mark kv.2⟩ ((S13.same u).mono (by omega)) (F13.2.trans (Fx.same u))
    · wtm_at "v"
      with_reducible refine ite_d (fun z => absurd z (by decide)) (fun _ => ?_)
      wtm_at "v"
      refine i_inS (t := true) (off := [1, 6]) (Tp.of (TpH.eq (by assumption))) ?_
      rw [show decide ((2 : Int) ∈ [1, 6]) = false by decide]
      wtm_at "v"
      rename_i qz Hz mz uz gz
      have S5z := S5.same uz
      have F5z : True ∧ Fx st st H Hz := ⟨trivial, F15.2.trans (Fx.same uz)⟩
      have haz := uz _ _ ha5
      have hbz := uz _ _ hb5
      clear S5 F15 ha5 hb5 uz mz gz
      with_reducible refine ite_d (fun _ => ?_) (fun z => absurd rfl z)
      wtm_at "v"
      refine i_dnewZ fun e1 G1 w1 x1 y1 => ?_
      wtm_at "v"
      refine i_disp1 fun e2 G2 w2 x2 y2 => ?_
      wtm_at "v"
      rename_i q7 G7 m7 u7 g7 d8' G8 a8' b8' T8 E8
      have ne1 : e1 ≠ st := st_ne1 w1 S5z
      have ne2 : e2 ≠ st := st_ne1 w2 (S5z.same x1)
      have ne7 : q7 ≠ st := st_ne1 m7 ((S5z.same x1).same x2)
      have F28 : True ∧ Fx st st H G8 := ⟨trivial, (F5z.2.trans (Fx.same (x1.trans (x2.trans u7)))).trans E8⟩
      refine i_ixP (SqL.of (E8.oth _ _ g7 ne7 ne7)) a8' (by simpa using b8') fun v9 hv9 => ?_
      have kw : NoRow G8 v9 := by
        simp only [List.mem_cons, List.not_mem_nil, or_false] at hv9
        rcases hv9 with rfl | rfl | rfl | rfl | rfl | rfl
        · exact .non
        · exact .int _
        · exact .str _
        · exact .dct (E8.oth _ _ (u7 _ _ (x2 _ _ y1)) ne1 ne1)
        · exact .dct (E8.oth _ _ (u7 _ _ y2) ne2 ne2)
        · exact .bl _
      have hb28 := F28.2.oth _ _ h2 nb nb
      clear hv9 ne1 ne2 ne7 E8 u7 g7 m7 x1 x2 y1 y2 w1 w2
      wtm_at "v"
      with_reducible refine ite_d (fun z => absurd z (by decide)) (fun _ => ?_)
      wtm_at "v"
      refine i_inS (t := true) (off := [4, 6]) (Tp.of (TpH.eq (by assumption))) ?_
      rw [show decide ((2 : Int) ∈ [4, 6]) = false by decide]
      wtm_at "v"
      rename_i qb Hb mb ub gb
      with_reducible refine ite_d (fun z => absurd z (by decide)) (fun _ => ?_)
      wtm_at "v"
      rename_i qc Hc mc' uc gc
      have u := ub.trans uc
      exact k qc Hc ⟨.int bs.length, v9, .ref b, none, _, Tp.of gc.eq, .nt (.int _), (ThR.no kw).same u, thr_ints (u _ _ hb28) (by omega), areD_noRow⟩ ((T8.same u).mono (by omega)) (F28.2.trans (Fx.same u))
    · wtm_at "v"
      with_reducible refine ite_d (fun z => absurd z (by decide)) (fun _ => ?_)
      wtm_at "v"
      refine i_inS (t := true) (off := [1, 6]) (Tp.of (TpH.eq (by assumption))) ?_
      rw [show decide ((3 : Int) ∈ [1, 6]) = false by decide]
      wtm_at "v"
      rename_i qz Hz mz uz gz
      have S5z := S5.same uz
      have F5z : True ∧ Fx st st H Hz := ⟨trivial, F15.2.trans (Fx.same uz)⟩
      have haz := uz _ _ ha5
      have hbz := uz _ _ hb5
      clear S5 F15 ha5 hb5 uz mz gz
      with_reducible refine ite_d (fun z => absurd z (by decide)) (fun _ => ?_)
      wtm_at "v"
      with_reducible refine ite_d (fun _ => ?_) (fun z => absurd rfl z)
      wtm_at "v"
      rename_i q6 H6 m6 u6 g6
      have ha6 := u6 _ _ haz
      refine i_neE (SqL.of ha6) (SqL.of g6) ?_
      by_cases em : marksFrom 0 bs = []
      · refine ⟨false, by rw [em]; rfl, ?_⟩
        rw [if_neg (by decide)]
        wtm_at "v"
        rename_i q7 H7 m7 u7 g7
        refine i_addL (u7 _ _ ha6) g7 (by simp; omega) fun p8 H8 n8 s8 g8 => ?_
        have u68 := u6.trans (u7.trans s8)
        clear u6 u7 s8 g6 g7 m6 m7
        wtm_at "v"
        refine i_inS (t := true) (off := [4, 6]) (Tp.of (TpH.eq (by assumption))) ?_
        rw [show decide ((3 : Int) ∈ [4, 6]) = false by decide]
        wtm_at "v"
        rename_i qb Hb mb ub gb
        with_reducible refine ite_d (fun z => absurd z (by decide)) (fun _ => ?_)
        wtm_at "v"
        rename_i qc Hc mc' uc gc
        have u := ub.trans uc
        have g8' : Hc p8 = some (.lst ((marksFrom 0 bs).map V.int ++ [V.int bs.length] ++ ([] : List Int).map V.int)) := by rw [u _ _ g8]; simp
        exact k qc Hc ⟨.int bs.length, .ref p8, .ref b, _, _, Tp.of gc.eq, .nt (.int _), thr_put g8' (.nt (.int _)) (by simp; omega), thr_ints (u _ _ (u68 _ _ hbz)) (by omega), areD_mark (.inr ⟨_, rfl, .inr (Int.le_refl _)⟩)⟩ ((S5z.same (u68.trans u)).mono (by omega)) (F5z.2.trans (Fx.same (u68.trans u)))
      · refine ⟨true, by
          cases e : marksFrom 0 bs with
          | nil => exact absurd e em
          | cons x l => rfl, ?_⟩
        rw [if_pos rfl]
        wtm_at "v"
        refine i_slL (SqL.of ha6) fun p7 H7 m7 u7 g7 => ?_
        rw [show (-(1 : Int)) = -1 from rfl, cut_last, List.length_map, ← List.map_drop] at g7
        wtm_at "v"
        refine i_addL (u7 _ _ ha6) g7 (by simp; omega) fun p8 H8 n8 s8 g8 => ?_
        rw [← List.map_append] at g8
        have u68 := u6.trans (u7.trans s8)
        clear u6 u7 s8 g6 g7 m6 m7
        wtm_at "v"
        refine i_inS (t := true) (off := [4, 6]) (Tp.of (TpH.eq (by assumption))) ?_
        rw [show decide ((3 : Int) ∈ [4, 6]) = false by decide]
        wtm_at "v"
        rename_i qb Hb mb ub gb
        with_reducible refine ite_d (fun z => absurd z (by decide)) (fun _ => ?_)
        wtm_at "v"
        rename_i qc Hc mc' uc gc
        have u := ub.trans uc
        exact k qc Hc ⟨.int bs.length, .ref p8, .ref b, _, _, Tp.of gc.eq, .nt (.int _), thr_ints (u _ _ g8) (by rw [List.length_append, List.length_drop]; omega), thr_ints (u _ _ (u68 _ _ hbz)) (by omega), areD_twice (last_twice em)⟩ ((S5z.same (u68.trans u)).mono (by omega)) (F5z.2.trans (Fx.same (u68.trans u)))
    · wtm_at "v"
      with_reducible refine ite_d (fun z => absurd z (by decide)) (fun _ => ?_)
      wtm_at "v"
      refine i_inS (t := true) (off := [1, 6]) (Tp.of (TpH.eq (by assumption))) ?_
      rw [show decide ((4 : Int) ∈ [1, 6]) = false by decide]
      wtm_at "v"
      rename_i qz Hz mz uz gz
      have S5z := S5.same uz
      have F5z : True ∧ Fx st st H Hz := ⟨trivial, F15.2.trans (Fx.same uz)⟩
      have haz := uz _ _ ha5
      have hbz := uz _ _ hb5
      clear S5 F15 ha5 hb5 uz mz gz
      with_reducible refine ite_d (fun z => absurd z (by decide)) (fun _ => ?_)
      wtm_at "v"
      with_reducible refine ite_d (fun z => absurd z (by decide)) (fun _ => ?_)
      wtm_at "v"
      refine i_inS (t := true) (off := [4, 6]) (Tp.of (TpH.eq (by assumption))) ?_
      rw [show decide ((4 : Int) ∈ [4, 6]) = true by decide]
      wtm_at "v"
      rename_i qa Ha ma ua ga
      have Sa := S5z.same ua
      rw [List.length_map]
      refine c_draw Sa (by omega) (by omega) (by omega) fun at2_ G6 at0' at1' T6 E6 => ?_
      wtm_at "v"
      rename_i q5 G5 m5 u5 g5 q6 G6' m6 u6 g6 q7 G7 m7 u7 g7 d8' G8 a8' b8' T8 E8
      have T5 := T6.same u5
      have T6' := T5.same u6
      have T7 := T6'.same u7
      have ne7 : q7 ≠ st := st_ne1 m7 T6'
      have o5 : Odd1 K G8 st (.ref q5) := (Odd1.tup (Tp.mono (u6.trans u7) (Tp.of g5.eq))).fx T7 E8
      have o6 : Odd1 K G8 st (.ref q6) := (Odd1.lst (u7 _ _ g6) (st_ne1 m6 T5)).fx T7 E8
      have F28 : True ∧ Fx st st H G8 := ⟨trivial, ((F5z.2.trans (Fx.same ua)).trans E6).trans ((Fx.same (u5.trans (u6.trans u7))).trans E8)⟩
      refine i_ixP (SqL.of (E8.oth _ _ g7 ne7 ne7)) a8' (by simpa using b8') fun v9 hv9 => ?_
      have kw : Odd1 K G8 st v9 ∧ isW v9 = false := by
        simp only [List.mem_cons, List.not_mem_nil, or_false] at hv9
        rcases hv9 with rfl | rfl | rfl | rfl | rfl | rfl
        · exact ⟨.bl _, rfl⟩
        · exact ⟨.non, rfl⟩
        · exact ⟨.str _, rfl⟩
        · exact ⟨o5, rfl⟩
        · exact ⟨o6, rfl⟩
        · exact ⟨.bl _, rfl⟩
      have hb28 := F28.2.oth _ _ h2 nb nb
      have ha28 := F28.2.oth _ _ ha na na
      clear hv9 o5 o6 ne7 T7 T6' T5 g5 g6 g7 m5 m6 m7 u5 u6 u7 E8 E6 T6 Sa ua ga ma
      obtain ⟨j', rfl⟩ : ∃ j' : Nat, at2_ = j' := ⟨at2_.toNat, by omega⟩
      wtm_at "v"
      refine i_slL (SqL.of hb28) fun p9 H9 n9 s9 g9 => ?_
      rw [cut_toN (by rw [List.length_map]; omega), ← List.map_take] at g9
      wtm_at "v"
      rename_i q10 H10 m10 s10 g10
      refine i_addL (s10 _ _ g9) g10 (by simp; omega) fun p11 H11 n11 s11 g11 => ?_
      wtm_at "v"
      refine i_slL (SqL.of ((s9.trans (s10.trans s11)) _ _ hb28)) fun p12 H12 n12 s12 g12 => ?_
      rw [cut_fromN, ← List.map_drop] at g12
      wtm_at "v"
      refine i_addL (s12 _ _ g11) g12 (by simp; omega) fun p14 H14 n14 s14 g14 => ?_
      have s2 := ((s9.trans (s10.trans s11)).trans (s12.trans s14))
      have lts : (ts.take j').length + (ts.drop j').length ≤ 3999 := by rw [List.length_take, List.length_drop]; omega
      clear s9 s10 s11 s12 s14 g9 g10 g11 g12 n9 m10 n11 n12
      wtm_at "v"
      with_reducible refine ite_d (fun z => absurd z (by decide)) (fun _ => ?_)
      wtm_at "v"
      rename_i qc Hc mc' uc gc
      have u := s2.trans uc
      exact k qc Hc ⟨.int bs.length, .ref a, .ref p14, _, _, Tp.of gc.eq, .nt (.int _), thr_ints (u _ _ ha28) (by omega), (thr_put g14 (kw.1.same s2).known lts).same uc, areD_turn (unlR_put kw.2)⟩ ((T8.same u).mono (by omega)) (F28.2.trans (Fx.same u))
    · wtm_at "v"
      with_reducible refine ite_d (fun z => absurd z (by decide)) (fun _ => ?_)
      wtm_at "v"
      refine i_inS (t := true) (off := [1, 6]) (Tp.of (TpH.eq (by assumption))) ?_
      rw [show decide ((5 : Int) ∈ [1, 6]) = false by decide]
      wtm_at "v"
      rename_i qz Hz mz uz gz
      have S5z := S5.same uz
      have F5z : True ∧ Fx st st H Hz := ⟨trivial, F15.2.trans (Fx.same uz)⟩
      have haz := uz _ _ ha5
      have hbz := uz _ _ hb5
      clear S5 F15 ha5 hb5 uz mz gz
      with_reducible refine ite_d (fun z => absurd z (by decide)) (fun _ => ?_)
      wtm_at "v"
      with_reducible refine ite_d (fun z => absurd z (by decide)) (fun _ => ?_)
      wtm_at "v"
      refine i_inS (t := true) (off := [4, 6]) (Tp.of (TpH.eq (by assumption))) ?_
      rw [show decide ((5 : Int) ∈ [4, 6]) = false by decide]
      wtm_at "v"
      rename_i qb Hb mb ub gb
      with_reducible refine ite_d (fun _ => ?_) (fun z => absurd rfl z)
      wtm_at "v"
      refine i_lRg1 (by decide) (by decide) fun e1 G1 w1 x1 y1 => ?_
      wtm_at "v"
      rename_i e2 G2 w2 x2 y2 e3 G3 w3 x3 y3
      refine i_disp1 fun e4 G4 w4 x4 y4 => ?_
      wtm_at "v"
      rename_i q7 G7 m7 u7 g7 d8' G8 a8' b8' T8 E8
      have S0 := S5z.same ub
      have S1 := S0.same x1
      have S2 := S1.same x2
      have S3 := S2.same x3
      have S4 := S3.same x4
      have ne1 : e1 ≠ st := st_ne1 w1 S0
      have ne2 : e2 ≠ st := st_ne1 w2 S1
      have ne3 : e3 ≠ st := st_ne1 w3 S2
      have ne4 : e4 ≠ st := st_ne1 w4 S3
      have ne7 : q7 ≠ st := st_ne1 m7 S4
      have F28 : True ∧ Fx st st H G8 := ⟨trivial, (F5z.2.trans (Fx.same ((ub.trans (x1.trans x2)).trans (x3.trans (x4.trans u7))))).trans E8⟩
      refine i_ixP (SqL.of (E8.oth _ _ g7 ne7 ne7)) a8' (by simpa using b8') fun v9 hv9 => ?_
      have kw : ∃ ot, ThR K G8 v9 ot ∧ ∀ v om, areD v om ot = false := by
        have no : ∀ v om, areD v om none = false := fun _ _ => areD_turn rfl
        simp only [List.mem_cons, List.not_mem_nil, or_false] at hv9
        rcases hv9 with rfl | rfl | rfl | rfl | rfl | rfl | rfl
        · exact ⟨_, thr_ints (E8.oth _ _ (u7 _ _ (x4 _ _ (x3 _ _ (x2 _ _ y1)))) ne1 ne1) (by simp), fun _ _ => areD_long (by simp)⟩
        · exact ⟨_, thr_ints (ns := [4, 4]) (E8.oth _ _ (u7 _ _ (x4 _ _ (x3 _ _ y2))) ne2 ne2) (by simp), fun _ _ => areD_turn (by rw [unlR, thI_map, decide_eq_false (by decide), Bool.and_false])⟩
        · exact ⟨_, thr_ints (ns := [9, 2, 9]) (E8.oth _ _ (u7 _ _ (x4 _ _ y3)) ne3 ne3) (by simp), fun _ _ => areD_turn (by rw [unlR, thI_map, decide_eq_false (by decide), Bool.and_false])⟩
        · exact ⟨none, .no .non, no⟩
        · exact ⟨none, .no (.str _), no⟩
        · exact ⟨none, .no (.int _), no⟩
        · exact ⟨none, .no (.dct (E8.oth _ _ (u7 _ _ y4) ne4 ne4)), no⟩
      obtain ⟨ot, kt, ko⟩ := kw
      have ha28 := F28.2.oth _ _ ha na na
      clear hv9 ne1 ne2 ne3 ne4 ne7 S0 S1 S2 S3 S4 E8 u7 g7 m7 x1 x2 x3 x4 y1 y2 y3 y4 w1 w2 w3 w4
      wtm_at "v"
      rename_i qc Hc mc' uc gc
      exact k qc Hc ⟨.int bs.length, .ref a, v9, _, _, Tp.of gc.eq, .nt (.int _), thr_ints (uc _ _ ha28) (by omega), kt.same uc, ko _ _⟩ ((T8.same uc).mono (by omega)) (F28.2.trans (Fx.same uc))
    · wtm_at "v"
      with_reducible refine ite_d (fun z => absurd z (by decide)) (fun _ => ?_)
      wtm_at "v"
      refine i_inS (t := true) (off := [1, 6]) (Tp.of (TpH.eq (by assumption))) ?_
      rw [show decide ((6 : Int) ∈ [1, 6]) = true by decide]
      wtm_at "v"
      rename_i qa Ha ma ua ga
      have Sa := S5.same ua
      have ova := ov.1.same ua
      rw [List.length_map]
      refine c_draw Sa (by omega) (by omega) (by omega) fun at_ H6 at0 at1 S6 F6 => ?_
      wtm_at "v"
      rename_i q7 H7 m7 u7 g7 d8 H8 a8 b8 S8 F8
      have S7 := S6.same u7
      have ne7 : q7 ≠ st := st_ne1 m7 S6
      have F18 : True ∧ Fx st st H H8 := ⟨trivial, ((F15.2.trans (Fx.same ua)).trans F6).trans ((Fx.same u7).trans F8)⟩
      have ov8 := ((ova.fx Sa F6).same u7).fx S7 F8
      refine i_ixP (SqL.of (F8.oth _ _ g7 ne7 ne7)) a8 (by simpa using b8) fun v0 hv0 => ?_
      have kv : Odd1 K H8 st v0 ∧ (isW v0 = false ∨ ∃ i, v0 = .int i ∧ (i < 0 ∨ (bs.length : Int) ≤ i)) := by
        simp only [List.mem_cons, List.not_mem_nil, or_false] at hv0
        rcases hv0 with rfl | rfl | rfl | rfl
        · exact ⟨ov8, ov.2.imp id fun ⟨i, e, h⟩ => ⟨i, e, .inl h⟩⟩
        · exact ⟨.int _, .inr ⟨_, rfl, .inr (by omega)⟩⟩
        · exact ⟨.int _, .inr ⟨_, rfl, .inl (by omega)⟩⟩
        · exact ⟨.int _, .inr ⟨_, rfl, .inr (by omega)⟩⟩
      have ha8 := F18.2.oth _ _ ha na na
      clear hv0 ov8 ne7 S7 g7 m7 u7 F8 F6 S6 ova Sa ua ga ma ha5 hb5 F15
      obtain ⟨j, rfl⟩ : ∃ j : Nat, at_ = j := ⟨at_.toNat, by omega⟩
      wtm_at "v"
      refine i_slL (SqL.of ha8) fun p9 H9 n9 s9 g9 => ?_
      rw [cut_toN (by rw [List.length_map]; omega), ← List.map_take] at g9
      wtm_at "v"
      rename_i q10 H10 m10 s10 g10
      refine i_addL (s10 _ _ g9) g10 (by simp; omega) fun p11 H11 n11 s11 g11 => ?_
      wtm_at "v"
      refine i_slL (SqL.of ((s9.trans (s10.trans s11)) _ _ ha8)) fun p12 H12 n12 s12 g12 => ?_
      rw [cut_fromN, ← List.map_drop] at g12
      wtm_at "v"
      refine i_addL (s12 _ _ g11) g12 (by simp; omega) fun p13 H13 n13 s13 g13 => ?_
      have s813 := ((s9.trans (s10.trans s11)).trans (s12.trans s13))
      have n13' : p13 ≠ st := st_ne1 n13 (S8.same ((s9.trans (s10.trans s11)).trans s12))
      have S13 := S8.same s813
      have F13 : True ∧ Fx st st H H13 := ⟨trivial, F18.2.trans (Fx.same s813)⟩
      have kv13 := kv.1.same s813
      have hb13 := F13.2.oth _ _ h2 nb nb
      have lms : ((marksFrom 0 bs).take j).length + ((marksFrom 0 bs).drop j).length ≤ 3999 := by rw [List.length_take, List.length_drop]; omega
      clear s9 s10 s11 s12 s13 g9 g10 g11 g12 n9 m10 n11 n12 n13 S8 F18 ha8
      wtm_at "v"
      with_reducible refine ite_d (fun z => absurd z (by decide)) (fun _ => ?_)
      wtm_at "v"
      with_reducible refine ite_d (fun z => absurd z (by decide)) (fun _ => ?_)
      wtm_at "v"
      refine i_inS (t := true) (off := [4, 6]) (Tp.of (TpH.eq (by assumption))) ?_
      rw [show decide ((6 : Int) ∈ [4, 6]) = true by decide]
      wtm_at "v"
      rename_i qa Ha ma ua ga
      have Sa := S13.same ua
      rw [List.length_map]
      refine c_draw Sa (by omega) (by omega) (by omega) fun at2_ G6 at0' at1' T6 E6 => ?_
      wtm_at "v"
      rename_i q5 G5 m5 u5 g5 q6 G6' m6 u6 g6 q7 G7 m7 u7 g7 d8' G8 a8' b8' T8 E8
      have T5 := T6.same u5
      have T6' := T5.same u6
      have T7 := T6'.same u7
      have ne7 : q7 ≠ st := st_ne1 m7 T6'
      have o5 : Odd1 K G8 st (.ref q5) := (Odd1.tup (Tp.mono (u6.trans u7) (Tp.of g5.eq))).fx T7 E8
      have o6 : Odd1 K G8 st (.ref q6) := (Odd1.lst (u7 _ _ g6) (st_ne1 m6 T5)).fx T7 E8
      have F28 : True ∧ Fx st st H G8 := ⟨trivial, ((F13.2.trans (Fx.same ua)).trans E6).trans ((Fx.same (u5.trans (u6.trans u7))).trans E8)⟩
      have kv28 := (((kv13.same ua).fx Sa E6).same (u5.trans (u6.trans u7))).fx T7 E8
      have g28 := E8.oth _ _ ((u5.trans (u6.trans u7)) _ _ (E6.oth _ _ (ua _ _ g13) n13' n13')) n13' n13'
      refine i_ixP (SqL.of (E8.oth _ _ g7 ne7 ne7)) a8' (by simpa using b8') fun v9 hv9 => ?_
      have kw : Odd1 K G8 st v9 ∧ isW v9 = false := by
        simp only [List.mem_cons, List.not_mem_nil, or_false] at hv9
        rcases hv9 with rfl | rfl | rfl | rfl | rfl | rfl
        · exact ⟨.bl _, rfl⟩
        · exact ⟨.non, rfl⟩
        · exact ⟨.str _, rfl⟩
        · exact ⟨o5, rfl⟩
        · exact ⟨o6, rfl⟩
        · exact ⟨.bl _, rfl⟩
      have hb28 := F28.2.oth _ _ h2 nb nb
      have ha28 := F28.2.oth _ _ ha na na
      clear hv9 o5 o6 ne7 T7 T6' T5 g5 g6 g7 m5 m6 m7 u5 u6 u7 E8 E6 T6 Sa ua ga ma
      obtain ⟨j', rfl⟩ : ∃ j' : Nat, at2_ = j' := ⟨at2_.toNat, by omega⟩
      wtm_at "v"
      refine i_slL (SqL.of hb28) fun p9 H9 n9 s9 g9 => ?_
      rw [cut_toN (by rw [List.length_map]; omega), ← List.map_take] at g9
      wtm_at "v"
      rename_i q10 H10 m10 s10 g10
      refine i_addL (s10 _ _ g9) g10 (by simp; omega) fun p11 H11 n11 s11 g11 => ?_
      wtm_at "v"
      refine i_slL (SqL.of ((s9.trans (s10.trans s11)) _ _ hb28)) fun p12 H12 n12 s12 g12 => ?_
      rw [cut_fromN, ← List.map_drop] at g12
      wtm_at "v"
      refine i_addL (s12 _ _ g11) g12 (by simp; omega) fun p14 H14 n14 s14 g14 => ?_
      have s2 := ((s9.trans (s10.trans s11)).trans (s12.trans s14))
      have lts : (ts.take j').length + (ts.drop j').length ≤ 3999 := by rw [List.length_take, List.length_drop]; omega
      clear s9 s10 s11 s12 s14 g9 g10 g11 g12 n9 m10 n11 n12
      wtm_at "v"
      with_reducible refine ite_d (fun z => absurd z (by decide)) (fun _ => ?_)
      wtm_at "v"
      rename_i qc Hc mc' uc gc
      have u := s2.trans uc
      exact k qc Hc ⟨.int bs.length, .ref p13, .ref p14, _, _, Tp.of gc.eq, .nt (.int _), (thr_put g28 kv28.known lms).same u, (thr_put g14 (kw.1.same s2).known lts).same uc, areD_turn (unlR_put kw.2)⟩ ((T8.same u).mono (by omega)) (F28.2.trans (Fx.same u))
end
section
/-! ### days made of marks either way -/
theorem rests_rev (p : Nat) (ms : List Int) : restsOf p ms.reverse = restsOf p ms := by unfold restsOf; simp
def mrk (bs : List Bool) (r : Bool) : List Int := if r = true then (marksFrom 0 bs).reverse else marksFrom 0 bs
theorem mrk_in {bs : List Bool} {ts : List Int} (h : Rests bs) (t : Turn ts) (r : Bool) : DaysIn bs.length (mrk bs r) ts := by
  have d := days_in h t
  cases r
  · exact d
  · exact ⟨d.p0, d.p1, by unfold mrk; rw [if_pos rfl, List.length_reverse]; exact d.ml, by unfold mrk; rw [if_pos rfl]; exact (List.reverse_perm _).nodup_iff.mpr d.mn, fun m hm => d.mr m (by unfold mrk at hm; rw [if_pos rfl] at hm; exact List.mem_reverse.mp hm), d.tn, d.tl⟩
theorem mrk_rests (bs : List Bool) (r : Bool) : restsOf ((bs.length : Int)).toNat (mrk bs r) = bs := by
  rw [Int.toNat_natCast]
  cases r
  · exact rests_marks bs
  · unfold mrk
    rw [if_pos rfl, rests_rev]
    exact rests_marks bs
section
variable {K : PySem.W.Frag} {C a b : Addr} {t u : Bool} {bs : List Bool} {r : Bool} {ts : List Int} {H : Hp} {Q : VK} {E : XK}
theorem c_daysG (ha : SqV K H a t ((mrk bs r).map V.int)) (hb : SqV K H b u (ts.map V.int)) (h1 : Rests bs) (h2 : Turn ts) (k : ∀ s H', New H s → Same H H' → DaysAt K C H' s (leastR bs) (upr ts) → Q (.ref s) H') : MakeGK C 2 1 (spDays K C) (fun vs zs => vs ++ zs) E [.int bs.length, .ref a] [.ref b] H Q := by
  refine ⟨rfl, rfl, fun x dx nx ndx hne => ?_⟩
  have s0 : Same H (upd (upd H dx (.own x)) x (.ins C dx [])) := fun b o e => by rw [upd_ne (ne_of_none e nx), upd_ne (ne_of_none e ndx)]; exact e
  refine ⟨x, dx, a, b, t, u, bs.length, _, ts, rfl, upd_same, ha.same s0, hb.same s0, mrk_in h1 h2 r, fun H' f d => ⟨rfl, k x H' nx (fun b o e => ?_) (by rw [mrk_rests] at d; exact d)⟩⟩
  have hb : b ≠ x := ne_of_none e nx
  exact f.oth b o (s0 b o e) hb hb
theorem c_daysR (ha : SqV K H a t ((mrk bs r).map V.int)) (hb : SqV K H b u (ts.map V.int)) (h1 : Rests bs) (h2 : Turn ts) (k : ∀ s H', New H s → Same H H' → DaysAt K C H' s (leastR bs) (upr ts) → Q (.ref s) H') : MakeGK C 0 3 (spDays K C) (fun vs zs => vs ++ zs.reverse) E [] [.ref b, .ref a, .int bs.length] H Q := by
  refine ⟨rfl, rfl, fun x dx nx ndx hne => ?_⟩
  have s0 : Same H (upd (upd H dx (.own x)) x (.ins C dx [])) := fun b o e => by rw [upd_ne (ne_of_none e nx), upd_ne (ne_of_none e ndx)]; exact e
  refine ⟨x, dx, a, b, t, u, bs.length, _, ts, rfl, upd_same, ha.same s0, hb.same s0, mrk_in h1 h2 r, fun H' f d => ⟨rfl, k x H' nx (fun b o e => ?_) (by rw [mrk_rests] at d; exact d)⟩⟩
  have hb : b ≠ x := ne_of_none e nx
  exact f.oth b o (s0 b o e) hb hb
theorem c_daysD {D : Addr} (ha : SqV K H a t ((mrk bs r).map V.int)) (hD : TpK K D []) (h1 : Rests bs) (k : ∀ s H', New H s → Same H H' → DaysAt K C H' s (leastR bs) (upr []) → Q (.ref s) H') : MakeG C (spDays K C) [.ref D] E [.int bs.length, .ref a] H Q := by
  intro x dx nx ndx hne
  have s0 : Same H (upd (upd H dx (.own x)) x (.ins C dx [])) := fun b o e => by rw [upd_ne (ne_of_none e nx), upd_ne (ne_of_none e ndx)]; exact e
  refine ⟨x, dx, a, D, t, true, bs.length, _, [], rfl, upd_same, ha.same s0, hD.tp, mrk_in h1 ⟨List.nodup_nil, by simp, by simp⟩ r, fun H' f d => ⟨rfl, k x H' nx (fun b o e => ?_) (by rw [mrk_rests] at d; exact d)⟩⟩
  have hb : b ≠ x := ne_of_none e nx
  exact f.oth b o (s0 b o e) hb hb
end
theorem i_stepB {K : PySem.W.Frag} {r : Bool} {p : Addr} {ns : List Int} {H : Hp} {Q : VK} (h : H p = some (.lst (ns.map V.int))) (k : ∀ q H', New H q → Same H H' → H' q = some (.lst ((if r = true then ns.reverse else ns).map V.int)) → Q (.ref q) H') : ∃ i : Int, V.int (if r = true then -1 else 1) = V.int i ∧ rStep K (.ref p) (some i) H Q := by
  refine ⟨_, rfl, p, _, rfl, SqL.of h, ?_⟩
  cases r
  · exact .inl ⟨rfl, fun q hq => k q _ hq (same_new hq) upd_same⟩
  · exact .inr ⟨rfl, fun q hq => k q _ hq (same_new hq) (by rw [upd_same, if_pos rfl, List.map_reverse])⟩
theorem tw_lst {H H' : Hp} {p : Addr} {xs : List V} (h : H p = some (.lst xs)) (f : Fx p p H H') : Tw H H' := ⟨fun b xs e => f.tup b xs e, fun b C dx fs e => f.oth b _ e (ne_of e h (fun z => nomatch z)) (ne_of e h (fun z => nomatch z))⟩
def spMade (K : PySem.W.Frag) (C : Addr) : Sp := fun vs H Q _ => ∃ (st a b : Addr) (n : Nat) (bs : List Bool) (ts : List Int), vs = [.ref st, .ref a, .ref b] ∧ StoreAt H st st n ∧ n ≤ 60000000 ∧ Rests bs ∧ Turn ts ∧ H a = some (.lst (bs.map bV)) ∧ H b = some (.lst (ts.map V.int)) ∧ a ≠ st ∧ b ≠ st ∧
  ∀ s H', DaysAt K C H' s (leastR bs) (upr ts) → StoreAt H' st st (n + 1) → Fx st st H H' → Q (.ref s) H'
theorem c_made {K : PySem.W.Frag} {C st a b : Addr} {n : Nat} {bs : List Bool} {ts : List Int} {H : Hp} {Q : VK} {E : XK} (S : StoreAt H st st n) (hn : n ≤ 60000000) (hb : Rests bs) (ht : Turn ts) (ha : H a = some (.lst (bs.map bV))) (h2 : H b = some (.lst (ts.map V.int))) (na : a ≠ st) (nb : b ≠ st)
    (k : ∀ s H', DaysAt K C H' s (leastR bs) (upr ts) → StoreAt H' st st (n + 1) → Fx st st H H' → Q (.ref s) H') : spMade K C ([.ref st, .ref a, .ref b] ++ []) H Q E := ⟨st, a, b, n, bs, ts, rfl, S, hn, hb, ht, ha, h2, na, nb, k⟩
end
section
/-! ### the steps as one word: wtm_at "v1" a step, wtm_at "v" as many as go -/
local macro_rules | `(tactic| wtm_at "tm") => `(tactic| first
  | exact Tm.refl _
  | exact Tm.same (by with_reducible assumption)
  | exact Tm.fx (by with_reducible assumption)
  | (refine Tm.trans ?_ (Tm.same (by with_reducible assumption)); wtm_at "tm")
  | (refine Tm.trans ?_ (Tm.fx (by with_reducible assumption)); wtm_at "tm") | fail)
local macro_rules | `(tactic| wtm_at "lkT1") => `(tactic| first
  | with_reducible assumption
  | exact TpK.tp (by with_reducible assumption)
  | exact TpH.tm (by with_reducible assumption) (by wtm_at "tm")
  | exact Tp.tm (by with_reducible assumption) (by wtm_at "tm")
  | exact Tp.of (by with_reducible assumption) | fail)
local macro_rules | `(tactic| wtm_at "lkT") => `(tactic| first
  | wtm_at "lkT1"
  | fail)
local macro_rules | `(tactic| wtm_at "lk") => `(tactic| first
  | assumption
  | exact b_get (by assumption) (by wtm_at "lk")
  | exact b_lst (by assumption) (by wtm_at "ne") (by wtm_at "ne") (by wtm_at "lk") | fail)
local macro_rules | `(tactic| wtm_at "lkL") => `(tactic| first
  | assumption
  | exact SqL.of (by wtm_at "lk")
  | exact b_L (by assumption) (by wtm_at "lkL") | fail)
local macro_rules | `(tactic| wtm_at "intL") => `(tactic| first | exact IntL.nil | exact IntL.cons (by wtm_at "intL") | fail)
local macro_rules | `(tactic| wtm_at "lkS0") => `(tactic| first
  | with_reducible assumption
  | exact StoreAt.same (by with_reducible assumption) (by wtm_at "lkS0") | fail)
local macro_rules | `(tactic| wtm_at "lkS") => `(tactic| first
  | with_reducible assumption
  | exact StoreAt.from (by with_reducible assumption) (by wtm_at "sm") | fail)
local macro_rules | `(tactic| wtm_at "ne") => `(tactic| first
  | assumption
  | exact Ne.symm (by assumption)
  | exact st_ne1 (by with_reducible assumption) (by wtm_at "lkS0")
  | exact st_ne2 (by with_reducible assumption) (by wtm_at "lkS0")
  | exact new_ne (by assumption) (by wtm_at "lk")
  | exact new_ne' (by assumption) (by wtm_at "lk") | fail)
local macro_rules | `(tactic| wtm_at "sm") => `(tactic| first
  | with_reducible assumption
  | exact Same.refl _
  | (refine Same.trans ?_ (by with_reducible assumption); wtm_at "sm") | fail)
local macro_rules | `(tactic| wtm_at "fx") => `(tactic| first
  | with_reducible assumption
  | exact Fx.same (Same.refl _)
  | exact Fx.same (by with_reducible assumption)
  | (refine Fx.trans ?_ (by with_reducible assumption); wtm_at "fx")
  | (refine Fx.trans ?_ (Fx.same (by with_reducible assumption)); wtm_at "fx") | fail)
local macro_rules | `(tactic| wtm_at "v0") => `(tactic| first
  | with_reducible refine i_seq ?_ | with_reducible refine i_asg ?_ | with_reducible refine i_var rfl ?_ | with_reducible refine i_c ?_ | with_reducible refine i_name ?_
  | with_reducible refine i_op ?_ | with_reducible refine i_ifS ?_ | with_reducible refine i_test ?_ | with_reducible refine i_tB ?_
  | with_reducible refine i_cons ?_ | with_reducible refine i_nil ?_ | with_reducible refine i_call ?_ | with_reducible refine i_callN ?_ | with_reducible refine i_callX ?_ | with_reducible refine i_callNX ?_ | with_reducible refine i_cb ?_
  | with_reducible refine i_tup ?_ | with_reducible refine i_lst ?_ | with_reducible refine i_ret ?_ | with_reducible refine i_retN ?_ | with_reducible refine i_drop ?_
  | with_reducible refine i_next ?_ | with_reducible refine i_par ?_ | with_reducible refine i_par2 ?_ | with_reducible refine i_ifE ?_ | with_reducible refine i_un ?_
  | with_reducible refine i_and ?_ | with_reducible refine i_or ?_ | with_reducible refine i_not ?_ | with_reducible refine i_andV ?_ | with_reducible refine i_orV ?_ | with_reducible refine i_notV ?_
  | with_reducible refine i_notV2 ?_ | with_reducible refine i_bif (A := fun _ => _) ?_ | with_reducible refine i_brk ?_ | with_reducible refine i_ctn ?_
  | with_reducible refine i_abs ?_ | with_reducible refine i_min ?_ | with_reducible refine i_max ?_ | with_reducible refine i_for ?_ | with_reducible refine i_iR1 ?_ | with_reducible refine i_iR2 ?_ | with_reducible refine i_iL ?_ | with_reducible refine i_iT ?_ | with_reducible refine i_wb ?_
  | with_reducible refine i_sl ?_ | with_reducible refine i_no ?_ | with_reducible refine i_so ?_ | with_reducible refine i_exI ?_ | with_reducible refine i_exB ?_ | with_reducible refine i_gcons ?_ | with_reducible refine i_gnil ?_ | with_reducible refine i_bm ?_ | with_reducible refine i_gsub ?_ | with_reducible refine i_lc ?_ | with_reducible refine i_yes ?_ | with_reducible refine i_iE ?_
  | with_reducible refine ite_1 ?_ | with_reducible refine i_pow6 ?_ | with_reducible refine i_pow18 ?_ | with_reducible refine i_pow30 ?_
  | with_reducible refine i_addI ?_ | with_reducible refine i_I0 ?_ | with_reducible refine i_U ?_ | with_reducible refine i_eqI ?_ | with_reducible refine i_neI ?_ | fail)
local macro_rules | `(tactic| wtm_at "v1") => `(tactic| first
  | wtm_at "v0"
  | ((with_reducible show rIx _ _ _ _ _); first | refine i_ixT (by wtm_at "lkT") rfl ?_ | refine i_ixL (by wtm_at "lkL") rfl ?_)
  | ((with_reducible show rLenU _ _ _ _); first | refine i_lenT (by wtm_at "lkT") ?_ | refine i_lenL (by wtm_at "lkL") ?_)
  | ((with_reducible show spDraw _ _ _ _); refine c_draw (by wtm_at "lkS") (by first | decide | omega) (by first | decide | omega) (by omega) ?_; intro _ _ _ _ _ _)
  | (with_reducible refine i_newTH (by first | decide | (simp; done)) ?_; intro _ _ _ _ _)
  | (with_reducible refine i_newL (by first | decide | (simp; done)) ?_; intro _ _ _ _ _) | fail)
local macro_rules | `(tactic| wtm_at "v") => `(tactic| repeat wtm_at "v1")
local macro_rules | `(tactic| wtm_at "vi") => `(tactic| repeat ((fail_if_success (with_reducible show tIfS _ _ _ _ _ _)); wtm_at "v1"))
local macro_rules | `(tactic| wtm_at "v0") => `(tactic| first | with_reducible refine ite_0 ?_ | with_reducible refine ite_n0 ?_ | with_reducible refine ite_n1 ?_ | fail)
local macro_rules | `(tactic| wtm_at "v1") => `(tactic| first
  | ((with_reducible refine i_mulI ?hm ?_); (case hm => exact wide_mul (a := 128) (b := 128) (by omega) (by omega) (by decide) (by decide) (by decide)))
  | ((with_reducible refine i_mod ?hm ?_); (case hm => first | decide | omega); intro _ _ _ _) | fail)
variable {P : Program} {w : World} {K : PySem.W.Frag} {mg : Str → Option Value} {base : Heap}
abbrev s_law_made_of : Stmt := topS 43
theorem sc_law_made_of : FnScope ["_law_reel_here", "_law_here", "_law_some", "_law_way", "_law_marks_here", "_law_found"] ["_law_reel_here", "_law_here", "_law_some"] (defScope s_law_made_of) := ⟨rfl, rfl, rfl, by decide +kernel, rfl, by decide +kernel, by decide +kernel⟩
theorem ok_made {c_Days D f : Addr} {fd : FuncData} (F : FunD K "_law_made_of" "_law_made_of" (defArgs s_law_made_of) (defBody s_law_made_of) (defScope s_law_made_of) [] [] f fd) (O_law_draw : Own P w K mg base CX0 1 "_law_draw" ["_law_reel_here", "_law_many"] [] spDraw) (O_law_marks : Own P w K mg base CX0 1 "_law_marks" ["_law_here"] [] spMarks)
    (O_Days : OwnC P w K mg base CX0 4 "Days" c_Days ["self", "period", "marks", "turned"] [.ref D] (spDays K c_Days)) (t_D : TpK K D []) (O_Days_0_turned_marks_period : OwnCK P w K mg base CX0 4 "Days" c_Days ["self", "period", "marks", "turned"] 0 ["turned", "marks", "period"] (fun vs zs => vs ++ zs.reverse) (spDays K c_Days)) (O_Days_2_turned : OwnCK P w K mg base CX0 4 "Days" c_Days ["self", "period", "marks", "turned"] 2 ["turned"] (fun vs zs => vs ++ zs) (spDays K c_Days))
    (n_len : mg "len" = none) (n_tuple : mg "tuple" = none) : FnG P w K mg base CX0 6 f fd ["_law_reel_here", "_law_here", "_law_some"] (spMade K c_Days) := by
  refine okG (k := 5) F sc_law_made_of (fun vs H Q E h => ?_) (fun cdv A hG outer s H vs Q E hr h => ?_)
  · obtain ⟨a, b, c, d, e, f, rfl, _⟩ := h
    rfl
  · obtain ⟨st, a, b, n, bs, ts, rfl, S, hn, hb, ht, ha, h2, na, nb, k⟩ := h
    have l1 := hb.l1
    have l0 := hb.l0
    have mc := hb.mc
    refine ⟨_, (pss_cons (ps_set (i := 3) sc_law_made_of.nd rfl (Or.inl rfl) (pe_own O_law_draw hG (hr.mono (by decide)) pass0 (pa_cons (pv 0) (pa_cons pe_int pa_nil)))) (pss_cons (ps_set (i := 4) sc_law_made_of.nd rfl (Or.inl rfl) (pe_stepL K (pe_own O_law_marks hG (hr.mono (by decide)) pass0 (pa_cons (pv 1) pa_nil)) (po_some (pe_ix (k_ix K) (pe_lst (pa_cons pe_int (pa_cons (pe_un un_neg pe_int) pa_nil))) (pe_op op_modN (pv 3) pe_int) (fun _ _ => rfl))))) (pss_cons (ps_if ((pw_and (pt_cmpR (k_eq K hr) (pv 2) (pe_lst pa_nil) (nomark _)) (pw_and1 (pt_cmpR op_lt (pv 3) pe_int (nomark _))))).pt (pss_one (ps_ret (pe_ownC O_Days hG (hr.mono (by decide)) pass0 (pa_cons (pe_callB (k_len K) (by rfl) n_len bt_len (pa_cons (pv 1) pa_nil)) (pa_cons (pv 4) pa_nil))))) pss_nil) (pss_cons (ps_if (pt_cmpR (k_eq K hr) (pv 3) pe_int (nomark _)) (pss_one (ps_ret (pe_ownCK0 O_Days_0_turned_marks_period hG (hr.mono (by decide)) pass0 (pk_cons (pv 2) (pk_cons (pv 4) (pk_cons (pe_callB (k_len K) (by rfl) n_len bt_len (pa_cons (pv 1) pa_nil)) pk_nil)))))) pss_nil) (pss_cons (ps_set (i := 5) sc_law_made_of.nd rfl (Or.inl rfl) (pe_ownCK O_Days_2_turned hG (hr.mono (by decide)) pass0 (pa_cons (pe_callB (k_len K) (by rfl) n_len bt_len (pa_cons (pv 1) pa_nil)) (pa_cons (pe_ix (k_ix K) (pe_lst (pa_cons (pe_callTy (k_tupL K) (by rfl) n_tuple bt_tuple (pa_cons (pv 4) pa_nil)) (pa_cons (pv 4) pa_nil))) (pe_op op_modN (pv 3) pe_int) (fun _ _ => rfl)) pa_nil)) (pk_cons (pv 2) pk_nil))) (pss_cons (ps_expr (pe_bm PySem.F.plainAttrs_list PySem.F.slot_list_append PySem.F.type_list_append (mt_append) (pv 4) (pa_cons pe_int pa_nil))) (pss_one (ps_ret (pv 5))))))))), ?_⟩
    wtm_at "v"
    rename_i d1 H1 a1 b1 S1 F1
    refine i_stepL ?_
    wtm_at "v"
    have ha1 := F1.oth _ _ ha na na
    refine c_marks ha1 (by omega) fun p2 H2 n2 s2 g2 => ?_
    wtm_at "v"
    rename_i p3 H3 n3 s3 g3 e e0 e1 ee
    have hix : ∃ r : Bool, (e = if r = true then 1 else 0) := by
      have : e = 0 ∨ e = 1 := by omega
      rcases this with h | h
      · exact ⟨false, h⟩
      · exact ⟨true, h⟩
    obtain ⟨r, er⟩ := hix
    refine i_ixL (SqL.of g3) (v := .int (if r = true then -1 else 1)) (by subst er; cases r <;> rfl) ?_
    refine i_stepB (s3 _ _ g2) fun p4 H4 n4 s4 g4 => ?_
    have g4 : H4 p4 = some (.lst ((mrk bs r).map V.int)) := g4
    have s14 := (s2.trans s3).trans s4
    have hb4 := s14 _ _ (F1.oth _ _ h2 nb nb)
    have ha4 := s14 _ _ ha1
    have S4 := S1.same s14
    have F4 : True ∧ Fx st st H H4 := ⟨trivial, F1.trans (Fx.same s14)⟩
    have np4 : p4 ≠ st := st_ne1 n4 ((S1.same s2).same s3)
    have nw4 : New H p4 := new_back S1 F1 (new_same (s2.trans s3) n4)
    clear s14 s2 s3 s4 n2 n3 n4 g2 g3 S1 F1 ha1
    wtm_at "v"
    rename_i p5 H5 n5 s5 g5
    refine i_eqD (.lst (SqL.of (s5 _ _ hb4)) (dpInts _)) (.lst (SqL.of g5) .nil) (Sh.shaped (n := 9) (.lst (ShAll.ints _)) (by decide)) (Sh.shaped (n := 9) (.lst .nil) (by decide)) ?_
    rw [show PyData.eqv (.list (ts.map PyData.int)) (.list []) = decide (ts = []) by simp only [PyData.eqv]; exact eqvAll_in ts []]
    have g5' := s5 _ _ g4
    have hb5 := s5 _ _ hb4
    have ha5 := s5 _ _ ha4
    have S5 := S4.same s5
    have F5 : True ∧ Fx st st H H5 := ⟨trivial, F4.2.trans (Fx.same s5)⟩
    clear S4 F4 s5 n5 g5 g4 hb4 ha4
    wtm_at "v"
    have r4 : True ∧ New H p4 := ⟨trivial, nw4⟩
    clear nw4
    with_reducible refine ite_d (fun em => ?_) (fun em => ?_)
    · wtm_at "v"
      with_reducible refine ite_d (fun z => ?_) (fun z => ?_)
      · wtm_at "v"
        refine i_make ?_
        wtm_at "v"
        rw [List.length_map]
        refine c_daysD (r := r) (t := false) (SqL.of g5') t_D hb fun s H6 n6 s6 d6 => ?_
        rw [← em] at d6
        exact k s H6 d6 (S5.same s6) (F5.2.trans (Fx.same s6))
      wtm_at "v"
      with_reducible refine ite_d (fun z => ?_) (fun z => ?_)
      · wtm_at "v"
        refine i_makeK ?_
        wtm_at "v"
        rw [List.length_map]
        refine c_daysR (r := r) (t := false) (u := false) (SqL.of g5') (SqL.of hb5) hb ht fun s H6 n6 s6 d6 => ?_
        exact k s H6 d6 (S5.same s6) (F5.2.trans (Fx.same s6))
      · wtm_at "v"
        refine i_makeK ?_
        wtm_at "v"
        rw [List.length_map]
        refine i_tupL (SqL.of g5') fun p6 H6 n6 s6 g6 => ?_
        wtm_at "v"
        rename_i p7 H7 n7 s7 g7 e e0 e1 ee
        have hd : ∀ {N : VK}, (∀ s H8, New H7 s → Same H7 H8 → DaysAt K c_Days H8 s (leastR bs) (upr ts) → N (.ref s) H8) → ∀ (q : Addr) (t : Bool), SqV K H7 q t ((mrk bs r).map V.int) → MakeGK c_Days 2 1 (spDays K c_Days) (fun vs zs => vs ++ zs) E0 [.int bs.length, .ref q] [.ref b] H7 N := fun {N} k2 q t hq => c_daysG (u := false) hq (SqL.of (s7 _ _ (s6 _ _ hb5))) hb ht k2
        have hix : ∃ q t, atI [V.ref p6, V.ref p4] e = some (.ref q) ∧ SqV K H7 q t ((mrk bs r).map V.int) := by
          have : e = 0 ∨ e = 1 := by omega
          rcases this with rfl | rfl
          · exact ⟨p6, true, rfl, Tp.of (s7 _ _ g6)⟩
          · exact ⟨p4, false, rfl, SqL.of (s7 _ _ (s6 _ _ g5'))⟩
        obtain ⟨q, t, hq, hv⟩ := hix
        refine i_ixL (SqL.of g7) hq ?_
        wtm_at "v"
        refine hd (fun s H8 n8 s8 d8 => ?_) q t hv
        have g8 := s8 _ _ (s7 _ _ (s6 _ _ g5'))
        wtm_at "v"
        refine i_bmL g8 ?_
        wtm_at "v"
        refine i_append g8 (by unfold mrk; split <;> simp <;> omega) fun H9 f9 g9 => ?_
        wtm_at "v"
        have s58 := (s6.trans s7).trans s8
        exact k s H9 (d8.tw (tw_lst g8 f9)) ((S5.same s58).fxn np4 f9) (fx_new r4.2 (F5.2.trans (Fx.same s58)) f9)
    · wtm_at "v"
      with_reducible refine ite_d (fun z => ?_) (fun z => ?_)
      · wtm_at "v"
        refine i_makeK ?_
        wtm_at "v"
        rw [List.length_map]
        refine c_daysR (r := r) (t := false) (u := false) (SqL.of g5') (SqL.of hb5) hb ht fun s H6 n6 s6 d6 => ?_
        exact k s H6 d6 (S5.same s6) (F5.2.trans (Fx.same s6))
      · wtm_at "v"
        refine i_makeK ?_
        wtm_at "v"
        rw [List.length_map]
        refine i_tupL (SqL.of g5') fun p6 H6 n6 s6 g6 => ?_
        wtm_at "v"
        rename_i p7 H7 n7 s7 g7 e e0 e1 ee
        have hd : ∀ {N : VK}, (∀ s H8, New H7 s → Same H7 H8 → DaysAt K c_Days H8 s (leastR bs) (upr ts) → N (.ref s) H8) → ∀ (q : Addr) (t : Bool), SqV K H7 q t ((mrk bs r).map V.int) → MakeGK c_Days 2 1 (spDays K c_Days) (fun vs zs => vs ++ zs) E0 [.int bs.length, .ref q] [.ref b] H7 N := fun {N} k2 q t hq => c_daysG (u := false) hq (SqL.of (s7 _ _ (s6 _ _ hb5))) hb ht k2
        have hix : ∃ q t, atI [V.ref p6, V.ref p4] e = some (.ref q) ∧ SqV K H7 q t ((mrk bs r).map V.int) := by
          have : e = 0 ∨ e = 1 := by omega
          rcases this with rfl | rfl
          · exact ⟨p6, true, rfl, Tp.of (s7 _ _ g6)⟩
          · exact ⟨p4, false, rfl, SqL.of (s7 _ _ (s6 _ _ g5'))⟩
        obtain ⟨q, t, hq, hv⟩ := hix
        refine i_ixL (SqL.of g7) hq ?_
        wtm_at "v"
        refine hd (fun s H8 n8 s8 d8 => ?_) q t hv
        have g8 := s8 _ _ (s7 _ _ (s6 _ _ g5'))
        wtm_at "v"
        refine i_bmL g8 ?_
        wtm_at "v"
        refine i_append g8 (by unfold mrk; split <;> simp <;> omega) fun H9 f9 g9 => ?_
        wtm_at "v"
        have s58 := (s6.trans s7).trans s8
        exact k s H9 (d8.tw (tw_lst g8 f9)) ((S5.same s58).fxn np4 f9) (fx_new r4.2 (F5.2.trans (Fx.same s58)) f9)
end
section
theorem i_lRg2n {m n : Int} {σ : L2.St} {H : Hp} {Q : VK} (h1 : 0 ≤ m) (h2 : m ≤ 1000000) (h3 : 0 ≤ n) (h4 : n ≤ 1000000) (k : ∀ p H', New H p → Same H H' → H' p = some (.lst (((List.range (n - -m).toNat).map fun i : Nat => -m + (i : Int)).map V.int)) → Q (.ref p) H') : tLstRg (tRg2 (tUn (rU fun i => .int (-i)) (tC (.int m))) (tC (.int n))) σ H Q :=
  ⟨m, rfl, -m, n, rfl, rfl, ⟨by omega, by omega, by omega, by omega, by omega⟩, fun q hq => k q _ hq (same_new hq) (by rw [upd_same, rgV_int])⟩
theorem rIn_rests {p : Nat} {ms : List Int} (h : 1 ≤ p) (d : Int) : rIn (restsOf p ms) d = decide ((d % p) ∈ ms) := by
  have lr : (restsOf p ms).length = p := by unfold restsOf; rw [List.length_map, List.length_range]
  have h1 := rIn_get (rs := restsOf p ms) (by omega) d
  rw [lr] at h1
  have e0 := Int.emod_nonneg d (b := (p : Int)) (by omega)
  have e1 := Int.emod_lt_of_pos d (b := (p : Int)) (by omega)
  unfold restsOf at h1
  rw [List.getElem?_map, List.getElem?_range (by omega)] at h1
  injection h1 with h1
  unfold restsOf
  rw [← h1]
  show decide ((((d % (p : Int)).toNat : Nat) : Int) ∈ ms) = _
  rw [show (((d % (p : Int)).toNat : Nat) : Int) = d % (p : Int) by omega]
theorem dIn_rests {p : Nat} {ms : List Int} (h : 1 ≤ p) (d : Int) : dIn (leastR (restsOf p ms)) [] d = decide ((d % p) ∈ ms) := by
  have lr : (restsOf p ms).length = p := by unfold restsOf; rw [List.length_map, List.length_range]
  have e := dIn_least (bs := restsOf p ms) (by omega) []
  rw [show upr [] = [] from rfl] at e
  rw [e, dIn, rIn_rests h]
  simp
section
variable {K : PySem.W.Frag} {C D a : Addr} {p : Int} {ms : List Int} {H : Hp} {Q : VK} {E : XK}
theorem c_daysF (ha : Tp K H a (ms.map V.int)) (hD : TpK K D []) (hd : DaysIn p ms []) (k : ∀ s H', New H s → Same H H' → DaysAt K C H' s (leastR (restsOf p.toNat ms)) [] → Q (.ref s) H') :
    MakeG C (spDays K C) [.ref D] E [.int p, .ref a] H Q := by
  intro x dx nx ndx hne
  have s0 : Same H (upd (upd H dx (.own x)) x (.ins C dx [])) := fun b o e => by rw [upd_ne (ne_of_none e nx), upd_ne (ne_of_none e ndx)]; exact e
  refine ⟨x, dx, a, D, true, true, p, ms, [], rfl, upd_same, Tp.mono s0 ha, hD.tp, hd, fun H' f d => ⟨rfl, k x H' nx (fun b o e => ?_) d⟩⟩
  have hb : b ≠ x := ne_of_none e nx
  exact f.oth b o (s0 b o e) hb hb
end
end
section
/-! ### the steps as one word: wtm_at "v1" a step, wtm_at "v" as many as go -/
local macro_rules | `(tactic| wtm_at "tm") => `(tactic| first
  | exact Tm.refl _
  | exact Tm.same (by with_reducible assumption)
  | exact Tm.fx (by with_reducible assumption)
  | (refine Tm.trans ?_ (Tm.same (by with_reducible assumption)); wtm_at "tm")
  | (refine Tm.trans ?_ (Tm.fx (by with_reducible assumption)); wtm_at "tm") | fail)
local macro_rules | `(tactic| wtm_at "lkT1") => `(tactic| first
  | with_reducible assumption
  | exact TpK.tp (by with_reducible assumption)
  | exact TpH.tm (by with_reducible assumption) (by wtm_at "tm")
  | exact Tp.tm (by with_reducible assumption) (by wtm_at "tm")
  | exact Tp.of (by with_reducible assumption) | fail)
local macro_rules | `(tactic| wtm_at "lkT") => `(tactic| first
  | wtm_at "lkT1"
  | fail)
local macro_rules | `(tactic| wtm_at "lk") => `(tactic| first
  | assumption
  | exact b_get (by assumption) (by wtm_at "lk")
  | exact b_lst (by assumption) (by wtm_at "ne") (by wtm_at "ne") (by wtm_at "lk") | fail)
local macro_rules | `(tactic| wtm_at "lkL") => `(tactic| first
  | assumption
  | exact SqL.of (by wtm_at "lk")
  | exact b_L (by assumption) (by wtm_at "lkL") | fail)
local macro_rules | `(tactic| wtm_at "intL") => `(tactic| first | exact IntL.nil | exact IntL.cons (by wtm_at "intL") | fail)
local macro_rules | `(tactic| wtm_at "lkS0") => `(tactic| first
  | with_reducible assumption
  | exact StoreAt.same (by with_reducible assumption) (by wtm_at "lkS0") | fail)
local macro_rules | `(tactic| wtm_at "lkS") => `(tactic| first
  | with_reducible assumption
  | exact StoreAt.from (by with_reducible assumption) (by wtm_at "sm") | fail)
local macro_rules | `(tactic| wtm_at "ne") => `(tactic| first
  | assumption
  | exact Ne.symm (by assumption)
  | exact st_ne1 (by with_reducible assumption) (by wtm_at "lkS0")
  | exact st_ne2 (by with_reducible assumption) (by wtm_at "lkS0")
  | exact new_ne (by assumption) (by wtm_at "lk")
  | exact new_ne' (by assumption) (by wtm_at "lk") | fail)
local macro_rules | `(tactic| wtm_at "sm") => `(tactic| first
  | with_reducible assumption
  | exact Same.refl _
  | (refine Same.trans ?_ (by with_reducible assumption); wtm_at "sm") | fail)
local macro_rules | `(tactic| wtm_at "fx") => `(tactic| first
  | with_reducible assumption
  | exact Fx.same (Same.refl _)
  | exact Fx.same (by with_reducible assumption)
  | (refine Fx.trans ?_ (by with_reducible assumption); wtm_at "fx")
  | (refine Fx.trans ?_ (Fx.same (by with_reducible assumption)); wtm_at "fx") | fail)
local macro_rules | `(tactic| wtm_at "v0") => `(tactic| first
  | with_reducible refine i_seq ?_ | with_reducible refine i_asg ?_ | with_reducible refine i_var rfl ?_ | with_reducible refine i_c ?_ | with_reducible refine i_name ?_
  | with_reducible refine i_op ?_ | with_reducible refine i_ifS ?_ | with_reducible refine i_test ?_ | with_reducible refine i_tB ?_
  | with_reducible refine i_cons ?_ | with_reducible refine i_nil ?_ | with_reducible refine i_call ?_ | with_reducible refine i_callN ?_ | with_reducible refine i_callX ?_ | with_reducible refine i_callNX ?_ | with_reducible refine i_cb ?_
  | with_reducible refine i_tup ?_ | with_reducible refine i_lst ?_ | with_reducible refine i_ret ?_ | with_reducible refine i_retN ?_ | with_reducible refine i_drop ?_
  | with_reducible refine i_next ?_ | with_reducible refine i_par ?_ | with_reducible refine i_par2 ?_ | with_reducible refine i_ifE ?_ | with_reducible refine i_un ?_
  | with_reducible refine i_and ?_ | with_reducible refine i_or ?_ | with_reducible refine i_not ?_ | with_reducible refine i_andV ?_ | with_reducible refine i_orV ?_ | with_reducible refine i_notV ?_
  | with_reducible refine i_notV2 ?_ | with_reducible refine i_bif (A := fun _ => _) ?_ | with_reducible refine i_brk ?_ | with_reducible refine i_ctn ?_
  | with_reducible refine i_abs ?_ | with_reducible refine i_min ?_ | with_reducible refine i_max ?_ | with_reducible refine i_for ?_ | with_reducible refine i_iR1 ?_ | with_reducible refine i_iR2 ?_ | with_reducible refine i_iL ?_ | with_reducible refine i_iT ?_ | with_reducible refine i_wb ?_
  | with_reducible refine i_sl ?_ | with_reducible refine i_no ?_ | with_reducible refine i_so ?_ | with_reducible refine i_exI ?_ | with_reducible refine i_exB ?_ | with_reducible refine i_gcons ?_ | with_reducible refine i_gnil ?_ | with_reducible refine i_bm ?_ | with_reducible refine i_gsub ?_ | with_reducible refine i_lc ?_ | with_reducible refine i_yes ?_ | with_reducible refine i_iE ?_
  | with_reducible refine ite_1 ?_ | with_reducible refine i_pow6 ?_ | with_reducible refine i_pow18 ?_ | with_reducible refine i_pow30 ?_
  | with_reducible refine i_addI ?_ | with_reducible refine i_I0 ?_ | with_reducible refine i_U ?_ | with_reducible refine i_eqI ?_ | with_reducible refine i_neI ?_ | fail)
local macro_rules | `(tactic| wtm_at "v1") => `(tactic| first
  | wtm_at "v0"
  | ((with_reducible show rIx _ _ _ _ _); first | refine i_ixT (by wtm_at "lkT") rfl ?_ | refine i_ixL (by wtm_at "lkL") rfl ?_)
  | ((with_reducible show rLenU _ _ _ _); first | refine i_lenT (by wtm_at "lkT") ?_ | refine i_lenL (by wtm_at "lkL") ?_)
  | ((with_reducible show spDraw _ _ _ _); refine c_draw (by wtm_at "lkS") (by first | decide | omega) (by first | decide | omega) (by omega) ?_; intro _ _ _ _ _ _)
  | (with_reducible refine i_newTH (by first | decide | (simp; done)) ?_; intro _ _ _ _ _)
  | (with_reducible refine i_newL (by first | decide | (simp; done)) ?_; intro _ _ _ _ _) | fail)
local macro_rules | `(tactic| wtm_at "v") => `(tactic| repeat wtm_at "v1")
local macro_rules | `(tactic| wtm_at "vi") => `(tactic| repeat ((fail_if_success (with_reducible show tIfS _ _ _ _ _ _)); wtm_at "v1"))
local macro_rules | `(tactic| wtm_at "v0") => `(tactic| first | with_reducible refine ite_0 ?_ | with_reducible refine ite_n0 ?_ | with_reducible refine ite_n1 ?_ | fail)
local macro_rules | `(tactic| wtm_at "lkD") => `(tactic| first
  | with_reducible assumption
  | exact DaysAt.tw (by with_reducible assumption) (Tw.same (by wtm_at "sm")) | fail)
local macro_rules | `(tactic| wtm_at "v1") => `(tactic| first
  | with_reducible refine i_fldA ?_
  | ((with_reducible show FldG _ _ _ _ _); first | refine i_daysP (by assumption) (by wtm_at "lkD") ?_ | (refine i_daysR (by assumption) (by wtm_at "lkD") ?_; intro _ _) | (refine i_daysT (by assumption) (by wtm_at "lkD") ?_; intro _ _) | (refine i_daysM (by assumption) (by wtm_at "lkD") ?_; intro _ _))
  | with_reducible refine i_meth ?_
  | fail)
local macro_rules | `(tactic| wtm_at "v1") => `(tactic| first
  | ((with_reducible refine i_mulI ?hm ?_); (case hm => exact wide_mul (a := 128) (b := 128) (by omega) (by omega) (by decide) (by decide) (by decide)))
  | ((with_reducible refine i_mod ?hm ?_); (case hm => first | decide | omega); intro _ _ _ _) | fail)
/-! stops ahead of what is compared or shown -/
local macro_rules | `(tactic| wtm_at "vq") => `(tactic| repeat ((fail_if_success (with_reducible show rEqU _ (.ref _) _ _ _)); (fail_if_success (with_reducible show rNeU _ (.ref _) _ _ _)); (fail_if_success (with_reducible show rReprD _ _ _ _)); wtm_at "v1"))
variable {P : Program} {w : World} {K : PySem.W.Frag} {mg : Str → Option Value} {base : Heap}
def spLaw (K : PySem.W.Frag) : Sp := fun vs H Q _ => ∃ (a : Addr) (ns : List Int), vs = [.ref a] ∧ SqL K H a (ns.map V.int) ∧ ns.length ≤ 63 ∧ ∀ H', Q (.bl true) H'
abbrev s_law : Stmt := topS 44
theorem sc_law : FnScope ["_law_script", "_law_k", "_law_reel_here", "_law_given_here", "_law_here", "_law_some", "_law_kept", "_law_found", "_law_day", "_law_due", "_law_turn", "_law_thing"] ["_law_script"] (defScope s_law) := ⟨rfl, rfl, rfl, by decide +kernel, rfl, by decide +kernel, by decide +kernel⟩
theorem ok_law {c_Days D f : Addr} {fd : FuncData} {t1 : Tok} (cl_Days : Cls K c_Days) (F : FunD K "law" "law" (defArgs s_law) (defBody s_law) (defScope s_law) [] [] f fd)
    (O_law_reel : Own P w K mg base CX0 1 "_law_reel" ["_law_script", "_law_k"] [] (spReel K)) (O_law_draw : Own P w K mg base CX0 1 "_law_draw" ["_law_reel_here", "_law_many"] [] spDraw) (O_law_given : Own P w K mg base CX0 4 "_law_given" ["_law_reel_here"] [] (spGiven K)) (O_law_marks : Own P w K mg base CX0 1 "_law_marks" ["_law_here"] [] spMarks) (O_law_in : Own P w K mg base CX0 1 "_law_in" ["_law_given_here", "_law_day"] [] (spIn K)) (O_law_about : Own P w K mg base CX0 2 "_law_about" ["_law_reel_here", "_law_given_here"] [] (spAbout K))
    (O_law_made_of : Own P w K mg base CX0 6 "_law_made_of" ["_law_reel_here", "_law_here", "_law_some"] [] (spMade K c_Days)) (O_law_odd : Own P w K mg base CX0 2 "_law_odd" ["_law_reel_here", "_law_period", "_law_marks_here", "_law_some"] [] (spOdd K)) (O_law_refused : Own P w K mg base CX0 6 "_law_refused" ["_law_period", "_law_marks_here", "_law_some"] [] (spRefX K))
    (O_Days : OwnC P w K mg base CX0 4 "Days" c_Days ["self", "period", "marks", "turned"] [.ref D] (spDays K c_Days)) (t_D : TpK K D []) (O_Days_has : OwnM P w K mg base CX0 2 c_Days "has" ["self", "day"] [] (spHas K c_Days)) (O_Days_has_0_day : OwnMK P w K mg base CX0 2 c_Days "has" ["self", "day"] 0 ["day"] (fun vs zs => [vs.getD 0 .non, zs.getD 0 .non]) (spHas K c_Days))
    (n_len : mg "len" = none) (n_min : mg "min" = none) (n_max : mg "max" = none) (n_range : mg "range" = none) (n_repr : mg "repr" = none) (n_list : mg "list" = none) (mg_MOST_PERIOD : mg "MOST_PERIOD" = some (.int 5040 t1)) : FnG P w K mg base CX0 7 f fd ["_law_script"] (spLaw K) := by
  refine okG (k := 6) F sc_law (fun vs H Q E h => ?_) (fun cdv A hG outer s H vs Q E hr h => ?_)
  · obtain ⟨a, b, rfl, _⟩ := h
    rfl
  · obtain ⟨a, ns, rfl, hS, hl, k⟩ := h
    refine ⟨_, (pss_cons (ps_for PassesOwn.never rfl (pi_range1 (by rfl) n_range (pa_cons (pe_callB (call_maxU rfl) (by rfl) n_max bt_max (pa_cons pe_int (pa_cons (pe_callB (call_minU rfl) (by rfl) n_min bt_min (pa_cons pe_int (pa_cons (pe_callB (k_len K) (by rfl) n_len bt_len (pa_cons (pv 0) pa_nil)) pa_nil))) pa_nil))) pa_nil)) (pg_name (i := 1) sc_law.nd rfl (Or.inl rfl)) (pss_cons (ps_set (i := 2) sc_law.nd rfl (Or.inl rfl) (pe_own O_law_reel hG (hr.mono (by decide)) pass0 (pa_cons (pv 0) (pa_cons (pv 1) pa_nil)))) (pss_cons (ps_set (i := 3) sc_law.nd rfl (Or.inl rfl) (pe_own O_law_given hG (hr.mono (by decide)) pass0 (pa_cons (pv 2) pa_nil))) (pss_cons (ps_asg (pv 3) (k_gt K 2 rfl (pgs_cons (pg_name (i := 4) sc_law.nd rfl (Or.inl rfl)) (pgs_cons (pg_name (i := 5) sc_law.nd rfl (Or.inl rfl)) pgs_nil)))) (pss_cons (ps_set (i := 6) sc_law.nd rfl (Or.inl rfl) (pe_callTy (k_lstC K) (by rfl) n_list bt_list (pa_cons (pv 5) pa_nil))) (pss_cons (ps_set (i := 7) sc_law.nd rfl (Or.inl rfl) (pe_own O_law_made_of hG (hr.mono (by decide)) pass0 (pa_cons (pv 2) (pa_cons (pv 4) (pa_cons (pv 6) pa_nil))))) (pss_cons (ps_expr (pe_bm PySem.F.plainAttrs_list PySem.F.slot_list_append PySem.F.type_list_append (mt_append) (pv 6) (pa_cons (pe_own O_law_draw hG (hr.mono (by decide)) pass0 (pa_cons (pv 2) (pa_cons pe_int pa_nil))) pa_nil))) (pss_cons (ps_for PassesOwn.never rfl (k_piL K (pe_op (k_add K) (pe_op (k_add K) (pe_own O_law_about hG (hr.mono (by decide)) pass0 (pa_cons (pv 2) (pa_cons (pv 3) pa_nil))) (pe_listRg rfl (by rfl) n_list (prg_2 (by rfl) n_range (pe_un un_neg pe_int) pe_int))) (pe_lst (pa_cons (pe_op op_pow pe_int pe_int) (pa_cons (pe_un un_neg (pe_op op_pow pe_int pe_int)) pa_nil))))) (pg_name (i := 8) sc_law.nd rfl (Or.inl rfl)) (pss_cons (ps_set (i := 9) sc_law.nd rfl (Or.inl rfl) (pe_own O_law_in hG (hr.mono (by decide)) pass0 (pa_cons (pv 3) (pa_cons (pv 8) pa_nil)))) (pss_one (ps_if (pt_cmpR (k_ne K hr) (pe_callB (k_repr K hG hr) (by rfl) n_repr bt_repr (pa_cons (pe_lst (pa_cons (pe_ownM (pv 7) cl_Days O_Days_has hG (hr.mono (by decide)) pass0 (pa_cons (pv 8) pa_nil)) (pa_cons (pe_ownMK0 (pv 7) cl_Days O_Days_has_0_day hG (hr.mono (by decide)) pass0 (pk_cons (pv 8) pk_nil)) pa_nil))) pa_nil)) (pe_callB (k_repr K hG hr) (by rfl) n_repr bt_repr (pa_cons (pe_lst (pa_cons (pv 9) (pa_cons (pv 9) pa_nil))) pa_nil)) (nomark _)) (pss_one (ps_ret pe_bl)) pss_nil)))) (pss_one (ps_for PassesOwn.never rfl (pi_range1 (by rfl) n_range (pa_cons pe_int pa_nil)) (pg_name (i := 10) sc_law.nd rfl (Or.inl rfl)) (pss_cons (ps_set (i := 11) sc_law.nd rfl (Or.inl rfl) (pe_own O_law_odd hG (hr.mono (by decide)) pass0 (pa_cons (pv 2) (pa_cons (pe_callB (k_len K) (by rfl) n_len bt_len (pa_cons (pv 4) pa_nil)) (pa_cons (pe_own O_law_marks hG (hr.mono (by decide)) pass0 (pa_cons (pv 4) pa_nil)) (pa_cons (pv 5) pa_nil)))))) (pss_one (ps_if (pt_not (pt_val (pe_own O_law_refused hG (hr.mono (by decide)) pass0 (pa_cons (pe_ix (k_ix K) (pv 11) pe_int (fun _ _ => rfl)) (pa_cons (pe_ix (k_ix K) (pv 11) pe_int (fun _ _ => rfl)) (pa_cons (pe_ix (k_ix K) (pv 11) pe_int (fun _ _ => rfl)) pa_nil)))))) (pss_one (ps_ret pe_bl)) pss_nil))))))))))))) (pss_one (ps_ret (pe_and (pe_ownM (pe_ownC O_Days hG (hr.mono (by decide)) pass0 (pa_cons (pe_glob (v := .int 5040) (by rfl) mg_MOST_PERIOD ⟨_, rfl⟩) (pa_cons (pe_tup (pa_cons pe_int pa_nil)) pa_nil))) cl_Days O_Days_has hG (hr.mono (by decide)) pass0 (pa_cons (pe_glob (v := .int 5040) (by rfl) mg_MOST_PERIOD ⟨_, rfl⟩) pa_nil)) (pe_one (pe_not (pe_ownM (pe_ownC O_Days hG (hr.mono (by decide)) pass0 (pa_cons pe_int (pa_cons (pe_tup pa_nil) pa_nil))) cl_Days O_Days_has hG (hr.mono (by decide)) pass0 (pa_cons pe_int pa_nil)))))))), ?_⟩
    wtm_at "v"
    refine i_rng1 (by omega) (by omega) ?_
    refine i_forR (fun i σ' H' => ∃ (v1 v2 v3 v4 v5 v6 v7 v8 v9 v10 v11 : Option V), σ' = [some (.ref a), v1, v2, v3, v4, v5, v6, v7, v8, v9, v10, v11] ∧ Same H H') ⟨none, none, none, none, none, none, none, none, none, none, none, rfl, Same.refl _⟩ ?_ ?_
    · rintro i σ' H0 hi ⟨v1, v2, v3, v4, v5, v6, v7, v8, v9, v10, v11, rfl, s0⟩
      have i9 : i < 10 := by rw [List.length_map] at hi; omega
      have ha0 := b_L s0 hS
      wtm_at "v"
      refine c_reel ha0 hl (by omega) (by omega) fun st H1 n1 s1 S1 => ?_
      have nst : True ∧ New H st := ⟨trivial, s0.free n1⟩
      wtm_at "v"
      refine c_given S1 (by omega) fun g bs ts H2 n2 G2 S2 F2 => ?_
      have e2 : True ∧ Same H H2 := ⟨trivial, s0.trans (same_fx n1 s1 F2)⟩
      clear S1 F2 n1 s1 n2 ha0 s0
      obtain ⟨pa, pb, hg2, ga2, gb2, na, nb⟩ := G2.ex
      have l0 := G2.rs.l0
      have l1 := G2.rs.l1
      wtm_at "v"
      refine i_gtup hg2 rfl ?_
      wtm_at "v"
      refine i_lstC (.inl (SqL.of gb2)) fun p3 H3 n3 s3 g3 => ?_
      have np3 : p3 ≠ st := st_ne1 n3 S2
      have nw3 : True ∧ New H p3 := ⟨trivial, new_same e2.2 n3⟩
      have pa3 : pa ≠ p3 := fun z => by subst z; rw [show H2 pa = none from n3] at ga2; cases ga2
      have pb3 : pb ≠ p3 := fun z => by subst z; rw [show H2 pb = none from n3] at gb2; cases gb2
      have S3 := S2.same s3
      have G3 := G2.same s3
      have hg3 := Tp.mono s3 hg2
      have ga3 := s3 _ _ ga2
      have gb3 := s3 _ _ gb2
      have e3 : True ∧ Same H H3 := ⟨trivial, e2.2.trans s3⟩
      clear S2 G2 hg2 ga2 gb2 e2 s3 n3
      wtm_at "v"
      refine c_made S3 (by omega) G3.rs G3.tn ga3 g3 na np3 fun s4 H4 d4 S4 F4 => ?_
      have P4 : DaysP K c_Days H4 s4 bs ts := ⟨d4, G3.rs, G3.tn⟩
      have G4 := G3.fx S3 F4
      have g4 := F4.oth _ _ g3 np3 np3
      have hg4 := hg3.tw (tw_st F4 S3)
      have ga4 := F4.oth _ _ ga3 na na
      have gb4 := F4.oth _ _ gb3 nb nb
      have e4 : True ∧ Same H H4 := ⟨trivial, same_fx nst.2 e3.2 F4⟩
      clear S3 G3 hg3 ga3 gb3 e3 F4 d4 g3
      wtm_at "v"
      refine i_bmL g4 ?_
      wtm_at "v"
      rename_i d5 H5 a5 b5 S5 F5
      have P5 := P4.tw (tw_st F5 S4)
      have G5 := G4.fx S4 F5
      have g5 := F5.oth _ _ g4 np3 np3
      have hg5 := hg4.tw (tw_st F5 S4)
      have ga5 := F5.oth _ _ ga4 na na
      have gb5 := F5.oth _ _ gb4 nb nb
      have e5 : True ∧ Same H H5 := ⟨trivial, same_fx nst.2 e4.2 F5⟩
      clear S4 G4 hg4 ga4 gb4 e4 F5 P4 g4
      refine i_append g5 (by rw [List.length_map]; have := G5.tn.len; omega) fun H6 f6 g6 => ?_
      have w6 := tw_lst g5 f6
      have P6 := P5.tw w6
      have hg6 := hg5.tw w6
      have ga6 := f6.oth _ _ ga5 pa3 pa3
      have gb6 := f6.oth _ _ gb5 pb3 pb3
      have G6 : Given K H6 st g bs ts := ⟨⟨pa, pb, hg6, ga6, gb6, na, nb⟩, G5.rs, G5.tn⟩
      have S6 := S5.fxn np3 f6
      have e6 : True ∧ Same H H6 := ⟨trivial, same_fx nw3.2 e5.2 f6⟩
      clear S5 G5 hg5 ga5 gb5 e5 P5 g5 f6 w6 hg6 pa3 pb3 g6
      wtm_at "v"
      refine c_about S6 (by omega) G6 fun p7 ds H7 n7 g7 l7 l7' r7 S7 F7 => ?_
      have P7 := P6.tw (tw_st F7 S6)
      have G7 := G6.fx S6 F7
      have e7 : True ∧ Same H H7 := ⟨trivial, same_fx nst.2 e6.2 F7⟩
      have ga7 := F7.oth _ _ ga6 na na
      have gb7 := F7.oth _ _ gb6 nb nb
      clear S6 G6 P6 e6 F7 n7 ga6 gb6
      wtm_at "v"
      refine i_lRg2n (by decide) (by decide) (by decide) (by decide) fun p8 H8 n8 s8 g8 => ?_
      wtm_at "v"
      refine i_addL (s8 _ _ g7) g8 (by simp; omega) fun p9 H9 n9 s9 g9 => ?_
      wtm_at "v"
      rename_i p10 H10 n10 s10 g10
      refine i_addL (s10 _ _ g9) g10 (by simp; omega) fun p11 H11 n11 s11 g11 => ?_
      obtain ⟨es, g11⟩ : ∃ es : List Int, H11 p11 = some (.lst (es.map V.int)) := ⟨ds ++ ((List.range (4 - -3 : Int).toNat).map fun i : Nat => -3 + (i : Int)) ++ [1000000000000000000, -1000000000000000000], by rw [g11, List.map_append, List.map_append]; rfl⟩
      have s711 := ((s8.trans s9).trans (s10.trans s11))
      have P11 := P7.tw (Tw.same s711)
      have G11 := G7.same s711
      have S11 := S7.same s711
      have e11 : True ∧ Same H H11 := ⟨trivial, e7.2.trans s711⟩
      have ga11 := s711 _ _ ga7
      have gb11 := s711 _ _ gb7
      clear ga7 gb7 s8 s9 s10 s11 s711 n8 n9 n10 n11 g7 g8 g9 g10 P7 G7 S7 e7 l7 l7' r7
      refine i_itL (SqL.of g11) ?_
      refine i_forL (xs := es.map V.int) (fun j σ' H' => ∃ v8 v9 v10 v11 : Option V, σ' = [some (.ref a), some (.int (0 + i)), some (.ref st), some (.ref g), some (.ref pa), some (.ref pb), some (.ref p3), some (.ref s4), v8, v9, v10, v11] ∧ Same H11 H') ⟨_, _, _, _, rfl, Same.refl _⟩ ?_ ?_ ?_
      · rintro j σ' H' _ ⟨_, _, _, _, _, z⟩
        exact SqL.of (z _ _ g11)
      · rintro j x σ' H12 hx ⟨v8, v9, v10, v11, rfl, s12⟩
        rw [List.getElem?_map] at hx
        obtain ⟨d, hd, rfl⟩ := Option.map_eq_some_iff.mp hx
        have P12 := P11.tw (Tw.same s12)
        have kL : Ok 1 4000 (.list [.bool (dIn bs ts d), .bool (dIn bs ts d)]) := (Ok.lst (k := 2) (.cons (Ok.bool _) (.cons (Ok.bool _) .nil)) (Nat.le_refl 2)).mono (by decide) (by decide)
        wtm_at "vq"
        refine c_in (G11.same s12) ?_
        wtm_at "vq"
        refine i_methD P12.at' (lkN (by decide +kernel) (by decide +kernel) (by decide +kernel) (by decide +kernel)) ?_
        wtm_at "vq"
        refine c_has P12.at' P12.l0 ?_
        rw [dIn_least l0]
        wtm_at "vq"
        refine i_methK ?_
        wtm_at "vq"
        refine i_methD P12.at' (lkN (by decide +kernel) (by decide +kernel) (by decide +kernel) (by decide +kernel)) ?_
        wtm_at "vq"
        refine ⟨rfl, s4, d, _, _, rfl, P12.at', P12.l0, ?_⟩
        rw [dIn_least l0]
        wtm_at "vq"
        rename_i q13 H13 n13 s13 g13
        refine i_reprW (.lst (SqL.of g13) (.cons (.bl _) (.cons (.bl _) .nil))) kL (by decide) (by decide) ?_
        wtm_at "vq"
        rename_i q14 H14 n14 s14 g14
        refine i_reprW (.lst (SqL.of g14) (.cons (.bl _) (.cons (.bl _) .nil))) kL (by decide) (by decide) ?_
        refine i_neS rfl ?_
        wtm_at "vq"
        exact ⟨_, _, _, _, rfl, s12.trans (s13.trans s14)⟩
      · rintro σ' H12 ⟨v8, v9, v10, v11, rfl, s12⟩
        have ga12 := s12 _ _ ga11
        have gb12 := s12 _ _ gb11
        have S12 := S11.same s12
        have e12 : True ∧ Same H H12 := ⟨trivial, e11.2.trans s12⟩
        have rs := G11.rs
        have tn := G11.tn
        clear ga11 gb11 S11 e11 s12 G11 P11 g11
        wtm_at "v"
        refine i_rng1 (by omega) (by omega) ?_
        refine i_forR (fun j σ' H' => ∃ v10 v11 : Option V, σ' = [some (.ref a), some (.int (0 + i)), some (.ref st), some (.ref g), some (.ref pa), some (.ref pb), some (.ref p3), some (.ref s4), v8, v9, v10, v11] ∧ StoreAt H' st st (2000 + 20 * j) ∧ H' pa = some (.lst (bs.map bV)) ∧ H' pb = some (.lst (ts.map V.int)) ∧ Same H H') ⟨_, _, rfl, S12.mono (by omega), ga12, gb12, e12.2⟩ ?_ ?_
        · rintro j σ' H13 hj ⟨v10, v11, rfl, S13, ga13, gb13, e13⟩
          wtm_at "v"
          rw [List.length_map]
          refine c_marks ga13 (by omega) fun p14 H14 n14 s14 g14 => ?_
          wtm_at "v"
          have S14 := S13.same s14
          have hj4 : j < 4 := by omega
          refine c_odd S14 (by omega) rs tn g14 (s14 _ _ gb13) (st_ne1 n14 S13) nb fun T H15 OD S15 F15 => ?_
          obtain ⟨v, m, t, om, ot, hT, hv, hm, ht, hb⟩ := OD
          have ga15 := F15.oth _ _ (s14 _ _ ga13) na na
          have gb15 := F15.oth _ _ (s14 _ _ gb13) nb nb
          have e15 : True ∧ Same H H15 := ⟨trivial, same_fx nst.2 (e13.trans s14) F15⟩
          clear S13 ga13 gb13 e13 s14 n14 g14 S14 F15
          wtm_at "v"
          refine c_refX hv hm ht hb fun H16 s16 => ?_
          wtm_at "v"
          exact ⟨_, _, rfl, (S15.same s16).mono (by omega), s16 _ _ ga15, s16 _ _ gb15, e15.2.trans s16⟩
        · rintro σ' H13 ⟨v10, v11, rfl, S13, ga13, gb13, e13⟩
          wtm_at "v"
          exact ⟨_, _, _, _, _, _, _, _, _, _, _, rfl, e13⟩
    · rintro σ' H' ⟨v1, v2, v3, v4, v5, v6, v7, v8, v9, v10, v11, rfl, s0⟩
      wtm_at "v"
      refine i_make ?_
      wtm_at "v"
      rename_i q1 H1 n1 s1 g1
      refine c_daysF (ms := [0]) (Tp.of g1.eq) t_D ⟨by decide, by decide, by simp, by simp, by simp, List.nodup_nil, by simp⟩ fun s4 H4 n4 s4' d4 => ?_
      rw [show ((5040 : Int)).toNat = 5040 from rfl] at d4
      refine i_methD d4 (lkN (by decide +kernel) (by decide +kernel) (by decide +kernel) (by decide +kernel)) ?_
      wtm_at "v"
      have ll : 1 ≤ (leastR (restsOf 5040 [0])).length := least_len (by unfold restsOf; rw [List.length_map, List.length_range]; decide)
      refine c_has d4 ll ?_
      rw [dIn_rests (by decide)]
      rw [show decide ((5040 : Int) % ((5040 : Nat) : Int) ∈ [(0 : Int)]) = true by decide]
      wtm_at "v"
      refine i_make ?_
      wtm_at "v"
      rename_i q5 H5 n5 s5 g5
      refine c_daysF (ms := []) (Tp.of g5.eq) t_D ⟨by decide, by decide, by simp, by simp, by simp, List.nodup_nil, by simp⟩ fun s6 H6 n6 s6' d6 => ?_
      rw [show ((1 : Int)).toNat = 1 from rfl] at d6
      refine i_methD d6 (lkN (by decide +kernel) (by decide +kernel) (by decide +kernel) (by decide +kernel)) ?_
      wtm_at "v"
      have ll2 : 1 ≤ (leastR (restsOf 1 [])).length := least_len (by unfold restsOf; rw [List.length_map, List.length_range]; decide)
      refine c_has d6 ll2 ?_
      rw [dIn_rests (by decide)]
      rw [show decide ((0 : Int) % ((1 : Nat) : Int) ∈ ([] : List Int)) = false by decide]
      wtm_at "v"
      exact k _
end
theorem all_mk {P : Program} {w : World} {K : PySem.W.Frag} {h : Heap} {mg : Str → Option Value} {fa : Addr} (X : K.In h) (G : h.Ns mainGlobals mg) (hfa : mg "law" = some (.ref fa))
    {tk_MOST_PERIOD : Tok}
    {tk_MOST_TURNED : Tok}
    {c_Days : Addr}
    {f_Days___init__ D_Days___init__ : Addr} {oc_Days___init__ dc_Days___init__ pm_Days___init__ cd_Days___init__ ct_Days___init__ : Value} {od_Days___init__ an_Days___init__ : Option Addr} {sl_Days___init__ : Array (Option Value)}
    {f_Days_set_days : Addr} {oc_Days_set_days kV_Days_set_days dc_Days_set_days pm_Days_set_days cd_Days_set_days ct_Days_set_days : Value} {od_Days_set_days an_Days_set_days : Option Addr} {sl_Days_set_days : Array (Option Value)}
    {f_Days_goes_in : Addr} {oc_Days_goes_in kV_Days_goes_in dc_Days_goes_in pm_Days_goes_in cd_Days_goes_in ct_Days_goes_in : Value} {od_Days_goes_in an_Days_goes_in : Option Addr} {sl_Days_goes_in : Array (Option Value)}
    {f_Days_has : Addr} {oc_Days_has kV_Days_has dc_Days_has pm_Days_has cd_Days_has ct_Days_has : Value} {od_Days_has an_Days_has : Option Addr} {sl_Days_has : Array (Option Value)}
    {e_ED : Addr} {de_ED : Option Addr} {ie_ED : Array Value} {ne_ED : Nat} {se_ED : Array (Option Value)}
    {c_NoDays : Addr}
    {c_PayError : Addr}
    {c_NoAmount : Addr}
    {c_NoStretch : Addr}
    {c_NoDeed : Addr}
    {c_NoFold : Addr}
    {c_NoLeave : Addr}
    {c_NoLine : Addr}
    {c_NoPot : Addr}
    {c_NoRule : Addr}
    {c_NoTelling : Addr}
    {c_NoTable : Addr}
    {c_NoText : Addr}
    {c_NoPart : Addr}
    {c_NoName : Addr}
    {c_NoNumber : Addr}
    {c_TooLong : Addr}
    {c_NoCut : Addr}
    {f_is_whole : Addr} {oc_is_whole kV_is_whole dc_is_whole pm_is_whole cd_is_whole ct_is_whole : Value} {od_is_whole an_is_whole : Option Addr} {sl_is_whole : Array (Option Value)}
    {f_are_unlike_wholes : Addr} {oc_are_unlike_wholes kV_are_unlike_wholes dc_are_unlike_wholes pm_are_unlike_wholes cd_are_unlike_wholes ct_are_unlike_wholes : Value} {od_are_unlike_wholes an_are_unlike_wholes : Option Addr} {sl_are_unlike_wholes : Array (Option Value)}
    {f_are_days : Addr} {oc_are_days kV_are_days dc_are_days pm_are_days cd_are_days ct_are_days : Value} {od_are_days an_are_days : Option Addr} {sl_are_days : Array (Option Value)}
    {f_goes_round : Addr} {oc_goes_round kV_goes_round dc_goes_round pm_goes_round cd_goes_round ct_goes_round : Value} {od_goes_round an_goes_round : Option Addr} {sl_goes_round : Array (Option Value)}
    {f_least_rests : Addr} {oc_least_rests kV_least_rests dc_least_rests pm_least_rests cd_least_rests ct_least_rests : Value} {od_least_rests an_least_rests : Option Addr} {sl_least_rests : Array (Option Value)}
    {f_law_reel : Addr} {oc_law_reel kV_law_reel dc_law_reel pm_law_reel cd_law_reel ct_law_reel : Value} {od_law_reel an_law_reel : Option Addr} {sl_law_reel : Array (Option Value)}
    {f_law_draw : Addr} {oc_law_draw kV_law_draw dc_law_draw pm_law_draw cd_law_draw ct_law_draw : Value} {od_law_draw an_law_draw : Option Addr} {sl_law_draw : Array (Option Value)}
    {f_law_bits : Addr} {oc_law_bits kV_law_bits dc_law_bits pm_law_bits cd_law_bits ct_law_bits : Value} {od_law_bits an_law_bits : Option Addr} {sl_law_bits : Array (Option Value)}
    {f_law_rests : Addr} {oc_law_rests kV_law_rests dc_law_rests pm_law_rests cd_law_rests ct_law_rests : Value} {od_law_rests an_law_rests : Option Addr} {sl_law_rests : Array (Option Value)}
    {f_law_unlike : Addr} {oc_law_unlike kV_law_unlike dc_law_unlike pm_law_unlike cd_law_unlike ct_law_unlike : Value} {od_law_unlike an_law_unlike : Option Addr} {sl_law_unlike : Array (Option Value)}
    {f_law_turned : Addr} {oc_law_turned kV_law_turned dc_law_turned pm_law_turned cd_law_turned ct_law_turned : Value} {od_law_turned an_law_turned : Option Addr} {sl_law_turned : Array (Option Value)}
    {f_law_given : Addr} {oc_law_given kV_law_given dc_law_given pm_law_given cd_law_given ct_law_given : Value} {od_law_given an_law_given : Option Addr} {sl_law_given : Array (Option Value)}
    {f_law_marks : Addr} {oc_law_marks kV_law_marks dc_law_marks pm_law_marks cd_law_marks ct_law_marks : Value} {od_law_marks an_law_marks : Option Addr} {sl_law_marks : Array (Option Value)}
    {f_law_in : Addr} {oc_law_in kV_law_in dc_law_in pm_law_in cd_law_in ct_law_in : Value} {od_law_in an_law_in : Option Addr} {sl_law_in : Array (Option Value)}
    {f_law_about : Addr} {oc_law_about kV_law_about dc_law_about pm_law_about cd_law_about ct_law_about : Value} {od_law_about an_law_about : Option Addr} {sl_law_about : Array (Option Value)}
    {f_law_word : Addr} {oc_law_word kV_law_word dc_law_word pm_law_word cd_law_word ct_law_word : Value} {od_law_word an_law_word : Option Addr} {sl_law_word : Array (Option Value)}
    {f_law_odd : Addr} {oc_law_odd kV_law_odd dc_law_odd pm_law_odd cd_law_odd ct_law_odd : Value} {od_law_odd an_law_odd : Option Addr} {sl_law_odd : Array (Option Value)}
    {f_law_refused : Addr} {oc_law_refused kV_law_refused dc_law_refused pm_law_refused cd_law_refused ct_law_refused : Value} {od_law_refused an_law_refused : Option Addr} {sl_law_refused : Array (Option Value)}
    {f_law_made_of : Addr} {oc_law_made_of kV_law_made_of dc_law_made_of pm_law_made_of cd_law_made_of ct_law_made_of : Value} {od_law_made_of an_law_made_of : Option Addr} {sl_law_made_of : Array (Option Value)}
    {f_law : Addr} {oc_law kV_law dc_law pm_law cd_law ct_law : Value} {od_law an_law : Option Addr} {sl_law : Array (Option Value)}
    (a_MOST_PERIOD : PySem.W.nsIn K mainGlobals "MOST_PERIOD" = some (some (.int 5040 tk_MOST_PERIOD)))
    (a_MOST_TURNED : PySem.W.nsIn K mainGlobals "MOST_TURNED" = some (some (.int 60 tk_MOST_TURNED)))
    (a_Days : PySem.W.nsIn K mainGlobals "Days" = some (some (.ref c_Days)))
    (pg_Days : PySem.W.plainGet K c_Days Str.empty = true)
    (hd_Days : PySem.W.hasDictIn K c_Days = true)
    (po_Days : PySem.W.plainOver K c_Days = true)
    (sa_Days : PySem.W.findIn K (.ref c_Days) "__setattr__" = some (some (.builtin "object.__setattr__")))
    (mk_Days : PySem.W.makesIn K c_Days = true)
    (kp_Days : PySem.W.keepIn K (.ref c_Days) = true)
    (fi_Days___init__ : PySem.W.findIn K (.ref c_Days) "__init__" = some (some (.ref f_Days___init__))) (if_Days___init__ : PySem.W.isFn K (.ref f_Days___init__) = true)
    (l_Days___init__ : K.lookup f_Days___init__ = some ⟨oc_Days___init__, od_Days___init__, .func (PySem.W.fnOf "__init__" "Days.__init__" (defArgs s_Days___init__) (defBody s_Days___init__) (defScope s_Days___init__) .none (.ref D_Days___init__) dc_Days___init__ pm_Days___init__ an_Days___init__ cd_Days___init__ ct_Days___init__), sl_Days___init__⟩)
    (c_Days___init__ : PySem.W.codeIn K cd_Days___init__ "Days.__init__" = true) (k_Days___init__ : PySem.W.keepIn K (.ref f_Days___init__) = true)
    (kw_Days___init___0 : PySem.W.nsIn K D_Days___init__ "turned" = some (some (.ref e_ED)))
    (fi_Days_set_days : PySem.W.findIn K (.ref c_Days) "set_days" = some (some (.ref f_Days_set_days))) (if_Days_set_days : PySem.W.isFn K (.ref f_Days_set_days) = true)
    (l_Days_set_days : K.lookup f_Days_set_days = some ⟨oc_Days_set_days, od_Days_set_days, .func (PySem.W.fnOf "set_days" "Days.set_days" (defArgs s_Days_set_days) (defBody s_Days_set_days) (defScope s_Days_set_days) .none kV_Days_set_days dc_Days_set_days pm_Days_set_days an_Days_set_days cd_Days_set_days ct_Days_set_days), sl_Days_set_days⟩)
    (c_Days_set_days : PySem.W.codeIn K cd_Days_set_days "Days.set_days" = true) (k_Days_set_days : PySem.W.keepIn K (.ref f_Days_set_days) = true)
    (fi_Days_goes_in : PySem.W.findIn K (.ref c_Days) "goes_in" = some (some (.ref f_Days_goes_in))) (if_Days_goes_in : PySem.W.isFn K (.ref f_Days_goes_in) = true)
    (l_Days_goes_in : K.lookup f_Days_goes_in = some ⟨oc_Days_goes_in, od_Days_goes_in, .func (PySem.W.fnOf "goes_in" "Days.goes_in" (defArgs s_Days_goes_in) (defBody s_Days_goes_in) (defScope s_Days_goes_in) .none kV_Days_goes_in dc_Days_goes_in pm_Days_goes_in an_Days_goes_in cd_Days_goes_in ct_Days_goes_in), sl_Days_goes_in⟩)
    (c_Days_goes_in : PySem.W.codeIn K cd_Days_goes_in "Days.goes_in" = true) (k_Days_goes_in : PySem.W.keepIn K (.ref f_Days_goes_in) = true)
    (fi_Days_has : PySem.W.findIn K (.ref c_Days) "has" = some (some (.ref f_Days_has))) (if_Days_has : PySem.W.isFn K (.ref f_Days_has) = true)
    (l_Days_has : K.lookup f_Days_has = some ⟨oc_Days_has, od_Days_has, .func (PySem.W.fnOf "has" "Days.has" (defArgs s_Days_has) (defBody s_Days_has) (defScope s_Days_has) .none kV_Days_has dc_Days_has pm_Days_has an_Days_has cd_Days_has ct_Days_has), sl_Days_has⟩)
    (c_Days_has : PySem.W.codeIn K cd_Days_has "Days.has" = true) (k_Days_has : PySem.W.keepIn K (.ref f_Days_has) = true)
    (le_ED : K.lookup e_ED = some ⟨.type "tuple", de_ED, .seq ie_ED ne_ED, se_ED⟩) (re_ED : Vals [] ie_ED.toList)
    (nR_Days : PySem.W.findIn K (.ref c_Days) "rests" = some none)
    (nP_Days : PySem.W.findIn K (.ref c_Days) "period" = some none)
    (nM_Days : PySem.W.findIn K (.ref c_Days) "marks" = some none)
    (nT_Days : PySem.W.findIn K (.ref c_Days) "turned" = some none)
    (a_NoDays : PySem.W.nsIn K mainGlobals "NoDays" = some (some (.ref c_NoDays)))
    (x_NoDays : PySem.W.excIn K c_NoDays [.type "ValueError", .type "Exception", .type "BaseException", .type "object"] "ValueError.__new__" = true)
    (kp_NoDays : PySem.W.keepIn K (.ref c_NoDays) = true)
    (sb_NoDays : PySem.W.subIn K (.ref c_NoDays) (.type "BaseException") = some true)
    (ty_NoDays : PySem.W.typeIn K (.ref c_NoDays) = some (.type "type"))
    (hg_NoDays : PySem.W.findIn K (.ref c_NoDays) "__getattribute__" = some (some (.builtin "BaseException.__getattribute__")))
    (hk_NoDays : PySem.W.findIn K (.ref c_NoDays) "__getattr__" = some none)
    (hd_NoDays : PySem.W.hasDictIn K c_NoDays = true)
    (ha_NoDays : PySem.W.findIn K (.ref c_NoDays) "__class__" = some (some (.builtin "object.__class__")))
    (hn_ : PySem.W.specialIn K (.builtin "object.__class__") "__get__" = some (some (.builtin "getset_descriptor.__get__")))
    (ht_ : PySem.W.takesIn K (.builtin "object.__class__") = some true)
    (hm_NoDays : PySem.W.mroIn K c_NoDays (.type "object") = some true)
    (a_PayError : PySem.W.nsIn K mainGlobals "PayError" = some (some (.ref c_PayError)))
    (a_NoAmount : PySem.W.nsIn K mainGlobals "NoAmount" = some (some (.ref c_NoAmount)))
    (a_NoStretch : PySem.W.nsIn K mainGlobals "NoStretch" = some (some (.ref c_NoStretch)))
    (a_NoDeed : PySem.W.nsIn K mainGlobals "NoDeed" = some (some (.ref c_NoDeed)))
    (a_NoFold : PySem.W.nsIn K mainGlobals "NoFold" = some (some (.ref c_NoFold)))
    (a_NoLeave : PySem.W.nsIn K mainGlobals "NoLeave" = some (some (.ref c_NoLeave)))
    (a_NoLine : PySem.W.nsIn K mainGlobals "NoLine" = some (some (.ref c_NoLine)))
    (a_NoPot : PySem.W.nsIn K mainGlobals "NoPot" = some (some (.ref c_NoPot)))
    (a_NoRule : PySem.W.nsIn K mainGlobals "NoRule" = some (some (.ref c_NoRule)))
    (a_NoTelling : PySem.W.nsIn K mainGlobals "NoTelling" = some (some (.ref c_NoTelling)))
    (a_NoTable : PySem.W.nsIn K mainGlobals "NoTable" = some (some (.ref c_NoTable)))
    (a_NoText : PySem.W.nsIn K mainGlobals "NoText" = some (some (.ref c_NoText)))
    (a_NoPart : PySem.W.nsIn K mainGlobals "NoPart" = some (some (.ref c_NoPart)))
    (a_NoName : PySem.W.nsIn K mainGlobals "NoName" = some (some (.ref c_NoName)))
    (a_NoNumber : PySem.W.nsIn K mainGlobals "NoNumber" = some (some (.ref c_NoNumber)))
    (a_TooLong : PySem.W.nsIn K mainGlobals "TooLong" = some (some (.ref c_TooLong)))
    (a_NoCut : PySem.W.nsIn K mainGlobals "NoCut" = some (some (.ref c_NoCut)))
    (te_ : PySem.W.exmOne K (.ref c_NoDays) (.ref c_PayError) = some true)
    (kV_ : PySem.W.kitOne K (.ref c_NoDays) (.type "ValueError") = some true)
    (kPT_ : PySem.W.kitOne K (.ref c_NoDays) (.ref c_PayError) = some true)
    (wt_0 : PySem.W.kitOne K (.ref c_NoDays) (.ref c_NoAmount) = some false)
    (wt_1 : PySem.W.kitOne K (.ref c_NoDays) (.ref c_NoDays) = some true)
    (wt_2 : PySem.W.kitOne K (.ref c_NoDays) (.ref c_NoDeed) = some false)
    (wt_3 : PySem.W.kitOne K (.ref c_NoDays) (.ref c_NoFold) = some false)
    (wt_4 : PySem.W.kitOne K (.ref c_NoDays) (.ref c_NoLeave) = some false)
    (wt_5 : PySem.W.kitOne K (.ref c_NoDays) (.ref c_NoLine) = some false)
    (wt_6 : PySem.W.kitOne K (.ref c_NoDays) (.ref c_NoPot) = some false)
    (wt_7 : PySem.W.kitOne K (.ref c_NoDays) (.ref c_NoRule) = some false)
    (wt_8 : PySem.W.kitOne K (.ref c_NoDays) (.ref c_NoStretch) = some false)
    (wt_9 : PySem.W.kitOne K (.ref c_NoDays) (.ref c_NoTable) = some false)
    (wt_10 : PySem.W.kitOne K (.ref c_NoDays) (.ref c_NoTelling) = some false)
    (wt_11 : PySem.W.kitOne K (.ref c_NoDays) (.ref c_NoText) = some false)
    (wt_12 : PySem.W.kitOne K (.ref c_NoDays) (.ref c_NoPart) = some false)
    (wt_13 : PySem.W.kitOne K (.ref c_NoDays) (.ref c_NoName) = some false)
    (wt_14 : PySem.W.kitOne K (.ref c_NoDays) (.ref c_NoNumber) = some false)
    (wt_15 : PySem.W.kitOne K (.ref c_NoDays) (.ref c_TooLong) = some false)
    (wt_16 : PySem.W.kitOne K (.ref c_NoDays) (.ref c_NoCut) = some false)
    (a_is_whole : PySem.W.nsIn K mainGlobals "is_whole" = some (some (.ref f_is_whole)))
    (l_is_whole : K.lookup f_is_whole = some ⟨oc_is_whole, od_is_whole, .func (PySem.W.fnOf "is_whole" "is_whole" (defArgs s_is_whole) (defBody s_is_whole) (defScope s_is_whole) .none kV_is_whole dc_is_whole pm_is_whole an_is_whole cd_is_whole ct_is_whole), sl_is_whole⟩)
    (c_is_whole : PySem.W.codeIn K cd_is_whole "is_whole" = true) (k_is_whole : PySem.W.keepIn K (.ref f_is_whole) = true)
    (a_are_unlike_wholes : PySem.W.nsIn K mainGlobals "are_unlike_wholes" = some (some (.ref f_are_unlike_wholes)))
    (l_are_unlike_wholes : K.lookup f_are_unlike_wholes = some ⟨oc_are_unlike_wholes, od_are_unlike_wholes, .func (PySem.W.fnOf "are_unlike_wholes" "are_unlike_wholes" (defArgs s_are_unlike_wholes) (defBody s_are_unlike_wholes) (defScope s_are_unlike_wholes) .none kV_are_unlike_wholes dc_are_unlike_wholes pm_are_unlike_wholes an_are_unlike_wholes cd_are_unlike_wholes ct_are_unlike_wholes), sl_are_unlike_wholes⟩)
    (c_are_unlike_wholes : PySem.W.codeIn K cd_are_unlike_wholes "are_unlike_wholes" = true) (k_are_unlike_wholes : PySem.W.keepIn K (.ref f_are_unlike_wholes) = true)
    (a_are_days : PySem.W.nsIn K mainGlobals "are_days" = some (some (.ref f_are_days)))
    (l_are_days : K.lookup f_are_days = some ⟨oc_are_days, od_are_days, .func (PySem.W.fnOf "are_days" "are_days" (defArgs s_are_days) (defBody s_are_days) (defScope s_are_days) .none kV_are_days dc_are_days pm_are_days an_are_days cd_are_days ct_are_days), sl_are_days⟩)
    (c_are_days : PySem.W.codeIn K cd_are_days "are_days" = true) (k_are_days : PySem.W.keepIn K (.ref f_are_days) = true)
    (a_goes_round : PySem.W.nsIn K mainGlobals "goes_round" = some (some (.ref f_goes_round)))
    (l_goes_round : K.lookup f_goes_round = some ⟨oc_goes_round, od_goes_round, .func (PySem.W.fnOf "goes_round" "goes_round" (defArgs s_goes_round) (defBody s_goes_round) (defScope s_goes_round) .none kV_goes_round dc_goes_round pm_goes_round an_goes_round cd_goes_round ct_goes_round), sl_goes_round⟩)
    (c_goes_round : PySem.W.codeIn K cd_goes_round "goes_round" = true) (k_goes_round : PySem.W.keepIn K (.ref f_goes_round) = true)
    (a_least_rests : PySem.W.nsIn K mainGlobals "least_rests" = some (some (.ref f_least_rests)))
    (l_least_rests : K.lookup f_least_rests = some ⟨oc_least_rests, od_least_rests, .func (PySem.W.fnOf "least_rests" "least_rests" (defArgs s_least_rests) (defBody s_least_rests) (defScope s_least_rests) .none kV_least_rests dc_least_rests pm_least_rests an_least_rests cd_least_rests ct_least_rests), sl_least_rests⟩)
    (c_least_rests : PySem.W.codeIn K cd_least_rests "least_rests" = true) (k_least_rests : PySem.W.keepIn K (.ref f_least_rests) = true)
    (a_law_reel : PySem.W.nsIn K mainGlobals "_law_reel" = some (some (.ref f_law_reel)))
    (l_law_reel : K.lookup f_law_reel = some ⟨oc_law_reel, od_law_reel, .func (PySem.W.fnOf "_law_reel" "_law_reel" (defArgs s_law_reel) (defBody s_law_reel) (defScope s_law_reel) .none kV_law_reel dc_law_reel pm_law_reel an_law_reel cd_law_reel ct_law_reel), sl_law_reel⟩)
    (c_law_reel : PySem.W.codeIn K cd_law_reel "_law_reel" = true) (k_law_reel : PySem.W.keepIn K (.ref f_law_reel) = true)
    (a_law_draw : PySem.W.nsIn K mainGlobals "_law_draw" = some (some (.ref f_law_draw)))
    (l_law_draw : K.lookup f_law_draw = some ⟨oc_law_draw, od_law_draw, .func (PySem.W.fnOf "_law_draw" "_law_draw" (defArgs s_law_draw) (defBody s_law_draw) (defScope s_law_draw) .none kV_law_draw dc_law_draw pm_law_draw an_law_draw cd_law_draw ct_law_draw), sl_law_draw⟩)
    (c_law_draw : PySem.W.codeIn K cd_law_draw "_law_draw" = true) (k_law_draw : PySem.W.keepIn K (.ref f_law_draw) = true)
    (a_law_bits : PySem.W.nsIn K mainGlobals "_law_bits" = some (some (.ref f_law_bits)))
    (l_law_bits : K.lookup f_law_bits = some ⟨oc_law_bits, od_law_bits, .func (PySem.W.fnOf "_law_bits" "_law_bits" (defArgs s_law_bits) (defBody s_law_bits) (defScope s_law_bits) .none kV_law_bits dc_law_bits pm_law_bits an_law_bits cd_law_bits ct_law_bits), sl_law_bits⟩)
    (c_law_bits : PySem.W.codeIn K cd_law_bits "_law_bits" = true) (k_law_bits : PySem.W.keepIn K (.ref f_law_bits) = true)
    (a_law_rests : PySem.W.nsIn K mainGlobals "_law_rests" = some (some (.ref f_law_rests)))
    (l_law_rests : K.lookup f_law_rests = some ⟨oc_law_rests, od_law_rests, .func (PySem.W.fnOf "_law_rests" "_law_rests" (defArgs s_law_rests) (defBody s_law_rests) (defScope s_law_rests) .none kV_law_rests dc_law_rests pm_law_rests an_law_rests cd_law_rests ct_law_rests), sl_law_rests⟩)
    (c_law_rests : PySem.W.codeIn K cd_law_rests "_law_rests" = true) (k_law_rests : PySem.W.keepIn K (.ref f_law_rests) = true)
    (a_law_unlike : PySem.W.nsIn K mainGlobals "_law_unlike" = some (some (.ref f_law_unlike)))
    (l_law_unlike : K.lookup f_law_unlike = some ⟨oc_law_unlike, od_law_unlike, .func (PySem.W.fnOf "_law_unlike" "_law_unlike" (defArgs s_law_unlike) (defBody s_law_unlike) (defScope s_law_unlike) .none kV_law_unlike dc_law_unlike pm_law_unlike an_law_unlike cd_law_unlike ct_law_unlike), sl_law_unlike⟩)
    (c_law_unlike : PySem.W.codeIn K cd_law_unlike "_law_unlike" = true) (k_law_unlike : PySem.W.keepIn K (.ref f_law_unlike) = true)
    (a_law_turned : PySem.W.nsIn K mainGlobals "_law_turned" = some (some (.ref f_law_turned)))
    (l_law_turned : K.lookup f_law_turned = some ⟨oc_law_turned, od_law_turned, .func (PySem.W.fnOf "_law_turned" "_law_turned" (defArgs s_law_turned) (defBody s_law_turned) (defScope s_law_turned) .none kV_law_turned dc_law_turned pm_law_turned an_law_turned cd_law_turned ct_law_turned), sl_law_turned⟩)
    (c_law_turned : PySem.W.codeIn K cd_law_turned "_law_turned" = true) (k_law_turned : PySem.W.keepIn K (.ref f_law_turned) = true)
    (a_law_given : PySem.W.nsIn K mainGlobals "_law_given" = some (some (.ref f_law_given)))
    (l_law_given : K.lookup f_law_given = some ⟨oc_law_given, od_law_given, .func (PySem.W.fnOf "_law_given" "_law_given" (defArgs s_law_given) (defBody s_law_given) (defScope s_law_given) .none kV_law_given dc_law_given pm_law_given an_law_given cd_law_given ct_law_given), sl_law_given⟩)
    (c_law_given : PySem.W.codeIn K cd_law_given "_law_given" = true) (k_law_given : PySem.W.keepIn K (.ref f_law_given) = true)
    (a_law_marks : PySem.W.nsIn K mainGlobals "_law_marks" = some (some (.ref f_law_marks)))
    (l_law_marks : K.lookup f_law_marks = some ⟨oc_law_marks, od_law_marks, .func (PySem.W.fnOf "_law_marks" "_law_marks" (defArgs s_law_marks) (defBody s_law_marks) (defScope s_law_marks) .none kV_law_marks dc_law_marks pm_law_marks an_law_marks cd_law_marks ct_law_marks), sl_law_marks⟩)
    (c_law_marks : PySem.W.codeIn K cd_law_marks "_law_marks" = true) (k_law_marks : PySem.W.keepIn K (.ref f_law_marks) = true)
    (a_law_in : PySem.W.nsIn K mainGlobals "_law_in" = some (some (.ref f_law_in)))
    (l_law_in : K.lookup f_law_in = some ⟨oc_law_in, od_law_in, .func (PySem.W.fnOf "_law_in" "_law_in" (defArgs s_law_in) (defBody s_law_in) (defScope s_law_in) .none kV_law_in dc_law_in pm_law_in an_law_in cd_law_in ct_law_in), sl_law_in⟩)
    (c_law_in : PySem.W.codeIn K cd_law_in "_law_in" = true) (k_law_in : PySem.W.keepIn K (.ref f_law_in) = true)
    (a_law_about : PySem.W.nsIn K mainGlobals "_law_about" = some (some (.ref f_law_about)))
    (l_law_about : K.lookup f_law_about = some ⟨oc_law_about, od_law_about, .func (PySem.W.fnOf "_law_about" "_law_about" (defArgs s_law_about) (defBody s_law_about) (defScope s_law_about) .none kV_law_about dc_law_about pm_law_about an_law_about cd_law_about ct_law_about), sl_law_about⟩)
    (c_law_about : PySem.W.codeIn K cd_law_about "_law_about" = true) (k_law_about : PySem.W.keepIn K (.ref f_law_about) = true)
    (a_law_word : PySem.W.nsIn K mainGlobals "_law_word" = some (some (.ref f_law_word)))
    (l_law_word : K.lookup f_law_word = some ⟨oc_law_word, od_law_word, .func (PySem.W.fnOf "_law_word" "_law_word" (defArgs s_law_word) (defBody s_law_word) (defScope s_law_word) .none kV_law_word dc_law_word pm_law_word an_law_word cd_law_word ct_law_word), sl_law_word⟩)
    (c_law_word : PySem.W.codeIn K cd_law_word "_law_word" = true) (k_law_word : PySem.W.keepIn K (.ref f_law_word) = true)
    (a_law_odd : PySem.W.nsIn K mainGlobals "_law_odd" = some (some (.ref f_law_odd)))
    (l_law_odd : K.lookup f_law_odd = some ⟨oc_law_odd, od_law_odd, .func (PySem.W.fnOf "_law_odd" "_law_odd" (defArgs s_law_odd) (defBody s_law_odd) (defScope s_law_odd) .none kV_law_odd dc_law_odd pm_law_odd an_law_odd cd_law_odd ct_law_odd), sl_law_odd⟩)
    (c_law_odd : PySem.W.codeIn K cd_law_odd "_law_odd" = true) (k_law_odd : PySem.W.keepIn K (.ref f_law_odd) = true)
    (a_law_refused : PySem.W.nsIn K mainGlobals "_law_refused" = some (some (.ref f_law_refused)))
    (l_law_refused : K.lookup f_law_refused = some ⟨oc_law_refused, od_law_refused, .func (PySem.W.fnOf "_law_refused" "_law_refused" (defArgs s_law_refused) (defBody s_law_refused) (defScope s_law_refused) .none kV_law_refused dc_law_refused pm_law_refused an_law_refused cd_law_refused ct_law_refused), sl_law_refused⟩)
    (c_law_refused : PySem.W.codeIn K cd_law_refused "_law_refused" = true) (k_law_refused : PySem.W.keepIn K (.ref f_law_refused) = true)
    (a_law_made_of : PySem.W.nsIn K mainGlobals "_law_made_of" = some (some (.ref f_law_made_of)))
    (l_law_made_of : K.lookup f_law_made_of = some ⟨oc_law_made_of, od_law_made_of, .func (PySem.W.fnOf "_law_made_of" "_law_made_of" (defArgs s_law_made_of) (defBody s_law_made_of) (defScope s_law_made_of) .none kV_law_made_of dc_law_made_of pm_law_made_of an_law_made_of cd_law_made_of ct_law_made_of), sl_law_made_of⟩)
    (c_law_made_of : PySem.W.codeIn K cd_law_made_of "_law_made_of" = true) (k_law_made_of : PySem.W.keepIn K (.ref f_law_made_of) = true)
    (a_law : PySem.W.nsIn K mainGlobals "law" = some (some (.ref f_law)))
    (l_law : K.lookup f_law = some ⟨oc_law, od_law, .func (PySem.W.fnOf "law" "law" (defArgs s_law) (defBody s_law) (defScope s_law) .none kV_law dc_law pm_law an_law cd_law ct_law), sl_law⟩)
    (c_law : PySem.W.codeIn K cd_law "law" = true) (k_law : PySem.W.keepIn K (.ref f_law) = true)
    (z_ValueError : PySem.W.nsIn K mainGlobals "ValueError" = some none)
    (z_all : PySem.W.nsIn K mainGlobals "all" = some none)
    (z_bool : PySem.W.nsIn K mainGlobals "bool" = some none)
    (z_dict : PySem.W.nsIn K mainGlobals "dict" = some none)
    (z_enumerate : PySem.W.nsIn K mainGlobals "enumerate" = some none)
    (z_int : PySem.W.nsIn K mainGlobals "int" = some none)
    (z_isinstance : PySem.W.nsIn K mainGlobals "isinstance" = some none)
    (z_len : PySem.W.nsIn K mainGlobals "len" = some none)
    (z_list : PySem.W.nsIn K mainGlobals "list" = some none)
    (z_max : PySem.W.nsIn K mainGlobals "max" = some none)
    (z_min : PySem.W.nsIn K mainGlobals "min" = some none)
    (z_range : PySem.W.nsIn K mainGlobals "range" = some none)
    (z_repr : PySem.W.nsIn K mainGlobals "repr" = some none)
    (z_sorted : PySem.W.nsIn K mainGlobals "sorted" = some none)
    (z_tuple : PySem.W.nsIn K mainGlobals "tuple" = some none) :
    ∃ fd : FuncData, (∀ (s : Shared) (u : Value), BindsTo s fd ⟨[u], []⟩ [("_law_script", u)]) ∧ ∀ base : Heap, K.In base → base.Ns mainGlobals mg → FnG P w K mg base CX0 7 fa fd ["_law_script"] (spLaw K) := by
  have e := hfa.symm.trans (PySem.W.mg_of X G a_law)
  cases e
  have mg_MOST_PERIOD := PySem.W.mg_of X G a_MOST_PERIOD
  have mg_MOST_TURNED := PySem.W.mg_of X G a_MOST_TURNED
  have g_Days := PySem.W.mg_of X G a_Days
  have cl_Days : Cls K c_Days := ⟨pg_Days, hd_Days, po_Days, sa_Days⟩
  have F_Days___init__ := funD_k (kws := [("turned", .ref e_ED)]) l_Days___init__ c_Days___init__ k_Days___init__ (fun q hq => by
    simp only [List.mem_cons, List.not_mem_nil, or_false] at hq
    rcases hq with rfl
    · exact ⟨_, kw_Days___init___0, rfl⟩)
  have F_Days_set_days := funD_n l_Days_set_days c_Days_set_days k_Days_set_days
  have F_Days_goes_in := funD_n l_Days_goes_in c_Days_goes_in k_Days_goes_in
  have F_Days_has := funD_n l_Days_has c_Days_has k_Days_has
  have t_ED : TpK K e_ED [] := TpK.of le_ED re_ED (by simp)
  have g_NoDays := PySem.W.mg_of X G a_NoDays
  have e_NoDays : ExF K mg "NoDays" c_NoDays veMro "ValueError.__new__" := { g := g_NoDays, x := x_NoDays, k := kp_NoDays, b := sb_NoDays, t := ty_NoDays, c := ⟨hg_NoDays, hk_NoDays, sb_NoDays, hd_NoDays, ha_NoDays, hn_, ht_, hm_NoDays⟩ }
  have g_PayError := PySem.W.mg_of X G a_PayError
  have g_NoAmount := PySem.W.mg_of X G a_NoAmount
  have g_NoStretch := PySem.W.mg_of X G a_NoStretch
  have g_NoDeed := PySem.W.mg_of X G a_NoDeed
  have g_NoFold := PySem.W.mg_of X G a_NoFold
  have g_NoLeave := PySem.W.mg_of X G a_NoLeave
  have g_NoLine := PySem.W.mg_of X G a_NoLine
  have g_NoPot := PySem.W.mg_of X G a_NoPot
  have g_NoRule := PySem.W.mg_of X G a_NoRule
  have g_NoTelling := PySem.W.mg_of X G a_NoTelling
  have g_NoTable := PySem.W.mg_of X G a_NoTable
  have g_NoText := PySem.W.mg_of X G a_NoText
  have g_NoPart := PySem.W.mg_of X G a_NoPart
  have g_NoName := PySem.W.mg_of X G a_NoName
  have g_NoNumber := PySem.W.mg_of X G a_NoNumber
  have g_TooLong := PySem.W.mg_of X G a_TooLong
  have g_NoCut := PySem.W.mg_of X G a_NoCut
  have F_is_whole := funD_n l_is_whole c_is_whole k_is_whole
  have g_is_whole := PySem.W.mg_of X G a_is_whole
  have F_are_unlike_wholes := funD_n l_are_unlike_wholes c_are_unlike_wholes k_are_unlike_wholes
  have g_are_unlike_wholes := PySem.W.mg_of X G a_are_unlike_wholes
  have F_are_days := funD_n l_are_days c_are_days k_are_days
  have g_are_days := PySem.W.mg_of X G a_are_days
  have F_goes_round := funD_n l_goes_round c_goes_round k_goes_round
  have g_goes_round := PySem.W.mg_of X G a_goes_round
  have F_least_rests := funD_n l_least_rests c_least_rests k_least_rests
  have g_least_rests := PySem.W.mg_of X G a_least_rests
  have F_law_reel := funD_n l_law_reel c_law_reel k_law_reel
  have g_law_reel := PySem.W.mg_of X G a_law_reel
  have F_law_draw := funD_n l_law_draw c_law_draw k_law_draw
  have g_law_draw := PySem.W.mg_of X G a_law_draw
  have F_law_bits := funD_n l_law_bits c_law_bits k_law_bits
  have g_law_bits := PySem.W.mg_of X G a_law_bits
  have F_law_rests := funD_n l_law_rests c_law_rests k_law_rests
  have g_law_rests := PySem.W.mg_of X G a_law_rests
  have F_law_unlike := funD_n l_law_unlike c_law_unlike k_law_unlike
  have g_law_unlike := PySem.W.mg_of X G a_law_unlike
  have F_law_turned := funD_n l_law_turned c_law_turned k_law_turned
  have g_law_turned := PySem.W.mg_of X G a_law_turned
  have F_law_given := funD_n l_law_given c_law_given k_law_given
  have g_law_given := PySem.W.mg_of X G a_law_given
  have F_law_marks := funD_n l_law_marks c_law_marks k_law_marks
  have g_law_marks := PySem.W.mg_of X G a_law_marks
  have F_law_in := funD_n l_law_in c_law_in k_law_in
  have g_law_in := PySem.W.mg_of X G a_law_in
  have F_law_about := funD_n l_law_about c_law_about k_law_about
  have g_law_about := PySem.W.mg_of X G a_law_about
  have F_law_word := funD_n l_law_word c_law_word k_law_word
  have g_law_word := PySem.W.mg_of X G a_law_word
  have F_law_odd := funD_n l_law_odd c_law_odd k_law_odd
  have g_law_odd := PySem.W.mg_of X G a_law_odd
  have F_law_refused := funD_n l_law_refused c_law_refused k_law_refused
  have g_law_refused := PySem.W.mg_of X G a_law_refused
  have F_law_made_of := funD_n l_law_made_of c_law_made_of k_law_made_of
  have g_law_made_of := PySem.W.mg_of X G a_law_made_of
  have F_law := funD_n l_law c_law k_law
  have n_ValueError := PySem.W.mg_none_of X G z_ValueError
  have n_all := PySem.W.mg_none_of X G z_all
  have n_bool := PySem.W.mg_none_of X G z_bool
  have n_dict := PySem.W.mg_none_of X G z_dict
  have n_enumerate := PySem.W.mg_none_of X G z_enumerate
  have n_int := PySem.W.mg_none_of X G z_int
  have n_isinstance := PySem.W.mg_none_of X G z_isinstance
  have n_len := PySem.W.mg_none_of X G z_len
  have n_list := PySem.W.mg_none_of X G z_list
  have n_max := PySem.W.mg_none_of X G z_max
  have n_min := PySem.W.mg_none_of X G z_min
  have n_range := PySem.W.mg_none_of X G z_range
  have n_repr := PySem.W.mg_none_of X G z_repr
  have n_sorted := PySem.W.mg_none_of X G z_sorted
  have n_tuple := PySem.W.mg_none_of X G z_tuple
  refine ⟨_, fun s u => F_law.bindsA (ps := ["_law_script"]) (fun _ _ _ _ _ _ us hl => match us, hl with | [_], _ => rfl) s [u] rfl, fun base _ _ => ?_⟩
  have T_Days : DaysT K c_Days := ⟨cl_Days, nR_Days, nP_Days, nM_Days, nT_Days⟩
  have A_is_whole := ok_is_whole (P := P) (w := w) (mg := mg) (base := base) F_is_whole n_isinstance n_int n_bool
  have X_are_unlike_wholes := ok_unlX (P := P) (w := w) (mg := mg) (base := base) F_are_unlike_wholes (own_n F_is_whole g_is_whole A_is_whole fun _ _ _ _ _ _ us hl => match us, hl with | [_], _ => rfl) n_isinstance n_len n_all n_tuple n_list
  have A_are_unlike_wholes := X_are_unlike_wholes
  have A_are_days := ok_areDaysX (P := P) (w := w) (mg := mg) (base := base) F_are_days (own_n F_is_whole g_is_whole A_is_whole fun _ _ _ _ _ _ us hl => match us, hl with | [_], _ => rfl) (own_n F_are_unlike_wholes g_are_unlike_wholes A_are_unlike_wholes fun _ _ _ _ _ _ us hl => match us, hl with | [_], _ => rfl) n_len n_all mg_MOST_PERIOD mg_MOST_TURNED
  have A_Days___init__ := ok_initX (C := c_Days) (P := P) (w := w) (mg := mg) (base := base) F_Days___init__ e_NoDays (own_n F_are_days g_are_days A_are_days fun _ _ _ _ _ _ us hl => match us, hl with | [_, _, _], _ => rfl)
  have X_Days := (ownCK_k F_Days___init__ ⟨mk_Days, fi_Days___init__, if_Days___init__, kp_Days⟩ g_Days A_Days___init__ 2 ["turned"] (by simp) (fun us zs => us ++ zs) (fun r1 r3 => r1.append r3) fun _ _ _ _ _ _ us ws l1 l2 => match us, ws, l1, l2 with | [_, _, _], [_], _, _ => rfl)
  have A_are_unlike_wholes := ok_unl (P := P) (w := w) (mg := mg) (base := base) F_are_unlike_wholes (own_n F_is_whole g_is_whole A_is_whole fun _ _ _ _ _ _ us hl => match us, hl with | [_], _ => rfl) n_isinstance n_len n_all n_tuple n_list
  have A_are_days := ok_areDays (P := P) (w := w) (mg := mg) (base := base) F_are_days (own_n F_is_whole g_is_whole A_is_whole fun _ _ _ _ _ _ us hl => match us, hl with | [_], _ => rfl) (own_n F_are_unlike_wholes g_are_unlike_wholes A_are_unlike_wholes fun _ _ _ _ _ _ us hl => match us, hl with | [_], _ => rfl) n_len n_all mg_MOST_PERIOD mg_MOST_TURNED
  have A_goes_round := ok_round (P := P) (w := w) (mg := mg) (base := base) F_goes_round n_len
  have A_least_rests := ok_least (P := P) (w := w) (mg := mg) (base := base) F_least_rests (own_n F_goes_round g_goes_round A_goes_round fun _ _ _ _ _ _ us hl => match us, hl with | [_, _], _ => rfl) n_len
  have A_Days_set_days := ok_set_days (P := P) (w := w) (mg := mg) (base := base) T_Days F_Days_set_days (own_n F_least_rests g_least_rests A_least_rests fun _ _ _ _ _ _ us hl => match us, hl with | [_], _ => rfl) n_len n_tuple n_enumerate n_sorted
  have A_Days___init__ := ok_init (P := P) (w := w) (mg := mg) (base := base) T_Days F_Days___init__ cl_Days (own_n F_are_days g_are_days A_are_days fun _ _ _ _ _ _ us hl => match us, hl with | [_, _, _], _ => rfl) (ownM_n F_Days_set_days ⟨fi_Days_set_days, if_Days_set_days, k_Days_set_days⟩ A_Days_set_days fun _ _ _ _ _ _ us hl => match us, hl with | [_, _, _], _ => rfl) n_range
  have A_Days_goes_in := ok_goes (P := P) (w := w) (mg := mg) (base := base) T_Days F_Days_goes_in
  have A_Days_has := ok_has (P := P) (w := w) (mg := mg) (base := base) T_Days cl_Days F_Days_has (ownM_n F_Days_goes_in ⟨fi_Days_goes_in, if_Days_goes_in, k_Days_goes_in⟩ A_Days_goes_in fun _ _ _ _ _ _ us hl => match us, hl with | [_, _], _ => rfl)
  have A_law_reel := ok_law_reel (P := P) (w := w) (mg := mg) (base := base) F_law_reel n_max n_len
  have A_law_draw := ok_law_draw (P := P) (w := w) (mg := mg) (base := base) F_law_draw
  have A_law_bits := ok_bits (P := P) (w := w) (mg := mg) (base := base) F_law_bits (own_n F_law_draw g_law_draw A_law_draw fun _ _ _ _ _ _ us hl => match us, hl with | [_, _], _ => rfl) n_range
  have A_law_rests := ok_rests (P := P) (w := w) (mg := mg) (base := base) F_law_rests (own_n F_law_draw g_law_draw A_law_draw fun _ _ _ _ _ _ us hl => match us, hl with | [_, _], _ => rfl) (own_n F_law_bits g_law_bits A_law_bits fun _ _ _ _ _ _ us hl => match us, hl with | [_, _], _ => rfl) n_range n_len n_int
  have A_law_unlike := ok_unlike (P := P) (w := w) (mg := mg) (base := base) F_law_unlike n_list n_dict
  have A_law_turned := ok_turned (P := P) (w := w) (mg := mg) (base := base) F_law_turned (own_n F_law_draw g_law_draw A_law_draw fun _ _ _ _ _ _ us hl => match us, hl with | [_, _], _ => rfl) (own_n F_law_unlike g_law_unlike A_law_unlike fun _ _ _ _ _ _ us hl => match us, hl with | [_], _ => rfl) n_range n_int
  have A_law_given := ok_given (P := P) (w := w) (mg := mg) (base := base) F_law_given (own_n F_law_rests g_law_rests A_law_rests fun _ _ _ _ _ _ us hl => match us, hl with | [_], _ => rfl) (own_n F_law_turned g_law_turned A_law_turned fun _ _ _ _ _ _ us hl => match us, hl with | [_], _ => rfl)
  have A_law_marks := ok_marks (P := P) (w := w) (mg := mg) (base := base) F_law_marks n_enumerate
  have A_law_in := ok_in (P := P) (w := w) (mg := mg) (base := base) F_law_in n_len
  have A_law_about := ok_about (P := P) (w := w) (mg := mg) (base := base) F_law_about (own_n F_law_draw g_law_draw A_law_draw fun _ _ _ _ _ _ us hl => match us, hl with | [_, _], _ => rfl) n_range n_len n_min n_max
  have kwt : ∀ i, i < 17 → PySem.W.kitOne K (.ref c_NoDays) (.ref ([c_NoAmount, c_NoDays, c_NoDeed, c_NoFold, c_NoLeave, c_NoLine, c_NoPot, c_NoRule, c_NoStretch, c_NoTable, c_NoTelling, c_NoText, c_NoPart, c_NoName, c_NoNumber, c_TooLong, c_NoCut].getD i c_NoCut)) = some (decide (i = 1)) := fun i hi => by
    match i, hi with
    | 0, _ => exact wt_0
    | 1, _ => exact wt_1
    | 2, _ => exact wt_2
    | 3, _ => exact wt_3
    | 4, _ => exact wt_4
    | 5, _ => exact wt_5
    | 6, _ => exact wt_6
    | 7, _ => exact wt_7
    | 8, _ => exact wt_8
    | 9, _ => exact wt_9
    | 10, _ => exact wt_10
    | 11, _ => exact wt_11
    | 12, _ => exact wt_12
    | 13, _ => exact wt_13
    | 14, _ => exact wt_14
    | 15, _ => exact wt_15
    | 16, _ => exact wt_16
    | i + 17, hi => omega
  have A_law_word : FnG P w K mg base CX0 1 f_law_word _ ["_law_e"] (spWord K c_NoDays "days") := ok_word (P := P) (w := w) (mg := mg) (base := base) F_law_word e_NoDays.c g_PayError g_NoAmount g_NoDays g_NoDeed g_NoFold g_NoLeave g_NoLine g_NoPot g_NoRule g_NoStretch g_NoTable g_NoTelling g_NoText g_NoPart g_NoName g_NoNumber g_TooLong g_NoCut n_isinstance 1 (by decide) kwt kPT_
  have A_law_refused := ok_refX (P := P) (w := w) (mg := mg) (base := base) F_law_refused te_ g_PayError e_NoDays.c kV_ X_Days (own_n F_law_word g_law_word A_law_word fun _ _ _ _ _ _ us hl => match us, hl with | [_], _ => rfl) n_isinstance n_ValueError
  have A_law_odd := ok_odd (P := P) (w := w) (mg := mg) (base := base) F_law_odd (own_n F_law_draw g_law_draw A_law_draw fun _ _ _ _ _ _ us hl => match us, hl with | [_, _], _ => rfl) n_len n_list n_range mg_MOST_PERIOD
  have A_law_made_of := ok_made (P := P) (w := w) (mg := mg) (base := base) F_law_made_of (own_n F_law_draw g_law_draw A_law_draw fun _ _ _ _ _ _ us hl => match us, hl with | [_, _], _ => rfl) (own_n F_law_marks g_law_marks A_law_marks fun _ _ _ _ _ _ us hl => match us, hl with | [_], _ => rfl) (ownC_k F_Days___init__ ⟨mk_Days, fi_Days___init__, if_Days___init__, kp_Days⟩ g_Days A_Days___init__ 3 (by simp) rfl fun _ _ _ _ _ _ us zs l1 l2 => match us, zs, l1, l2 with | [_, _, _], [_], _, _ => ⟨_, _, _, _, _, _, rfl, rfl, rfl⟩) t_ED (ownCK_k F_Days___init__ ⟨mk_Days, fi_Days___init__, if_Days___init__, kp_Days⟩ g_Days A_Days___init__ 0 ["turned", "marks", "period"] (by simp) (fun us zs => us ++ zs.reverse) (fun r1 r3 => r1.append r3.reverse) fun _ _ _ _ _ _ us ws l1 l2 => match us, ws, l1, l2 with | [_], [_, _, _], _, _ => rfl) (ownCK_k F_Days___init__ ⟨mk_Days, fi_Days___init__, if_Days___init__, kp_Days⟩ g_Days A_Days___init__ 2 ["turned"] (by simp) (fun us zs => us ++ zs) (fun r1 r3 => r1.append r3) fun _ _ _ _ _ _ us ws l1 l2 => match us, ws, l1, l2 with | [_, _, _], [_], _, _ => rfl) n_len n_tuple
  exact ok_law (P := P) (w := w) (mg := mg) (base := base) cl_Days F_law (own_n F_law_reel g_law_reel A_law_reel fun _ _ _ _ _ _ us hl => match us, hl with | [_, _], _ => rfl) (own_n F_law_draw g_law_draw A_law_draw fun _ _ _ _ _ _ us hl => match us, hl with | [_, _], _ => rfl) (own_n F_law_given g_law_given A_law_given fun _ _ _ _ _ _ us hl => match us, hl with | [_], _ => rfl) (own_n F_law_marks g_law_marks A_law_marks fun _ _ _ _ _ _ us hl => match us, hl with | [_], _ => rfl) (own_n F_law_in g_law_in A_law_in fun _ _ _ _ _ _ us hl => match us, hl with | [_, _], _ => rfl) (own_n F_law_about g_law_about A_law_about fun _ _ _ _ _ _ us hl => match us, hl with | [_, _], _ => rfl) (own_n F_law_made_of g_law_made_of A_law_made_of fun _ _ _ _ _ _ us hl => match us, hl with | [_, _, _], _ => rfl) (own_n F_law_odd g_law_odd A_law_odd fun _ _ _ _ _ _ us hl => match us, hl with | [_, _, _, _], _ => rfl) (own_n F_law_refused g_law_refused A_law_refused fun _ _ _ _ _ _ us hl => match us, hl with | [_, _, _], _ => rfl) (ownC_k F_Days___init__ ⟨mk_Days, fi_Days___init__, if_Days___init__, kp_Days⟩ g_Days A_Days___init__ 3 (by simp) rfl fun _ _ _ _ _ _ us zs l1 l2 => match us, zs, l1, l2 with | [_, _, _], [_], _, _ => ⟨_, _, _, _, _, _, rfl, rfl, rfl⟩) t_ED (ownM_n F_Days_has ⟨fi_Days_has, if_Days_has, k_Days_has⟩ A_Days_has fun _ _ _ _ _ _ us hl => match us, hl with | [_, _], _ => rfl) (ownMK_n F_Days_has ⟨fi_Days_has, if_Days_has, k_Days_has⟩ A_Days_has 0 ["day"] (fun us ws => [us.getD 0 .none, ws.getD 0 .none]) (fun vs zs => [vs.getD 0 .non, zs.getD 0 .non]) (fun r1 r3 => .cons (vals_getD r1 0) (.cons (vals_getD r3 0) (.nil))) fun _ _ _ _ _ _ us ws l1 l3 => match us, ws, l1, l3 with | [_], [_], _, _ => rfl) n_len n_min n_max n_range n_repr n_list mg_MOST_PERIOD
end Pm
open PySem PySem.W PyProof.Rows
set_option maxRecDepth 100000 in
set_option maxHeartbeats 0 in
theorem PySem.Challenge.cw_paymill_k13_days_made_and_refused_holds : PySem.Challenge.rw_paymill_k13_days_made_and_refused.Holds := by
  w_on; o_law; k_head; (case hw => w_witness2)
  k_fill
  refine Pm.walkG (l := PySem.Challenge.rw_paymill_k13_days_made_and_refused) (n := 63) (k := 7) (x := "_law_script") (sp := fun w => Pm.spLaw _) rfl (by decide) rfl ⟨rfl, by decide, by decide⟩ (fun w h Y => PySem.W.kIn_of Y) ?F (fun w H a ns hl _ hS => ⟨a, ns, rfl, hS, hl, fun _ => rfl⟩)
  case F =>
    intro w mg fa h KX G hmg
    refine' Pm.all_mk KX G hmg ?a_MOST_PERIOD ?a_MOST_TURNED ?a_Days ?pg_Days ?hd_Days ?po_Days ?sa_Days ?mk_Days ?kp_Days ?fi_Days___init__ ?if_Days___init__ ?l_Days___init__ ?c_Days___init__ ?k_Days___init__ ?kw_Days___init___0 ?fi_Days_set_days ?if_Days_set_days ?l_Days_set_days ?c_Days_set_days ?k_Days_set_days ?fi_Days_goes_in ?if_Days_goes_in ?l_Days_goes_in ?c_Days_goes_in ?k_Days_goes_in ?fi_Days_has ?if_Days_has ?l_Days_has ?c_Days_has ?k_Days_has ?le_ED ?re_ED ?nR_Days ?nP_Days ?nM_Days ?nT_Days ?a_NoDays ?x_NoDays ?kp_NoDays ?sb_NoDays ?ty_NoDays ?hg_NoDays ?hk_NoDays ?hd_NoDays ?ha_NoDays ?hn_ ?ht_ ?hm_NoDays ?a_PayError ?a_NoAmount ?a_NoStretch ?a_NoDeed ?a_NoFold ?a_NoLeave ?a_NoLine ?a_NoPot ?a_NoRule ?a_NoTelling ?a_NoTable ?a_NoText ?a_NoPart ?a_NoName ?a_NoNumber ?a_TooLong ?a_NoCut ?te_ ?kV_ ?kPT_ ?wt_0 ?wt_1 ?wt_2 ?wt_3 ?wt_4 ?wt_5 ?wt_6 ?wt_7 ?wt_8 ?wt_9 ?wt_10 ?wt_11 ?wt_12 ?wt_13 ?wt_14 ?wt_15 ?wt_16 ?a_is_whole ?l_is_whole ?c_is_whole ?k_is_whole ?a_are_unlike_wholes ?l_are_unlike_wholes ?c_are_unlike_wholes ?k_are_unlike_wholes ?a_are_days ?l_are_days ?c_are_days ?k_are_days ?a_goes_round ?l_goes_round ?c_goes_round ?k_goes_round ?a_least_rests ?l_least_rests ?c_least_rests ?k_least_rests ?a_law_reel ?l_law_reel ?c_law_reel ?k_law_reel ?a_law_draw ?l_law_draw ?c_law_draw ?k_law_draw ?a_law_bits ?l_law_bits ?c_law_bits ?k_law_bits ?a_law_rests ?l_law_rests ?c_law_rests ?k_law_rests ?a_law_unlike ?l_law_unlike ?c_law_unlike ?k_law_unlike ?a_law_turned ?l_law_turned ?c_law_turned ?k_law_turned ?a_law_given ?l_law_given ?c_law_given ?k_law_given ?a_law_marks ?l_law_marks ?c_law_marks ?k_law_marks ?a_law_in ?l_law_in ?c_law_in ?k_law_in ?a_law_about ?l_law_about ?c_law_about ?k_law_about ?a_law_word ?l_law_word ?c_law_word ?k_law_word ?a_law_odd ?l_law_odd ?c_law_odd ?k_law_odd ?a_law_refused ?l_law_refused ?c_law_refused ?k_law_refused ?a_law_made_of ?l_law_made_of ?c_law_made_of ?k_law_made_of ?a_law ?l_law ?c_law ?k_law ?z_ValueError ?z_all ?z_bool ?z_dict ?z_enumerate ?z_int ?z_isinstance ?z_len ?z_list ?z_max ?z_min ?z_range ?z_repr ?z_sorted ?z_tuple
    (case a_MOST_PERIOD => k_is)
    (case a_MOST_TURNED => k_is)
    (case a_Days => k_is)
    (case pg_Days => k_is)
    (case hd_Days => k_is)
    (case po_Days => k_is)
    (case sa_Days => k_is)
    (case mk_Days => k_is)
    (case kp_Days => k_is)
    (case fi_Days___init__ => k_is)
    (case if_Days___init__ => k_is)
    (case l_Days___init__ => k_is)
    (case c_Days___init__ => k_is)
    (case k_Days___init__ => k_is)
    (case kw_Days___init___0 => k_is)
    (case fi_Days_set_days => k_is)
    (case if_Days_set_days => k_is)
    (case l_Days_set_days => k_is)
    (case c_Days_set_days => k_is)
    (case k_Days_set_days => k_is)
    (case fi_Days_goes_in => k_is)
    (case if_Days_goes_in => k_is)
    (case l_Days_goes_in => k_is)
    (case c_Days_goes_in => k_is)
    (case k_Days_goes_in => k_is)
    (case fi_Days_has => k_is)
    (case if_Days_has => k_is)
    (case l_Days_has => k_is)
    (case c_Days_has => k_is)
    (case k_Days_has => k_is)
    (case le_ED => k_is)
    (case re_ED => (repeat (refine .cons (by first | exact rfl | exact ⟨_, rfl⟩) ?_)); exact .nil)
    (case nR_Days => k_is)
    (case nP_Days => k_is)
    (case nM_Days => k_is)
    (case nT_Days => k_is)
    (case a_NoDays => k_is)
    (case x_NoDays => k_exc)
    (case kp_NoDays => k_is)
    (case sb_NoDays => k_is)
    (case ty_NoDays => k_is)
    (case hg_NoDays => k_is)
    (case hk_NoDays => k_is)
    (case hd_NoDays => k_is)
    (case ha_NoDays => k_is)
    (case hn_ => k_is)
    (case ht_ => k_is)
    (case hm_NoDays => k_is)
    (case a_PayError => k_is)
    (case a_NoAmount => k_is)
    (case a_NoStretch => k_is)
    (case a_NoDeed => k_is)
    (case a_NoFold => k_is)
    (case a_NoLeave => k_is)
    (case a_NoLine => k_is)
    (case a_NoPot => k_is)
    (case a_NoRule => k_is)
    (case a_NoTelling => k_is)
    (case a_NoTable => k_is)
    (case a_NoText => k_is)
    (case a_NoPart => k_is)
    (case a_NoName => k_is)
    (case a_NoNumber => k_is)
    (case a_TooLong => k_is)
    (case a_NoCut => k_is)
    (case te_ => kts_exm)
    (case kV_ => kit_is)
    (case kPT_ => kit_is)
    (case wt_0 => kit_is)
    (case wt_1 => kit_is)
    (case wt_2 => kit_is)
    (case wt_3 => kit_is)
    (case wt_4 => kit_is)
    (case wt_5 => kit_is)
    (case wt_6 => kit_is)
    (case wt_7 => kit_is)
    (case wt_8 => kit_is)
    (case wt_9 => kit_is)
    (case wt_10 => kit_is)
    (case wt_11 => kit_is)
    (case wt_12 => kit_is)
    (case wt_13 => kit_is)
    (case wt_14 => kit_is)
    (case wt_15 => kit_is)
    (case wt_16 => kit_is)
    (case a_is_whole => k_is)
    (case l_is_whole => k_is)
    (case c_is_whole => k_is)
    (case k_is_whole => k_is)
    (case a_are_unlike_wholes => k_is)
    (case l_are_unlike_wholes => k_is)
    (case c_are_unlike_wholes => k_is)
    (case k_are_unlike_wholes => k_is)
    (case a_are_days => k_is)
    (case l_are_days => k_is)
    (case c_are_days => k_is)
    (case k_are_days => k_is)
    (case a_goes_round => k_is)
    (case l_goes_round => k_is)
    (case c_goes_round => k_is)
    (case k_goes_round => k_is)
    (case a_least_rests => k_is)
    (case l_least_rests => k_is)
    (case c_least_rests => k_is)
    (case k_least_rests => k_is)
    (case a_law_reel => k_is)
    (case l_law_reel => k_is)
    (case c_law_reel => k_is)
    (case k_law_reel => k_is)
    (case a_law_draw => k_is)
    (case l_law_draw => k_is)
    (case c_law_draw => k_is)
    (case k_law_draw => k_is)
    (case a_law_bits => k_is)
    (case l_law_bits => k_is)
    (case c_law_bits => k_is)
    (case k_law_bits => k_is)
    (case a_law_rests => k_is)
    (case l_law_rests => k_is)
    (case c_law_rests => k_is)
    (case k_law_rests => k_is)
    (case a_law_unlike => k_is)
    (case l_law_unlike => k_is)
    (case c_law_unlike => k_is)
    (case k_law_unlike => k_is)
    (case a_law_turned => k_is)
    (case l_law_turned => k_is)
    (case c_law_turned => k_is)
    (case k_law_turned => k_is)
    (case a_law_given => k_is)
    (case l_law_given => k_is)
    (case c_law_given => k_is)
    (case k_law_given => k_is)
    (case a_law_marks => k_is)
    (case l_law_marks => k_is)
    (case c_law_marks => k_is)
    (case k_law_marks => k_is)
    (case a_law_in => k_is)
    (case l_law_in => k_is)
    (case c_law_in => k_is)
    (case k_law_in => k_is)
    (case a_law_about => k_is)
    (case l_law_about => k_is)
    (case c_law_about => k_is)
    (case k_law_about => k_is)
    (case a_law_word => k_is)
    (case l_law_word => k_is)
    (case c_law_word => k_is)
    (case k_law_word => k_is)
    (case a_law_odd => k_is)
    (case l_law_odd => k_is)
    (case c_law_odd => k_is)
    (case k_law_odd => k_is)
    (case a_law_refused => k_is)
    (case l_law_refused => k_is)
    (case c_law_refused => k_is)
    (case k_law_refused => k_is)
    (case a_law_made_of => k_is)
    (case l_law_made_of => k_is)
    (case c_law_made_of => k_is)
    (case k_law_made_of => k_is)
    (case a_law => k_is)
    (case l_law => k_is)
    (case c_law => k_is)
    (case k_law => k_is)
    (case z_ValueError => k_is)
    (case z_all => k_is)
    (case z_bool => k_is)
    (case z_dict => k_is)
    (case z_enumerate => k_is)
    (case z_int => k_is)
    (case z_isinstance => k_is)
    (case z_len => k_is)
    (case z_list => k_is)
    (case z_max => k_is)
    (case z_min => k_is)
    (case z_range => k_is)
    (case z_repr => k_is)
    (case z_sorted => k_is)
    (case z_tuple => k_is)

